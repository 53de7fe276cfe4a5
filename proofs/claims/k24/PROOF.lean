import PyProof.Rows.All
import Wide.All
import OpenK.AllK
import Wide.FinOn
import KE.KStateDown
import KE.KIsAll
import HandS.Head0
import HandS.Head1
import HandS.Head2
import HandS.Defaults
import HandS.Words
import HandS.HeadHook1
import HandS.HeadHook2
import HandS.ForMost
import HandS.Wide
import HandS.WideBits
import HandS.IsInst
import HandS.Property
import HandS.ClsMeth
import HandS.FStr
import HandS.MakeKw
import HandS.Flow
import HandS.RaiseMore
import PyProof.ReprRoads
import PyProof.InstEq
import KE.KCallOwn
import KE.KFmtOwn
import HandS.SlotsOwn
import PyProof.ReprNest
import PyProof.StrHeap
import HandS.MakeKwOnly
import HandS.Walk
import HandS.Zip
import HandS.Style
import HandS.Star
import KE.GoesEnum
import HandS.TupAny
import PyProof.ReprLen
import HandS.Strs
import KE.KRevSl
import KE.KOpsOwn
import HandS.NoneIn
import HandS.SortRule
import HandS.TupSets
import HandS.Conv
import HandS.CallLocal
import HandS.Text
import PySem.Challenge.RW_movecells_k24_what_is_a_name
set_option Elab.async false
set_option maxRecDepth 100000
set_option maxHeartbeats 4000000
/-! mvhd0: the head by facts (it stands first in the joined text, so that the top's run has all the memory): the top's run in the kernel over the heap as a tree, the facts each a Bool of what the top has laid. -/
namespace Mv
open PySem PySem.Spec PyProof.Rows L2
/-! ### forced ahead of use -/
def fcA {β : Type} : List Addr → (List Addr → β) → β
  | [], k => k []
  | a :: r, k => HandSHeadRun.frNat a fun a => fcA r fun r => k (a :: r)
theorem fcA_eq {β : Type} : ∀ (l : List Addr) (k : List Addr → β), fcA l k = k l
  | [], _ => rfl
  | a :: r, k => by
    show HandSHeadRun.frNat a (fun a => fcA r fun r => k (a :: r)) = _
    rw [HandSHeadRun.frNat_eq, fcA_eq r]
def fcO {β : Type} (o : Obj) (k : Obj → β) : β := match o with
  | ⟨c, d, dt, sl⟩ => k ⟨c, d, dt, sl⟩
theorem fcO_eq {β : Type} (o : Obj) (k : Obj → β) : fcO o k = k o := by
  obtain ⟨c, d, dt, sl⟩ := o
  rfl
def fcK {β : Type} : PySem.W.Frag → (PySem.W.Frag → β) → β
  | [], k => k []
  | (a, o) :: r, k => fcO o fun o => fcK r fun r => k ((a, o) :: r)
theorem fcK_eq {β : Type} : ∀ (l : PySem.W.Frag) (k : PySem.W.Frag → β), fcK l k = k l
  | [], _ => rfl
  | (a, o) :: r, k => by
    show fcO o (fun o => fcK r fun r => k ((a, o) :: r)) = _
    rw [fcO_eq, fcK_eq r]
/-! ### what the top has laid -/
/-- objects that nothing here looks at -/
def dull : Obj → Bool
  | ⟨.none, none, .fields vs, _⟩ => vs.isEmpty
  | _ => false
def partG (g : Addr → Option Obj) : List Addr → PySem.W.Frag
  | [] => []
  | a :: r => match g a with
    | some o => (match dull o with
      | true => partG g r
      | false => (a, o) :: partG g r)
    | none => partG g r
theorem partG_at {g : Addr → Option Obj} {a : Addr} {o : Obj} : ∀ as : List Addr, (partG g as).lookup a = some o → g a = some o
  | [], e => nomatch (show (none : Option Obj) = some o from e)
  | b :: r, e => by
    unfold partG at e
    cases hb : g b with
    | none =>
      rw [hb] at e
      exact partG_at r e
    | some ob =>
      rw [hb] at e
      dsimp only at e
      cases hd : dull ob with
      | true =>
        rw [hd] at e
        exact partG_at r e
      | false =>
        rw [hd] at e
        have e2 : (match a == b with | true => some ob | false => (partG g r).lookup a) = some o := e
        cases q : (a == b) with
        | true =>
          rw [q] at e2
          cases e2
          rw [beq_iff_eq.mp q, hb]
        | false =>
          rw [q] at e2
          exact partG_at r e2
def upTo : Nat → Nat → List Addr
  | 0, _ => []
  | m + 1, n => n :: upTo m (n + 1)
/-! ### defs -/
structure DM where
  ad : PySem.W.Frag → Addr
  name : Str
  qual : Str
  st : Stmt
  dv : List He.Dv := []
abbrev SeeT : Type := Option (Str × Str × Arguments × FuncBody × Scope × Addr × List (Str × Addr) × Addr)
def DM.see (K : PySem.W.Frag) (d : DM) : SeeT := match K.lookup (d.ad K) with
  | some ⟨_, _, .func u, _⟩ => some (u.name, u.qualname, u.params, u.body, u.scope, u.globals, u.closure, u.builtins)
  | _ => none
def DM.val (d : DM) : SeeT := some (d.name, d.qual, defArgs d.st, .stmts (defBody d.st), defScope d.st, mainGlobals, [], builtinsNs)
def DM.dvs (K : PySem.W.Frag) (d : DM) : List V := d.dv.map (He.Dv.v K)
def DM.ok (K : PySem.W.Frag) (d : DM) : Bool := PySem.W.keepIn K (.ref (d.ad K)) && (match K.lookup (d.ad K) with
  | some ⟨_, _, .func u, _⟩ => PySem.W.codeIn K u.code d.qual && He.dflB K u.defaults (d.dvs K)
  | _ => false)
/-! ### the Hook -/
abbrev AlM : Type := Bool × List SeeT
def obK (fa : List (PySem.W.Frag → Bool)) (fn : List DM) (K : PySem.W.Frag) : AlM := ((fa.all fun f => f K) && fn.all fun d => d.ok K, fn.map fun d => d.see K)
def vaM (fn : List DM) : AlM := (true, fn.map DM.val)
def SaM (fa : List (PySem.W.Frag → Bool)) (fn : List DM) (K : PySem.W.Frag) : Prop := obK fa fn K = vaM fn
def obM (n0 : Nat) (fa : List (PySem.W.Frag → Bool)) (fn : List DM) (n : Nat) (g : Addr → Option Obj) : AlM :=
  fcA (mainGlobals :: cStatics :: (upTo (n - n0) n0).reverse) fun as => fcK (partG g as) fun K => obK fa fn K
theorem obM_eq {n0 : Nat} {fa : List (PySem.W.Frag → Bool)} {fn : List DM} {n : Nat} {g : Addr → Option Obj} : obM n0 fa fn n g = obK fa fn (partG g (mainGlobals :: cStatics :: (upTo (n - n0) n0).reverse)) := by
  unfold obM
  rw [fcA_eq, fcK_eq]
def hookM (n0 : Nat) (fa : List (PySem.W.Frag → Bool)) (fn : List DM) : PySem.W.Hook where
  α := AlM
  obs := fun s => obM n0 fa fn s.heap.objs.size s.heap.get?
  val := fun _ => vaM fn
  says := fun _ h => ∃ K : PySem.W.Frag, K.In h ∧ SaM fa fn K
  of := fun _ _ e => ⟨_, fun _ _ => partG_at _, obM_eq.symm.trans e⟩
  keeps := fun _ _ _ ⟨K, hK, c⟩ k => ⟨K, PySem.W.Frag.In.keeps hK k, c⟩
def seeM (n0 : Nat) (fa : List (PySem.W.Frag → Bool)) (fn : List DM) (s : PySem.W.SharedT) : AlM := HandSHeadRun.frNat s.n fun n => obM n0 fa fn n (HandSHeadRun.getT s)
theorem seeM_eq {n0 : Nat} {fa : List (PySem.W.Frag → Bool)} {fn : List DM} (s : PySem.W.SharedT) : seeM n0 fa fn s = (hookM n0 fa fn).obs s.abs := by
  unfold seeM
  rw [HandSHeadRun.frNat_eq]
  have e : HandSHeadRun.getT s = s.abs.heap.get? := funext (HandSHeadRun.getT_eq s)
  have n : s.abs.heap.objs.size = s.n := PySem.W.absHeap_size _ _ _
  show _ = obM n0 fa fn s.abs.heap.objs.size s.abs.heap.get?
  rw [e, n]
theorem SaM.fact {fa : List (PySem.W.Frag → Bool)} {fn : List DM} {K : PySem.W.Frag} (c : SaM fa fn K) (i : Nat) {f : PySem.W.Frag → Bool} (h : fa[i]? = some f) : f K = true := by
  have c1 : ((fa.all fun f => f K) && fn.all fun d => d.ok K) = true := congrArg (fun z : AlM => z.1) c
  exact List.all_eq_true.mp (Bool.and_eq_true_iff.mp c1).1 f (List.mem_of_getElem? h)
/-! ### readings of what was found -/
/-- a class's own property: its getter -/
def recAd (K : PySem.W.Frag) (p : Addr) (T : String) : Addr := match PySem.W.recIn K p T with
  | some (.ref a :: _) => a
  | _ => 0
def recB (K : PySem.W.Frag) (p : Addr) (T : String) (f : Addr) : Bool := match PySem.W.recIn K p T with
  | some (.ref a :: _) => decide (a = f)
  | _ => false
theorem recB_ok {K : PySem.W.Frag} {p : Addr} {T : String} {f : Addr} (h : recB K p T f = true) : ∃ r, PySem.W.recIn K p T = some (.ref f :: r) := by
  unfold recB at h
  split at h
  · rename_i a r e
    rw [e, of_decide_eq_true h]
    exact ⟨_, rfl⟩
  · cases h
def strB (o : Option (Option Value)) (z : Str) : Bool := match o with
  | some (some (.str y _)) => decide (y = z)
  | _ => false
theorem strB_ok {o : Option (Option Value)} {z : Str} (h : strB o z = true) : ∃ t, o = some (some (.str z t)) := by
  unfold strB at h
  split at h
  · rw [of_decide_eq_true h]
    exact ⟨_, rfl⟩
  · cases h
def intB (o : Option (Option Value)) (i : Int) : Bool := match o with
  | some (some (.int j _)) => decide (j = i)
  | _ => false
theorem intB_ok {o : Option (Option Value)} {i : Int} (h : intB o i = true) : ∃ t, o = some (some (.int i t)) := by
  unfold intB at h
  split at h
  · rw [of_decide_eq_true h]
    exact ⟨_, rfl⟩
  · cases h
def cvB (o : Option PySem.W.CFound) (i : Int) : Bool := match o with
  | some (.val (.int j _)) => decide (j = i)
  | _ => false
theorem cvB_ok {o : Option PySem.W.CFound} {i : Int} (h : cvB o i = true) : ∃ t, o = some (.val (.int i t)) := by
  unfold cvB at h
  split at h
  · rw [of_decide_eq_true h]
    exact ⟨_, rfl⟩
  · cases h
/-- found at a class: a static method, a class method -/
def sgAd (o : Option PySem.W.CFound) : Addr := match o with
  | some (.get _ (.ref p) _ _) => p
  | _ => 0
def sgB (o : Option PySem.W.CFound) (g : String) (p : Addr) (x c : Value) : Bool := match o with
  | some (.get (.builtin h) (.ref q) y d) => decide (h = g) && (decide (q = p) && (decide (y = x) && decide (d = c)))
  | _ => false
theorem sgB_ok {o : Option PySem.W.CFound} {g : String} {p : Addr} {x c : Value} (h : sgB o g p x c = true) : o = some (.get (.builtin g) (.ref p) x c) := by
  unfold sgB at h
  split at h
  · have ⟨h1, h⟩ := Bool.and_eq_true_iff.mp h
    have ⟨h2, h⟩ := Bool.and_eq_true_iff.mp h
    have ⟨h3, h4⟩ := Bool.and_eq_true_iff.mp h
    rw [of_decide_eq_true h1, of_decide_eq_true h2, of_decide_eq_true h3, of_decide_eq_true h4]
  · cases h
/-- a tuple of two texts -/
def tup2B (o : Option Obj) (x y : Str) : Bool := match o with
  | some ⟨.type c, none, .seq its _, _⟩ => decide (c = "tuple") && (match its.toList with
    | [.str a _, .str b _] => decide (a = x) && decide (b = y)
    | _ => false)
  | _ => false
theorem tup2B_ok {o : Option Obj} {x y : Str} (h : tup2B o x y = true) : ∃ t u n s, o = some ⟨.type "tuple", none, .seq #[.str x t, .str y u] n, s⟩ := by
  unfold tup2B at h
  split at h
  · rename_i c its n s
    have ⟨h1, h2⟩ := Bool.and_eq_true_iff.mp h
    split at h2
    · rename_i a t b u e
      have ⟨h3, h4⟩ := Bool.and_eq_true_iff.mp h2
      have e2 : its = #[.str a t, .str b u] := by
        apply Array.toList_inj.mp
        rw [e]
      rw [of_decide_eq_true h1, e2, of_decide_eq_true h3, of_decide_eq_true h4]
      exact ⟨_, _, _, _, rfl⟩
    · cases h2
  · cases h
/-- a module's tuple of pairs of numbers -/
def prB (K : PySem.W.Frag) (v : Value) (m : Int × Int) : Bool := match v with
  | .ref a => (match K.lookup a with
    | some ⟨.type c, none, .seq its _, _⟩ => decide (c = "tuple") && (match its.toList with
      | [.int x _, .int y _] => decide (x = m.1) && decide (y = m.2)
      | _ => false)
    | _ => false)
  | _ => false
def prsB (K : PySem.W.Frag) : List Value → List (Int × Int) → Bool
  | [], [] => true
  | v :: vs, m :: ms => prB K v m && prsB K vs ms
  | _, _ => false
def mvsB (K : PySem.W.Frag) (a : Addr) (ms : List (Int × Int)) : Bool := match K.lookup a with
  | some ⟨.type c, none, .seq its _, _⟩ => decide (c = "tuple") && (Nat.ble its.size sizeLine && prsB K its.toList ms)
  | _ => false
end Mv
set_option Elab.async false
set_option maxRecDepth 100000
set_option maxHeartbeats 4000000
namespace T0
open PySem L2 Mv
open He (ga ma)
def top (i : Nat) : Stmt := PySem.Challenge.pw_movecells_k24_what_is_a_name.main.body.getD i (.Pass ⟨0, 0, 0, 0⟩)
def q0 (K : PySem.W.Frag) : Bool := decide (PySem.W.specialIn K (.builtin "object.__class__") "__get__" = some (some (.builtin "getset_descriptor.__get__")))
def q1 (K : PySem.W.Frag) : Bool := decide (PySem.W.takesIn K (.builtin "object.__class__") = some true)
def q2 (K : PySem.W.Frag) : Bool := decide (PySem.W.nsIn K mainGlobals "len" = some none)
def q3 (K : PySem.W.Frag) : Bool := decide (PySem.W.nsIn K mainGlobals "abs" = some none)
def q4 (K : PySem.W.Frag) : Bool := decide (PySem.W.nsIn K mainGlobals "max" = some none)
def q5 (K : PySem.W.Frag) : Bool := decide (PySem.W.nsIn K mainGlobals "min" = some none)
def q6 (K : PySem.W.Frag) : Bool := decide (PySem.W.nsIn K mainGlobals "int" = some none)
def q7 (K : PySem.W.Frag) : Bool := decide (PySem.W.nsIn K mainGlobals "bool" = some none)
def q8 (K : PySem.W.Frag) : Bool := decide (PySem.W.nsIn K mainGlobals "str" = some none)
def q9 (K : PySem.W.Frag) : Bool := decide (PySem.W.nsIn K mainGlobals "repr" = some none)
def q10 (K : PySem.W.Frag) : Bool := decide (PySem.W.nsIn K mainGlobals "all" = some none)
def q11 (K : PySem.W.Frag) : Bool := decide (PySem.W.nsIn K mainGlobals "any" = some none)
def q12 (K : PySem.W.Frag) : Bool := decide (PySem.W.nsIn K mainGlobals "range" = some none)
def q13 (K : PySem.W.Frag) : Bool := decide (PySem.W.nsIn K mainGlobals "divmod" = some none)
def q14 (K : PySem.W.Frag) : Bool := decide (PySem.W.nsIn K mainGlobals "isinstance" = some none)
def q15 (K : PySem.W.Frag) : Bool := decide (PySem.W.nsIn K mainGlobals "list" = some none)
def q16 (K : PySem.W.Frag) : Bool := decide (PySem.W.nsIn K mainGlobals "tuple" = some none)
def q17 (K : PySem.W.Frag) : Bool := decide (PySem.W.nsIn K mainGlobals "dict" = some none)
def q18 (K : PySem.W.Frag) : Bool := decide (PySem.W.nsIn K mainGlobals "enumerate" = some none)
def q19 (K : PySem.W.Frag) : Bool := decide (PySem.W.nsIn K mainGlobals "zip" = some none)
def q20 (K : PySem.W.Frag) : Bool := decide (PySem.W.nsIn K mainGlobals "sorted" = some none)
def q21 (K : PySem.W.Frag) : Bool := decide (PySem.W.nsIn K mainGlobals "sum" = some none)
def q22 (K : PySem.W.Frag) : Bool := decide (PySem.W.nsIn K mainGlobals "type" = some none)
def q23 (K : PySem.W.Frag) : Bool := decide (PySem.W.nsIn K mainGlobals "Plan" = some (some (.ref (ga K "Plan"))))
def q24 (K : PySem.W.Frag) : Bool := PySem.W.plainGet K (ga K "Plan") Str.empty
def q25 (K : PySem.W.Frag) : Bool := PySem.W.hasDictIn K (ga K "Plan")
def q26 (K : PySem.W.Frag) : Bool := PySem.W.plainOver K (ga K "Plan")
def q27 (K : PySem.W.Frag) : Bool := decide (PySem.W.findIn K (.ref (ga K "Plan")) "__setattr__" = some (some (.builtin "object.__setattr__")))
def q28 (K : PySem.W.Frag) : Bool := PySem.W.makesIn K (ga K "Plan")
def q29 (K : PySem.W.Frag) : Bool := PySem.W.keepIn K (.ref (ga K "Plan"))
def q30 (K : PySem.W.Frag) : Bool := decide (PySem.W.findIn K (.ref (ga K "Plan")) "__class__" = some (some (.builtin "object.__class__")))
def q31 (K : PySem.W.Frag) : Bool := decide (PySem.W.mroIn K (ga K "Plan") (.type "object") = some true)
def q32 (K : PySem.W.Frag) : Bool := decide (PySem.W.kitOne K (.ref (ga K "Plan")) (.ref (ga K "Plan")) = some true)
def q33 (K : PySem.W.Frag) : Bool := decide (PySem.W.findIn K (.ref (ga K "Plan")) "__ne__" = some (some (.builtin "object.__ne__")))
def q34 (K : PySem.W.Frag) : Bool := decide (PySem.W.findIn K (.ref (ga K "Plan")) "own_rounds" = some none)
def q35 (K : PySem.W.Frag) : Bool := decide (PySem.W.findIn K (.ref (ga K "Plan")) "own_parts" = some none)
def q36 (K : PySem.W.Frag) : Bool := decide (PySem.W.findIn K (.ref (ga K "Plan")) "own_growth" = some none)
def q37 (K : PySem.W.Frag) : Bool := strB (PySem.W.nsIn K mainGlobals "EAST") "east"
def q38 (K : PySem.W.Frag) : Bool := strB (PySem.W.nsIn K mainGlobals "NORTH") "north"
def q39 (K : PySem.W.Frag) : Bool := intB (PySem.W.nsIn K mainGlobals "FEWEST_PARTS") 2
def q40 (K : PySem.W.Frag) : Bool := intB (PySem.W.nsIn K mainGlobals "MOST_PARTS") 4
def q41 (K : PySem.W.Frag) : Bool := intB (PySem.W.nsIn K mainGlobals "MOST_FINE") 1000
def q42 (K : PySem.W.Frag) : Bool := decide (PySem.W.nsIn K mainGlobals "AXES" = some (some (.ref (ga K "AXES"))))
def q43 (K : PySem.W.Frag) : Bool := tup2B (K.lookup (ga K "AXES")) "east" "north"
def q44 (K : PySem.W.Frag) : Bool := decide (PySem.W.typeIn K (.ref (ga K "Plan")) = some (.type "type"))
def q45 (K : PySem.W.Frag) : Bool := decide (PySem.W.specialIn K (.ref (ga K "Plan")) "__getattribute__" = some (some (.builtin "type.__getattribute__")))
def q46 (K : PySem.W.Frag) : Bool := PySem.W.readsIn K (ga K "Plan") (.type "type")
def q47 (K : PySem.W.Frag) : Bool := cvB (PySem.W.findCls K (.ref (ga K "Plan")) (.type "type") "MOST_ROUNDS") 3
def q48 (K : PySem.W.Frag) : Bool := cvB (PySem.W.findCls K (.ref (ga K "Plan")) (.type "type") "MOST_CUTS") 5
def q49 (K : PySem.W.Frag) : Bool := cvB (PySem.W.findCls K (.ref (ga K "Plan")) (.type "type") "MOST_SIGNS") 32
def q50 (K : PySem.W.Frag) : Bool := decide (PySem.W.nsIn K mainGlobals "Ratio" = some (some (.ref (ga K "Ratio"))))
def q51 (K : PySem.W.Frag) : Bool := PySem.W.plainGet K (ga K "Ratio") Str.empty
def q52 (K : PySem.W.Frag) : Bool := PySem.W.hasDictIn K (ga K "Ratio")
def q53 (K : PySem.W.Frag) : Bool := PySem.W.plainOver K (ga K "Ratio")
def q54 (K : PySem.W.Frag) : Bool := decide (PySem.W.findIn K (.ref (ga K "Ratio")) "__setattr__" = some (some (.builtin "object.__setattr__")))
def q55 (K : PySem.W.Frag) : Bool := PySem.W.makesIn K (ga K "Ratio")
def q56 (K : PySem.W.Frag) : Bool := PySem.W.keepIn K (.ref (ga K "Ratio"))
def q57 (K : PySem.W.Frag) : Bool := decide (PySem.W.findIn K (.ref (ga K "Ratio")) "__class__" = some (some (.builtin "object.__class__")))
def q58 (K : PySem.W.Frag) : Bool := decide (PySem.W.mroIn K (ga K "Ratio") (.type "object") = some true)
def q59 (K : PySem.W.Frag) : Bool := decide (PySem.W.kitOne K (.ref (ga K "Ratio")) (.ref (ga K "Ratio")) = some true)
def q60 (K : PySem.W.Frag) : Bool := decide (PySem.W.findIn K (.ref (ga K "Ratio")) "__ne__" = some (some (.builtin "object.__ne__")))
def q61 (K : PySem.W.Frag) : Bool := decide (PySem.W.findIn K (.ref (ga K "Ratio")) "own_top" = some none)
def q62 (K : PySem.W.Frag) : Bool := decide (PySem.W.findIn K (.ref (ga K "Ratio")) "own_bottom" = some none)
def q63 (K : PySem.W.Frag) : Bool := decide (PySem.W.kitOne K (.ref (ga K "Ratio")) (.type "int") = some false)
def q64 (K : PySem.W.Frag) : Bool := decide (PySem.W.kitOne K (.ref (ga K "Ratio")) (.type "bool") = some false)
def q65 (K : PySem.W.Frag) : Bool := decide (PySem.W.kitOne K (.type "int") (.ref (ga K "Ratio")) = some false)
def q66 (K : PySem.W.Frag) : Bool := decide (PySem.W.kitOne K (.ref (ga K "Plan")) (.type "tuple") = some false)
def q67 (K : PySem.W.Frag) : Bool := decide (PySem.W.kitOne K (.ref (ga K "Ratio")) (.type "tuple") = some false)
def q68 (K : PySem.W.Frag) : Bool := decide (PySem.W.nsIn K mainGlobals "law" = some (some (.ref (ga K "law"))))
def q69 (K : PySem.W.Frag) : Bool := decide (PySem.W.nsIn K mainGlobals "_law_pot" = some (some (.ref (ga K "_law_pot"))))
def q70 (K : PySem.W.Frag) : Bool := decide (PySem.W.nsIn K mainGlobals "_law_right" = some (some (.ref (ga K "_law_right"))))
def q71 (K : PySem.W.Frag) : Bool := decide (PySem.W.findIn K (.ref (ga K "Ratio")) "__repr__" = some (some (.ref (ma K (ga K "Ratio") "__repr__"))))
def q72 (K : PySem.W.Frag) : Bool := PySem.W.isFn K (.ref (ma K (ga K "Ratio") "__repr__"))
def q73 (K : PySem.W.Frag) : Bool := decide (PySem.W.findIn K (.ref (ga K "Plan")) "__repr__" = some (some (.ref (ma K (ga K "Plan") "__repr__"))))
def q74 (K : PySem.W.Frag) : Bool := PySem.W.isFn K (.ref (ma K (ga K "Plan") "__repr__"))
def q75 (K : PySem.W.Frag) : Bool := decide (PySem.W.nsIn K mainGlobals "_law_draw" = some (some (.ref (ga K "_law_draw"))))
def q76 (K : PySem.W.Frag) : Bool := decide (PySem.W.nsIn K mainGlobals "_law_pick" = some (some (.ref (ga K "_law_pick"))))
def q77 (K : PySem.W.Frag) : Bool := decide (PySem.W.nsIn K mainGlobals "_law_rounds" = some (some (.ref (ga K "_law_rounds"))))
def q78 (K : PySem.W.Frag) : Bool := decide (PySem.W.nsIn K mainGlobals "_law_mixed" = some (some (.ref (ga K "_law_mixed"))))
def q79 (K : PySem.W.Frag) : Bool := decide (PySem.W.nsIn K mainGlobals "_law_real" = some (some (.ref (ga K "_law_real"))))
def q80 (K : PySem.W.Frag) : Bool := decide (PySem.W.findIn K (.ref (ga K "Plan")) "__init__" = some (some (.ref (ma K (ga K "Plan") "__init__"))))
def q81 (K : PySem.W.Frag) : Bool := PySem.W.isFn K (.ref (ma K (ga K "Plan") "__init__"))
def q82 (K : PySem.W.Frag) : Bool := decide (PySem.W.nsIn K mainGlobals "want_rounds" = some (some (.ref (ga K "want_rounds"))))
def q83 (K : PySem.W.Frag) : Bool := decide (PySem.W.nsIn K mainGlobals "is_round" = some (some (.ref (ga K "is_round"))))
def q84 (K : PySem.W.Frag) : Bool := decide (PySem.W.nsIn K mainGlobals "is_list" = some (some (.ref (ga K "is_list"))))
def q85 (K : PySem.W.Frag) : Bool := decide (PySem.W.nsIn K mainGlobals "is_cut" = some (some (.ref (ga K "is_cut"))))
def q86 (K : PySem.W.Frag) : Bool := decide (PySem.W.nsIn K mainGlobals "is_axis" = some (some (.ref (ga K "is_axis"))))
def q87 (K : PySem.W.Frag) : Bool := decide (PySem.W.nsIn K mainGlobals "are_parts" = some (some (.ref (ga K "are_parts"))))
def q88 (K : PySem.W.Frag) : Bool := decide (PySem.W.nsIn K mainGlobals "is_integer" = some (some (.ref (ga K "is_integer"))))
def q89 (K : PySem.W.Frag) : Bool := decide (PySem.W.nsIn K mainGlobals "parts_along" = some (some (.ref (ga K "parts_along"))))
def q90 (K : PySem.W.Frag) : Bool := decide (PySem.W.findIn K (.ref (ga K "Plan")) "product_of" = some (some (.ref (ma K (ga K "Plan") "product_of"))))
def q91 (K : PySem.W.Frag) : Bool := PySem.W.isFn K (.ref (ma K (ga K "Plan") "product_of"))
def q92 (K : PySem.W.Frag) : Bool := decide (PySem.W.nsIn K mainGlobals "_law_glyphs" = some (some (.ref (ga K "_law_glyphs"))))
def q93 (K : PySem.W.Frag) : Bool := decide (PySem.W.nsIn K mainGlobals "_law_size" = some (some (.ref (ga K "_law_size"))))
def q94 (K : PySem.W.Frag) : Bool := decide (PySem.W.nsIn K mainGlobals "_law_turned" = some (some (.ref (ga K "_law_turned"))))
def q95 (K : PySem.W.Frag) : Bool := decide (PySem.W.findIn K (.ref (ga K "Ratio")) "__init__" = some (some (.ref (ma K (ga K "Ratio") "__init__"))))
def q96 (K : PySem.W.Frag) : Bool := PySem.W.isFn K (.ref (ma K (ga K "Ratio") "__init__"))
def q97 (K : PySem.W.Frag) : Bool := decide (PySem.W.nsIn K mainGlobals "common_part" = some (some (.ref (ga K "common_part"))))
def q98 (K : PySem.W.Frag) : Bool := decide (PySem.W.nsIn K mainGlobals "_law_asked" = some (some (.ref (ga K "_law_asked"))))
def q99 (K : PySem.W.Frag) : Bool := decide (PySem.W.nsIn K mainGlobals "_law_is_right" = some (some (.ref (ga K "_law_is_right"))))
def q100 (K : PySem.W.Frag) : Bool := decide (PySem.W.nsIn K mainGlobals "is_name" = some (some (.ref (ga K "is_name"))))
def q101 (K : PySem.W.Frag) : Bool := decide (PySem.W.nsIn K mainGlobals "want_plan" = some (some (.ref (ga K "want_plan"))))
def q102 (K : PySem.W.Frag) : Bool := decide (PySem.W.nsIn K mainGlobals "has_name_form" = some (some (.ref (ga K "has_name_form"))))
def q103 (K : PySem.W.Frag) : Bool := decide (PySem.W.nsIn K mainGlobals "is_count" = some (some (.ref (ga K "is_count"))))
def q104 (K : PySem.W.Frag) : Bool := decide (PySem.W.nsIn K mainGlobals "phase_at" = some (some (.ref (ga K "phase_at"))))
def q105 (K : PySem.W.Frag) : Bool := decide (PySem.W.findIn K (.ref (ga K "Plan")) "__len__" = some (some (.ref (ma K (ga K "Plan") "__len__"))))
def q106 (K : PySem.W.Frag) : Bool := PySem.W.isFn K (.ref (ma K (ga K "Plan") "__len__"))
def q107 (K : PySem.W.Frag) : Bool := decide (PySem.W.findIn K (.ref (ga K "Plan")) "signs" = some (some (.ref (ma K (ga K "Plan") "signs"))))
def q108 (K : PySem.W.Frag) : Bool := PySem.W.isFn K (.ref (ma K (ga K "Plan") "signs"))
def q109 (K : PySem.W.Frag) : Bool := decide (PySem.W.findIn K (.ref (ga K "Plan")) "parts" = some (some (.ref (ma K (ga K "Plan") "parts"))))
def q110 (K : PySem.W.Frag) : Bool := PySem.W.isFn K (.ref (ma K (ga K "Plan") "parts"))
def q111 (K : PySem.W.Frag) : Bool := decide (PySem.W.nsIn K mainGlobals "want_phase" = some (some (.ref (ga K "want_phase"))))
def q112 (K : PySem.W.Frag) : Bool := decide (PySem.W.nsIn K mainGlobals "children" = some (some (.ref (ga K "children"))))
def q113 (K : PySem.W.Frag) : Bool := decide (PySem.W.nsIn K mainGlobals "want_name" = some (some (.ref (ga K "want_name"))))
def q114 (K : PySem.W.Frag) : Bool := decide (PySem.W.nsIn K mainGlobals "has_name_form" = some (some (.ref (ga K "has_name_form"))))
def q115 (K : PySem.W.Frag) : Bool := decide (PySem.W.nsIn K mainGlobals "name_of" = some (some (.ref (ga K "name_of"))))
def q116 (K : PySem.W.Frag) : Bool := decide (PySem.W.nsIn K mainGlobals "want_fineness" = some (some (.ref (ga K "want_fineness"))))
def q117 (K : PySem.W.Frag) : Bool := decide (PySem.W.nsIn K mainGlobals "is_pair" = some (some (.ref (ga K "is_pair"))))
def q118 (K : PySem.W.Frag) : Bool := decide (PySem.W.findIn K (.ref (ga K "Plan")) "counts" = some (some (.ref (ma K (ga K "Plan") "counts"))))
def q119 (K : PySem.W.Frag) : Bool := PySem.W.isFn K (.ref (ma K (ga K "Plan") "counts"))
def q120 (K : PySem.W.Frag) : Bool := decide (PySem.W.nsIn K mainGlobals "signs_of" = some (some (.ref (ga K "signs_of"))))
def q121 (K : PySem.W.Frag) : Bool := decide (PySem.W.findIn K (.ref (ga K "Plan")) "sign_at" = some (some (.ref (ma K (ga K "Plan") "sign_at"))))
def q122 (K : PySem.W.Frag) : Bool := PySem.W.isFn K (.ref (ma K (ga K "Plan") "sign_at"))
def q123 (K : PySem.W.Frag) : Bool := decide (PySem.W.nsIn K mainGlobals "sign_in" = some (some (.ref (ga K "sign_in"))))
def d_law : DM := ⟨fun K => (ga K "law"), "law", "law", top 67, []⟩
def d_pot : DM := ⟨fun K => (ga K "_law_pot"), "_law_pot", "_law_pot", top 55, []⟩
def d_right : DM := ⟨fun K => (ga K "_law_right"), "_law_right", "_law_right", top 66, []⟩
def d_rrepr : DM := ⟨fun K => (ma K (ga K "Ratio") "__repr__"), "__repr__", "Ratio.__repr__", inClass (top 28) 17, []⟩
def d_prepr : DM := ⟨fun K => (ma K (ga K "Plan") "__repr__"), "__repr__", "Plan.__repr__", inClass (top 44) 18, []⟩
def d_draw : DM := ⟨fun K => (ga K "_law_draw"), "_law_draw", "_law_draw", top 56, []⟩
def d_pick : DM := ⟨fun K => (ga K "_law_pick"), "_law_pick", "_law_pick", top 57, []⟩
def d_rounds : DM := ⟨fun K => (ga K "_law_rounds"), "_law_rounds", "_law_rounds", top 59, []⟩
def d_mixed : DM := ⟨fun K => (ga K "_law_mixed"), "_law_mixed", "_law_mixed", top 58, []⟩
def d_real : DM := ⟨fun K => (ga K "_law_real"), "_law_real", "_law_real", top 60, []⟩
def d_init : DM := ⟨fun K => (ma K (ga K "Plan") "__init__"), "__init__", "Plan.__init__", inClass (top 44) 3, []⟩
def d_wantrounds : DM := ⟨fun K => (ga K "want_rounds"), "want_rounds", "want_rounds", top 42, []⟩
def d_isround : DM := ⟨fun K => (ga K "is_round"), "is_round", "is_round", top 40, []⟩
def d_islist : DM := ⟨fun K => (ga K "is_list"), "is_list", "is_list", top 21, []⟩
def d_iscut : DM := ⟨fun K => (ga K "is_cut"), "is_cut", "is_cut", top 39, []⟩
def d_isaxis : DM := ⟨fun K => (ga K "is_axis"), "is_axis", "is_axis", top 36, []⟩
def d_areparts : DM := ⟨fun K => (ga K "are_parts"), "are_parts", "are_parts", top 38, []⟩
def d_isint : DM := ⟨fun K => (ga K "is_integer"), "is_integer", "is_integer", top 19, []⟩
def d_along1 : DM := ⟨fun K => (ga K "parts_along"), "parts_along", "parts_along", top 41, []⟩
def d_prod : DM := ⟨fun K => (ma K (ga K "Plan") "product_of"), "product_of", "Plan.product_of", inClass (top 44) 6, []⟩
def d_glyphs : DM := ⟨fun K => (ga K "_law_glyphs"), "_law_glyphs", "_law_glyphs", top 62, []⟩
def d_size : DM := ⟨fun K => (ga K "_law_size"), "_law_size", "_law_size", top 61, []⟩
def d_turnedrow : DM := ⟨fun K => (ga K "_law_turned"), "_law_turned", "_law_turned", top 64, []⟩
def d_rinit : DM := ⟨fun K => (ma K (ga K "Ratio") "__init__"), "__init__", "Ratio.__init__", inClass (top 28) 0, [.int 1]⟩
def d_compart : DM := ⟨fun K => (ga K "common_part"), "common_part", "common_part", top 27, []⟩
def d_asked : DM := ⟨fun K => (ga K "_law_asked"), "_law_asked", "_law_asked", top 65, []⟩
def d_isright : DM := ⟨fun K => (ga K "_law_is_right"), "_law_is_right", "_law_is_right", top 63, []⟩
def d_isname2 : DM := ⟨fun K => (ga K "is_name"), "is_name", "is_name", top 51, []⟩
def d_wantplan : DM := ⟨fun K => (ga K "want_plan"), "want_plan", "want_plan", top 45, []⟩
def d_hasform2 : DM := ⟨fun K => (ga K "has_name_form"), "has_name_form", "has_name_form", top 48, []⟩
def d_count : DM := ⟨fun K => (ga K "is_count"), "is_count", "is_count", top 20, []⟩
def d_phaseat : DM := ⟨fun K => (ga K "phase_at"), "phase_at", "phase_at", top 2, []⟩
def d_plen : DM := ⟨fun K => (ma K (ga K "Plan") "__len__"), "__len__", "Plan.__len__", inClass (top 44) 16, []⟩
def d_signs : DM := ⟨fun K => (ma K (ga K "Plan") "signs"), "signs", "Plan.signs", inClass (top 44) 10, []⟩
def d_parts : DM := ⟨fun K => (ma K (ga K "Plan") "parts"), "parts", "Plan.parts", inClass (top 44) 11, []⟩
def d_wantphase : DM := ⟨fun K => (ga K "want_phase"), "want_phase", "want_phase", top 46, []⟩
def d_children : DM := ⟨fun K => (ga K "children"), "children", "children", top 53, []⟩
def d_wantname : DM := ⟨fun K => (ga K "want_name"), "want_name", "want_name", top 49, []⟩
def d_hasform : DM := ⟨fun K => (ga K "has_name_form"), "has_name_form", "has_name_form", top 48, []⟩
def d_nameof : DM := ⟨fun K => (ga K "name_of"), "name_of", "name_of", top 52, []⟩
def d_wantfine : DM := ⟨fun K => (ga K "want_fineness"), "want_fineness", "want_fineness", top 37, []⟩
def d_ispair : DM := ⟨fun K => (ga K "is_pair"), "is_pair", "is_pair", top 50, []⟩
def d_pcounts : DM := ⟨fun K => (ma K (ga K "Plan") "counts"), "counts", "Plan.counts", inClass (top 44) 14, []⟩
def d_signsof : DM := ⟨fun K => (ga K "signs_of"), "signs_of", "signs_of", top 3, []⟩
def d_signat : DM := ⟨fun K => (ma K (ga K "Plan") "sign_at"), "sign_at", "Plan.sign_at", inClass (top 44) 13, []⟩
def d_signin : DM := ⟨fun K => (ga K "sign_in"), "sign_in", "sign_in", top 43, []⟩
def fcs0 : List (PySem.W.Frag → Bool) := [q0, q1, q2, q3, q4, q5, q6, q7, q8, q9, q10, q11, q12, q13, q14, q15, q16, q17, q18, q19, q20, q21, q22, q23, q24, q25, q26, q27, q28, q29]
def fcs1 : List (PySem.W.Frag → Bool) := [q30, q31, q32, q33, q34, q35, q36, q37, q38, q39, q40, q41, q42, q43, q44, q45, q46, q47, q48, q49, q50, q51, q52, q53, q54, q55, q56, q57, q58, q59]
def fcs2 : List (PySem.W.Frag → Bool) := [q60, q61, q62, q63, q64, q65, q66, q67, q68, q69, q70, q71, q72, q73, q74, q75, q76, q77, q78, q79, q80, q81, q82, q83, q84, q85, q86, q87, q88, q89]
def fcs3 : List (PySem.W.Frag → Bool) := [q90, q91, q92, q93, q94, q95, q96, q97, q98, q99, q100, q101, q102, q103, q104, q105, q106, q107, q108, q109, q110, q111, q112, q113, q114, q115, q116, q117, q118, q119]
def fcs4 : List (PySem.W.Frag → Bool) := [q120, q121, q122, q123]
def fcs : List (PySem.W.Frag → Bool) := fcs0 ++ (fcs1 ++ (fcs2 ++ (fcs3 ++ (fcs4))))
def dfs0 : List (DM) := [d_law, d_pot, d_right, d_rrepr, d_prepr, d_draw, d_pick, d_rounds, d_mixed, d_real, d_init, d_wantrounds, d_isround, d_islist, d_iscut, d_isaxis, d_areparts, d_isint, d_along1, d_prod, d_glyphs, d_size, d_turnedrow, d_rinit, d_compart, d_asked, d_isright, d_isname2, d_wantplan, d_hasform2]
def dfs1 : List (DM) := [d_count, d_phaseat, d_plen, d_signs, d_parts, d_wantphase, d_children, d_wantname, d_hasform, d_nameof, d_wantfine, d_ispair, d_pcounts, d_signsof, d_signat, d_signin]
def dfs : List (DM) := dfs0 ++ (dfs1)
def nms0 : List Str := ["_wall", "phase_at", "signs_of", "CellError", "InvalidNumber", "InvalidRounds", "InvalidPhase", "InvalidPair", "InvalidName", "InvalidPlan", "InvalidText", "StateError", "NotBalanced", "LimitError", "TooMany", "DIGITS", "is_integer", "is_count", "is_list", "is_number"]
def nms1 : List Str := ["want_number", "as_ratio", "is_whole_text", "ratio_in", "common_part", "Ratio", "EAST", "NORTH", "AXES", "FEWEST_PARTS", "MOST_PARTS", "MOST_FINE", "is_axis", "want_fineness", "are_parts", "is_cut", "is_round", "parts_along", "want_rounds", "sign_in"]
def nms2 : List Str := ["Plan", "want_plan", "want_phase", "has_name_form", "want_name", "is_pair", "is_name", "name_of", "children", "_law_pot", "_law_draw", "_law_pick", "_law_mixed", "_law_rounds", "_law_real", "_law_size", "_law_glyphs", "_law_is_right", "_law_turned", "_law_asked"]
def nms3 : List Str := ["_law_right"]
def nms : List Str := nms0 ++ nms1 ++ nms2 ++ nms3
abbrev Ro : PySem.W.OpenRow := PySem.W.OpenLaw.row PySem.Challenge.rw_movecells_k24_what_is_a_name
abbrev hkM : PySem.W.Hook := hookM 0 fcs dfs
theorem topRuns (w : World) : HandSHeadRun.RunEq Ro (PySem.W.view Ro.prog [67]) hkM (seeM 0 fcs dfs) 60000 nms w := by
  intro os
  kernel_rfl
end T0
set_option Elab.async false
set_option maxRecDepth 100000
set_option maxHeartbeats 4000000
namespace T0
open PySem L2 Mv
open He (ga ma)
theorem t_name : (HandSHeadRun.topDef Ro.prog 67).name = ("law" : PySem.Str) := by kernel_rfl
theorem t_dfl : (HandSHeadRun.topDef Ro.prog 67).params.defaults = [] := by kernel_rfl
open PySem PySem.W PySem.Calls PyProof.Rows in
set_option maxHeartbeats 0 in
/-- the looks at the law itself, ahead of all else (they want the memory) -/
theorem early (hc : PySem.W.WalkO (PySem.W.view Ro.prog [67]) nms (PySem.W.XL (PySem.W.view Ro.prog [67]) []) hkM.says Ro.toRowW (HandSHeadRun.topDef Ro.prog 67) [] (fun f vs => PySem.call f vs)) : PySem.Challenge.rw_movecells_k24_what_is_a_name.Holds := by
  w_on; o_law
  refine HandSHeadRun.head_any (r := Ro) (q := view Ro.prog [67]) (H := hkM) (ob := Mv.seeM 0 fcs dfs) (M := 60000) (loose := nms) (d := HandSHeadRun.topDef Ro.prog 67) (kwd := []) (fun s => Mv.seeM_eq s)
    (by kernel_rfl) (fun s => by kernel_rfl) topRuns (by kernel_rfl) (by kernel_rfl) (by kernel_rfl) (by rfl) (by first | assumption | decide +kernel) (by decide +kernel) ⟨rfl, rfl, rfl, rfl, rfl, by decide +kernel⟩ ?hw hc
  case hw => w_witness2
end T0
set_option Elab.async false
set_option maxRecDepth 100000
set_option maxHeartbeats 4000000
namespace Mv
open PySem PySem.Spec PyProof.Rows L2
section
variable {X : Cx}
/-- // by any divisor but 0 below 2 ^ 9000 -/
def CDivX (_ j : Int) : Prop := j ≠ 0 ∧ j.natAbs.log2 < 9000
theorem op_fdivX : OpR X (binaryOp .FloorDiv) (rI CDivX fun i j => .int (i.fdiv j)) := opI fun i j _ _ _ _ _ hc q => by
  exact floordiv_int hc.1 q (Or.inl (PyProof.noPylong_of_log2 hc.2))
theorem divp_of {i j : Int} (h : 0 < j) (h2 : j.natAbs.log2 < 9000) : CDivP i j := ⟨h, PyProof.noPylong_of_log2 h2⟩
end
/-! ### guards: no repr is running -/
abbrev GA (A : Around) : Prop := A.guards = some []
theorem ga_deeper {A : Around} {env : Env} (h : GA A) : GA (A.deeper env) := h
theorem ga_make {A : Around} (h : GA A) (C : Addr) (us : List Value) (kw : List (Str × Value)) : GA (A.under (.builtin "type.__call__" ⟨.ref C :: us, kw⟩)) := by
  first | exact h | (simpa [GA, Around.under, Code.guards, Code.isGuard, guardIds, pushGuards] using h)
theorem ga_in1 {A : Around} (h : GA A) : GA A.in1 := h
/-- a def that may be called where no repr is running -/
structure FnG (P : Program) (w : World) (K : PySem.W.Frag) (mg : Str → Option Value) (base : Heap) (k : Nat) (f : Addr) (fd : FuncData) (ps : List Str) (sp : Sp) : Prop where
  len : ∀ vs H Q E, sp vs H Q E → vs.length = ps.length
  run : ∀ (A : Around) (outer : List Env) (s : Shared) (H : Hp) (args : Args) (us : List Value) (vs : List V) (Q : VK) (E : XK), Room k A → GA A → Env0 P w K mg base A outer s H → BindsTo s fd args (ps.zip us) → Vals vs us → sp vs H Q E →
    codeAny (model P w) A (.call (.ref f) args) (CR CX0 outer P w H s Q E) s
theorem FnG.of {P : Program} {w : World} {K : PySem.W.Frag} {mg : Str → Option Value} {base : Heap} {k : Nat} {f : Addr} {fd : FuncData} {ps : List Str} {sp : Sp} (F : FnOk P w K mg base CX0 k f fd ps sp) : FnG P w K mg base k f fd ps sp :=
  ⟨F.len, fun A outer s H args us vs Q E hr _ => F.run A outer s H args us vs Q E hr⟩
theorem FnG.mono {P : Program} {w : World} {K : PySem.W.Frag} {mg : Str → Option Value} {base : Heap} {j k : Nat} {f : Addr} {fd : FuncData} {ps : List Str} {sp : Sp} (F : FnG P w K mg base j f fd ps sp) (h : j ≤ k) : FnG P w K mg base k f fd ps sp :=
  ⟨F.len, fun A outer s H args us vs Q E hr => F.run A outer s H args us vs Q E (hr.mono h)⟩
section
variable {X : Cx} {k : Nat} {f C : Addr} {fd : FuncData} {ps ks : List Str} {sp : Sp} {dvs : List V} {ds : List Value} {x m : Str} {p pos apos : Pos} {e o : Expr} {es : List Expr} {kws : List Keyword} {ta : TE} {t tk : TA}
  {g : List Value → List Value → List Value} {gV : List V → List V → List V}
theorem run_fng {pins : List (Addr × Obj)} {σ : L2.St} {H : Hp} {s : Shared} {Q : VK} {us : List Value} {vs : List V} (F : FnG X.prog X.w X.K X.mg X.base k f fd ps sp) (hr : Room k X.A) (ga : GA X.A) (hb : Binds X.K fd ps ds) (hd : Vals dvs ds)
    (I : Inv X pins σ H s) (r : Vals vs us) (h : sp (vs ++ dvs) H Q E0) : wpAny (model X.prog X.w) X.A (call (.ref f) us) (EP X pins σ Q) X.xe s := by
  have r2 : Vals (vs ++ dvs) (us ++ ds) := r.append hd
  have hl : (us ++ ds).length = ps.length := by rw [← r2.length]; exact F.len _ _ _ _ h
  refine wpAny_call (codeAny_mono (F.run X.A X.stack s H ⟨us, []⟩ (us ++ ds) (vs ++ dvs) Q E0 hr ga I.env0 (hb s us I.kIn hl) r2 h) fun r s' hq => ?_)
  cases r with
  | error e => exact False.elim hq
  | ok fl =>
    cases fl with
    | ret u => exact I.after hq
    | next => exact False.elim hq
    | brk => exact False.elim hq
    | cont => exact False.elim hq
theorem run_fngk {pins : List (Addr × Obj)} {σ : L2.St} {H : Hp} {s : Shared} {Q : VK} {us ws : List Value} {vs zs : List V} (F : FnG X.prog X.w X.K X.mg X.base k f fd ps sp) (hr : Room k X.A) (ga : GA X.A) (hb : KBinds X.K fd ps ks g gV)
    (I : Inv X pins σ H s) (r : Vals vs us) (rz : Vals zs ws) (h : sp (gV vs zs) H Q E0) : wpAny (model X.prog X.w) X.A (call (.ref f) us (ks.zip ws)) (EP X pins σ Q) X.xe s := by
  have r2 := hb.rel r rz
  have hl : (g us ws).length = ps.length := by rw [← r2.length]; exact F.len _ _ _ _ h
  refine wpAny_call (codeAny_mono (F.run X.A X.stack s H ⟨us, ks.zip ws⟩ (g us ws) (gV vs zs) Q E0 hr ga I.env0 (hb.to s us ws I.kIn hl) r2 h) fun r s' hq => ?_)
  cases r with
  | error e => exact False.elim hq
  | ok fl =>
    cases fl with
    | ret u => exact I.after hq
    | next => exact False.elim hq
    | brk => exact False.elim hq
    | cont => exact False.elim hq
end
/-- a def of the module, by its name -/
structure Cg (P : Program) (w : World) (K : PySem.W.Frag) (mg : Str → Option Value) (base : Heap) (k : Nat) (x : Str) (ps : List Str) (sp : Sp) (dvs : List V) : Prop where
  ex : ∃ (f : Addr) (fd : FuncData) (ds : List Value), FnG P w K mg base k f fd ps sp ∧ mg x = some (.ref f) ∧ PySem.W.keepIn K (.ref f) = true ∧ Binds K fd ps ds ∧ Vals dvs ds
section
variable {X : Cx} {k j : Nat} {f C : Addr} {fd : FuncData} {ps ks : List Str} {sp : Sp} {dvs : List V} {ds : List Value} {x m : Str} {p pos apos : Pos} {e o : Expr} {es : List Expr} {kws : List Keyword} {ta : TE} {t tk : TA}
theorem pe_g (c : Cg X.prog X.w X.K X.mg X.base k x ps sp dvs) (hr : Room j X.A) (ga : GA X.A) (hk : k ≤ j) (hg : Gl X x) (ha : PA X (e :: es) t)
    (hdb : (x == ("__debug__" : Str)) = false := by decide) (he : starEach (e :: es) X.env = (false, eval e X.env) :: starEach es X.env := by rfl) (hpl : (backTo pos (starEach es X.env)).any (·.1) = false := by rfl) :
    PE X (.Call (.Name x p) (e :: es) [] pos) (tCall sp dvs E0 t) := by
  obtain ⟨f, fd, ds, F, hm, kp, hb, hd⟩ := c.ex
  refine ⟨fun pins s σ H Q I h => ?_⟩
  refine wpAny_Call_Name_kw (ld_glob I hg hm ?_ hdb)
  exact PySem.W.callWith_K (h₀ := X.base) I.ok.mod.kin kp (thn (ha.run pos pins s σ H _ I h) fun us s1 ⟨vs, H1, I1, r, q⟩ => ⟨I1.kIn, run_fng F (hr.mono hk) ga hb hd I1 r q⟩) he hpl
theorem pe_g0 (c : Cg X.prog X.w X.K X.mg X.base k x ps sp dvs) (hr : Room j X.A) (ga : GA X.A) (hk : k ≤ j) (hg : Gl X x) (hdb : (x == ("__debug__" : Str)) = false := by decide) : PE X (.Call (.Name x p) [] [] pos) (tCall sp dvs E0 tNil) := by
  obtain ⟨f, fd, ds, F, hm, kp, hb, hd⟩ := c.ex
  refine ⟨fun pins s σ H Q I h => ?_⟩
  refine wpAny_Call_Name_kw (ld_glob I hg hm ?_ hdb)
  exact PySem.W.callWith_K0 I.kIn kp (run_fng (us := []) F (hr.mono hk) ga hb hd I .nil h)
end
section
variable {P : Program} {w : World} {K : PySem.W.Frag} {mg : Str → Option Value} {base : Heap}
/-- THE RULE for a def where no repr is running -/
theorem fng_of {k : Nat} {f : Addr} {name qual : Str} {params : Arguments} {body : List Stmt} {scope : Scope} {dV kV doc pm cdv ct oc : Value} {an od : Option Addr}
    {osl : Array (Option Value)} {N ps : List Str} {sp : Sp} (lk : K.lookup f = some ⟨oc, od, .func (PySem.W.fnOf name qual params body scope dV kV doc pm an cdv ct), osl⟩) (hcd : PySem.W.codeIn K cdv qual = true) (S : FnScope N ps scope)
    (len : ∀ vs H Q E, sp vs H Q E → vs.length = ps.length)
    (hbody : ∀ (A : Around) (outer : List Env) (s : Shared) (H : Hp) (vs : List V) (Q : VK) (E : XK), Room k (A.deeper (envOfC qual scope s.heap.objs.size f cdv)) → GA (A.deeper (envOfC qual scope s.heap.objs.size f cdv)) → sp vs H Q E →
      ∃ t, PSs (cxOf CX0 P w K mg base N qual scope f cdv A outer s H E) body t ∧ t { nx := fun _ H' => Q .non H', rt := Q } (start N vs) H) :
    FnG P w K mg base (k + 1) f (PySem.W.fnOf name qual params body scope dV kV doc pm an cdv ct) ps sp := by
  refine ⟨len, fun A outer s H args us vs Q E hr ga e0 hb r hsp => ?_⟩
  have hl := len _ _ _ _ hsp
  have KX : K.In s.heap := e0.mod.kin.keeps fun b o e => (e0.bs b o e).1
  have lim : s.heap.NoLimit := e0.mod.nolimit.keeps fun b o e => (e0.bs b o e).1
  have hkind : ∀ y ∈ ps.zip us, scope.names.lookup y.1 = some .local ∨ (scope.names.lookup y.1 = some .cell ∧ ((cellsFrom (s.heap.objs.size + 1) scope.names []).lookup y.1).isSome = true) := fun ⟨n, v⟩ hy => by
    rcases S.par n (List.of_mem_zip hy).1 with q | q
    · exact .inl q
    · exact .inr ⟨q, PySem.W.cellsFrom_some _ _ _ (.inl q)⟩
  refine codeAny_call_function hr.depth (KX _ _ lk) rfl S.co S.gen rfl (PySem.W.codeRec_of KX hcd) (hb _ _ _ _ ?_)
  refine wpAny_newFunctionEnv_cells S.kind hkind fun env he s1 x => ?_
  subst he
  refine ⟨lim.keeps x.toInCall.keep, codeAny_func ?_⟩
  obtain ⟨t, ht, hq⟩ := hbody A outer s H vs Q E (hr.deeper _) (ga_deeper ga) hsp
  have I : Inv (cxOf CX0 P w K mg base N qual scope f cdv A outer s H E) [] (start N vs) H s1 := inv_start S hr.hd e0 hl r x
  refine wpAny_mono (ht.run [] s1 (start N vs) H _ I hq) (fun fl s' hs => ?_) fun e s' hs => hs
  have fin : ∀ {σ' : L2.St} {H' : Hp} {v : V} {u : Value}, Inv (cxOf CX0 P w K mg base N qual scope f cdv A outer s H E) [] σ' H' s' → RelV v u → Q v H' → CE outer P w H s Q u s' :=
    fun {σ' H' v u} J rv q => ⟨v, H', J.os, J.bare, J.base, J.hok, rv, q⟩
  cases fl with
  | ret u =>
    obtain ⟨v, σ', H', J, rv, q⟩ := hs
    exact fin J rv q
  | next =>
    obtain ⟨σ', H', J, q⟩ := hs
    exact fin (v := V.non) (u := Value.none) J rfl q
  | brk =>
    obtain ⟨_, _, _, q⟩ := hs
    exact False.elim q
  | cont =>
    obtain ⟨_, _, _, q⟩ := hs
    exact False.elim q
theorem okG {x qual : Str} {st : Stmt} {f : Addr} {fd : FuncData} {N ps : List Str} {k : Nat} {sp : Sp} (F : Fun K x qual st f fd) (S : FnScope N ps (defScope st)) (len : ∀ vs H Q E, sp vs H Q E → vs.length = ps.length)
    (hbody : ∀ (cdv : Value) (A : Around) (outer : List Env) (s : Shared) (H : Hp) (vs : List V) (Q : VK) (E : XK), Room k (A.deeper (envOfC qual (defScope st) s.heap.objs.size f cdv)) → GA (A.deeper (envOfC qual (defScope st) s.heap.objs.size f cdv)) → sp vs H Q E →
      ∃ t, PSs (cxOf CX0 P w K mg base N qual (defScope st) f cdv A outer s H E).nox (defBody st) t ∧ t { nx := fun _ H' => Q .non H', rt := Q } (start N vs) H) : FnG P w K mg base (k + 1) f fd ps sp := by
  obtain ⟨oc, od, kV, doc, pm, an, cdv, ct, osl, rfl, lk, hcd⟩ := F.ex
  refine fng_of lk hcd S len fun A outer s H vs Q E hr ga hsp => ?_
  obtain ⟨t, h, q⟩ := hbody cdv A outer s H vs Q E hr ga hsp
  exact ⟨t, h.nox, q⟩
end
end Mv
set_option Elab.async false
set_option maxRecDepth 100000
set_option maxHeartbeats 4000000
namespace PySem.W
open PySem PySem.Spec PySem.Calls PyProof.Rows
section
variable {prog : Program} {w : World} {A : Around} {E : Value → Shared → Prop} {s : Shared} {K : Frag} {x C f : Addr} {ox : Obj} {od : Option Obj} {b tb : Value}
/-- x != b by object.__ne__ over an own __eq__ -/
theorem mv_ne {Q : Value → Shared → Prop} (hu : A.units + 1 < cLine) (X : K.In s.heap) (I : InstAt s.heap x ox C od) (hb : Looks (model prog w) s.heap (typeOf b) tb) (hn : notFirst K C tb = true)
    (hne : findIn K (.ref C) "__ne__" = some (some (.builtin "object.__ne__"))) (hm : mroIn K C (.type "object") = some true) (hs : findIn K (.ref C) "__eq__" = some (some (.ref f))) (hf : isFn K (.ref f) = true)
    (h : wpAny (model prog w) A.in1 (call (.ref f) [.ref x, b]) (fun v s' => ∃ k, v = .bool k ∧ Q (.bool (!k)) s') E s) : wpAny (model prog w) A (richCompare .NotEq (.ref x) b) Q E s := by
  have one : wpAny (model prog w) A (tryCompare (.ref x) "__ne__" b) (fun r s' => ∃ v, r = some v ∧ Q v s') E s := by
    unfold tryCompare
    have inner : wpAny (model prog w) A (call (.builtin "object.__ne__") [.ref x, b]) (fun v s' => ∃ k, v = .bool k ∧ Q v s') E s := by
      refine wpAny_call (codeAny_call_builtin PySem.F.cmp_object.ne.plain PySem.F.cmpEntry_ne (check_slot (i := "object.__ne__") (owner := "object") (n := "__ne__") (by decide +kernel) (by decide +kernel) (I.type.andThen (looks_mroIn X hm)) (PySem.F.cmpArgs_ne _ _) ?_))
      unfold Builtin.«object.__ne__»
      refine wpAny_bind (m := slotArgs "__ne__" 1 _) (wpAny_pure ?_)
      refine wpAny_bind (m := cRoomFor _ _) (wpAny_cRoomFor hu ?_)
      refine wpAny_bind (m := callSpecialIfBound? (.ref x) (Str.ofString "__eq__") _) (ifBound_K X I hs hf (wpAny_mono h (fun r s' hq => ?_) fun _ _ y => y))
      obtain ⟨k, rfl, hq⟩ := hq
      exact wpAny_bind (wpAny_truthy_bool (wpAny_pure ⟨_, rfl, hq⟩))
    have sp : wpAny (model prog w) A (callSpecialIfBound? (.ref x) "__ne__" [b]) (fun r s' => ∃ k, r = some (.bool k) ∧ Q (.bool k) s') E s := by
      simp only [callSpecialIfBound?, bindSpecialIfBound?]
      refine wpAny_holding (wpAny_bind (wpAny_bind (wpAny_bind (I.type.here ((looks_findIn X hne).here ?_)))))
      simp only [PySem.F.cmp_object.ne.bind]
      refine wpAny_bind (wpAny_askSetting (wpAny_ite ?_))
      have fin : wpAny (model prog w) A (call (.builtin "object.__ne__") ([.ref x] ++ [b]) >>= fun v => pure (some v)) (fun r s' => ∃ k, r = some (.bool k) ∧ Q (.bool k) s') E s :=
        wpAny_bind (wpAny_mono inner (fun v s' h' => by obtain ⟨k, rfl, q⟩ := h'; exact wpAny_pure ⟨k, rfl, q⟩) fun _ _ h' => h')
      split
      · exact wpAny_bind (wpAny_pure (wpAny_pure fin))
      · exact wpAny_tryCatch (wpAny_bind (wpAny_pure (wpAny_pure fin)))
    refine wpAny_bind (wpAny_mono sp (fun r s' hr => ?_) fun _ _ e => e)
    obtain ⟨k, rfl, q⟩ := hr
    exact wpAny_pure ⟨_, rfl, q⟩
  unfold richCompare
  simp only [oneThing_ref]
  refine wpAny_holding (wpAny_bind (wpAny_cRoomFor (by omega) ?_))
  refine wpAny_bind (I.type.here (wpAny_bind (hb.here ?_)))
  split
  · rename_i q
    have e : subIn K tb (.ref C) = some false := by
      rcases Bool.or_eq_true_iff.mp hn with e | e
      · rw [beq_iff_eq.mp e] at q; simp at q
      · exact beq_iff_eq.mp e
    refine wpAny_bind ((looks_subIn X e).here ?_)
    simp only [Bool.false_eq_true, if_false]
    refine wpAny_bind (wpAny_mono one (fun r s' z => ?_) fun _ _ e => e)
    obtain ⟨v, rfl, hq⟩ := z
    exact wpAny_pure hq
  · refine wpAny_bind (wpAny_pure ?_)
    simp only [Bool.false_eq_true, if_false]
    refine wpAny_bind (wpAny_mono one (fun r s' z => ?_) fun _ _ e => e)
    obtain ⟨v, rfl, hq⟩ := z
    exact wpAny_pure hq
end
end PySem.W
namespace Mv
open PySem PySem.Spec PyProof.Rows L2
/-- a def called with the instance and one more, as an operator calls it -/
structure Op2 (P : Program) (w : World) (K : PySem.W.Frag) (mg : Str → Option Value) (base : Heap) (k : Nat) (C : Addr) (m : Str) (sp : Sp) : Prop where
  ex : ∃ (g : Addr) (fd : FuncData) (ps : List Str), FnOk P w K mg base CX0 k g fd ps sp ∧ Binds K fd ps [] ∧ PySem.W.findIn K (.ref C) m = some (some (.ref g)) ∧ PySem.W.isFn K (.ref g) = true
section
variable {X : Cx} {k : Nat} {C : Addr} {sp : Sp}
theorem run_at {A : Around} {pins : List (Addr × Obj)} {σ : L2.St} {H : Hp} {s : Shared} {Q : VK} {us : List Value} {vs : List V} {E' : Value → Shared → Prop} {g : Addr} {fd : FuncData} {ps : List Str} (F : FnOk X.prog X.w X.K X.mg X.base CX0 k g fd ps sp) (hr : Room k A) (hf : A.frames = some X.stack) (hb : Binds X.K fd ps [])
    (I : Inv X pins σ H s) (r : Vals vs us) (h : sp vs H Q E0) : wpAny (model X.prog X.w) A (call (.ref g) us) (EP X pins σ Q) E' s := by
  have hl : (us ++ []).length = ps.length := by rw [List.append_nil, ← r.length]; exact F.len _ _ _ _ h
  have b := hb s us I.kIn hl
  rw [List.append_nil] at b
  have e0 := I.env0
  refine wpAny_call (codeAny_mono (F.run A X.stack s H ⟨us, []⟩ us vs Q E0 hr ⟨hf, e0.mod, e0.bs, e0.bsz, e0.funs, e0.frf, e0.hok, e0.bare⟩ b r h) fun r s' hq => ?_)
  cases r with
  | error e => exact False.elim hq
  | ok fl =>
    cases fl with
    | ret u => exact I.after hq
    | next => exact False.elim hq
    | brk => exact False.elim hq
    | cont => exact False.elim hq
/-- x == y, x an instance of the class at C with an own __eq__ -/
def rEqO (K : PySem.W.Frag) (C : Addr) (sp : Sp) : R2 := fun x y H Q => ∃ a dx fs t, x = .ref a ∧ H a = some (.ins C dx fs) ∧ TyX K H y t ∧ PySem.W.notFirst K C t = true ∧ sp [x, y] H Q E0
def rNeO (K : PySem.W.Frag) (C : Addr) (sp : Sp) : R2 := fun x y H Q => ∃ a dx fs t, x = .ref a ∧ H a = some (.ins C dx fs) ∧ TyX K H y t ∧ PySem.W.notFirst K C t = true ∧ sp [x, y] H (fun v H' => ∃ k, v = .bl k ∧ Q (.bl (!k)) H') E0
theorem op_eqO (c : Op2 X.prog X.w X.K X.mg X.base k C "__eq__" sp) (hr : Room k X.A) : OpR X (compareOp .Eq) (rEqO X.K C sp) := by
  obtain ⟨g, fd, ps, F, hb, hs, hf⟩ := c.ex
  intro pins s σ H x y v u Q I rx ry h
  obtain ⟨a, dx, fs, t, rfl, ea, ty, hn, q⟩ := h
  obtain rfl : v = Value.ref a := rx
  obtain ⟨mA, O, _⟩ := ins_get I.hok ea
  obtain ⟨od, J, _⟩ := O.look
  obtain ⟨m, hF⟩ := I.fr
  obtain ⟨P, kx, hP, _⟩ := kit_of I ry ty
  show wpAny _ _ (richCompare .Eq _ _) _ _ _
  refine PySem.W.cmp_K (op := .Eq) hr.units0 hF I.ok.mod.kin J (kx.ty _ _ I.kIn hP) hn hs hf ?_
  refine wpAny_mono (run_at (vs := [.ref a, y]) F hr I.ok.frames hb I (.cons rfl (.cons ry .nil)) q) (fun w s' z => ?_) fun _ _ x => x
  obtain ⟨z', H', I', rz, qz⟩ := z
  exact SlX.cmpback rz ⟨z', H', I', rz, qz⟩
theorem op_neO (c : Op2 X.prog X.w X.K X.mg X.base k C "__eq__" sp) (hr : Room (k + 1) X.A) (hne : PySem.W.findIn X.K (.ref C) "__ne__" = some (some (.builtin "object.__ne__"))) (hm : PySem.W.mroIn X.K C (.type "object") = some true) :
    OpR X (compareOp .NotEq) (rNeO X.K C sp) := by
  obtain ⟨g, fd, ps, F, hb, hs, hf⟩ := c.ex
  intro pins s σ H x y v u Q I rx ry h
  obtain ⟨a, dx, fs, t, rfl, ea, ty, hn, q⟩ := h
  obtain rfl : v = Value.ref a := rx
  obtain ⟨mA, O, _⟩ := ins_get I.hok ea
  obtain ⟨od, J, _⟩ := O.look
  obtain ⟨P, kx, hP, _⟩ := kit_of I ry ty
  show wpAny _ _ (richCompare .NotEq _ _) _ _ _
  refine PySem.W.mv_ne (by have := hr.units; omega) I.kIn J (kx.ty _ _ I.kIn hP) hn hne hm hs hf ?_
  refine wpAny_mono (run_at (vs := [.ref a, y]) F hr.in1 I.ok.frames hb I (.cons rfl (.cons ry .nil)) q) (fun w s' z => ?_) fun _ _ x => x
  obtain ⟨z', H', I', rz, k', rfl, qz⟩ := z
  obtain rfl : w = Value.bool k' := rz
  exact ⟨k', rfl, .bl _, H', I', rfl, qz⟩
/-- repr(x), x an instance with an own __repr__ -/
def rReprO (C : Addr) (sp : Sp) : List V → Hp → VK → Prop := fun xs H Q => ∃ a dx fs, xs = [.ref a] ∧ H a = some (.ins C dx fs) ∧ sp [.ref a] H (fun v H' => ∃ z, v = .str z ∧ Q v H') E0
theorem call_reprO (c : Op2 X.prog X.w X.K X.mg X.base k C "__repr__" sp) (hr : Room (k + 1) X.A) : CallR X (.builtin "repr") (rReprO C sp) := by
  obtain ⟨g, fd, ps, F, hb, hs, hf⟩ := c.ex
  intro pins s σ H xs us Q I r h
  obtain ⟨a, dx, fs, rfl, ea, q⟩ := h
  obtain ⟨u, rfl, ru⟩ := vals1 r
  obtain rfl : u = Value.ref a := ru
  obtain ⟨mA, O, _⟩ := ins_get I.hok ea
  obtain ⟨od, J, _⟩ := O.look
  obtain ⟨m, hF⟩ := I.fr
  refine PySem.W.repr_K (by have := hr.units; show X.A.units + 1 < cLine; omega) hF I.ok.mod.kin J hs hf ?_
  refine wpAny_mono (run_at (vs := [.ref a]) F hr.in1 I.ok.frames hb I (.cons rfl .nil) q) (fun w s' z => ?_) fun _ _ x => x
  obtain ⟨z', H', I', rz, y, rfl, qz⟩ := z
  obtain ⟨tk, rfl⟩ := rz
  exact ⟨.str y, H', I', ⟨_, rfl⟩, qz⟩
/-- str(x), x an instance with an own __str__ -/
theorem call_strO (c : Op2 X.prog X.w X.K X.mg X.base k C "__str__" sp) (hr : Room (k + 2) X.A) : CallR X (.type "str") (rReprO C sp) := by
  obtain ⟨g, fd, ps, F, hb, hs, hf⟩ := c.ex
  intro pins s σ H xs us Q I r h
  obtain ⟨a, dx, fs, rfl, ea, q⟩ := h
  obtain ⟨u, rfl, ru⟩ := vals1 r
  obtain rfl : u = Value.ref a := ru
  obtain ⟨mA, O, _⟩ := ins_get I.hok ea
  obtain ⟨od, J, _⟩ := O.look
  have hr1 : Room (k + 1) X.A.in1 := hr.in1
  have hr2 : Room k X.A.in1.in1 := hr1.in1
  refine PySem.W.kso_call hr2.units0 I.kIn J hs hf ?_
  refine wpAny_mono (run_at (vs := [.ref a]) F hr2 I.ok.frames hb I (.cons rfl .nil) q) (fun w s' z => ?_) fun _ _ x => x
  obtain ⟨z', H', I', rz, y, rfl, qz⟩ := z
  obtain ⟨tk, rfl⟩ := rz
  exact ⟨.str y, H', I', ⟨_, rfl⟩, qz⟩
/-- repr of lists and tuples of data -/
def rReprD (K : PySem.W.Frag) : List V → Hp → VK → Prop := fun xs H Q => ∃ a d, xs = [.ref a] ∧ Dp K H (.ref a) d ∧ d.showable = true ∧ d.hasDict = false ∧ d.depth ≤ 60 ∧ d.shown.length ≤ sizeLine ∧ Q (.str d.shown) H
theorem call_reprD (ga : GA X.A) (hr : Room k X.A) : CallR X (.builtin "repr") (rReprD X.K) := by
  intro pins s σ H xs us Q I r h
  obtain ⟨a, d, rfl, hd, hs, hn, hz, hl, q⟩ := h
  obtain ⟨u, rfl, ru⟩ := vals1 r
  obtain rfl : u = Value.ref a := ru
  obtain ⟨as, rd⟩ := hd.reads I d _ _ rfl
  refine repr_of_reads' rd hs (fun z => absurd z (by rw [hn]; simp)) ga (by have := hr.units; omega) (fun _ _ e => e) (fun h' u tk hk => ?_) hl
  exact ⟨.str _, H, I.kept hk, ⟨_, rfl⟩, q⟩
end
end Mv
set_option Elab.async false
set_option maxRecDepth 100000
set_option maxHeartbeats 4000000
namespace Mv
open PySem PySem.Spec PyProof.Rows L2
theorem loop_frames {A : Around} {args : Args} : (A.under (.builtin "list.__repr__.loop" args)).frames = A.frames := by
  first | rfl | (simp [Around.under, Code.envs, Code.isFrame, pushEnvs])
theorem loop_room {A : Around} {k : Nat} {args : Args} (r : Room (k + 1) A) : Room k (A.under (.builtin "list.__repr__.loop" args)) :=
  ⟨r.hd, by
    have h := r.dp
    have e : (A.under (.builtin "list.__repr__.loop" args)).depth = A.depth + 1 := by
      first | rfl | simp [Around.under, Code.weight, Code.isCreation, Code.isGuard, Code.isCaller, Code.frames, Code.isFrame, guardIds]
    rw [e]; omega, by
    have h := r.un
    rw [units_under_list_loop]; omega⟩
/-- what repr of the value v is where it stands inside lists -/
def RepX (X : Cx) (H : Hp) (k : Nat) (v : V) (t : Str) : Prop :=
  ∀ (A : Around) (base : Nat), Room k A → A.frames = some X.stack → base + t.length ≤ sizeLine →
    ∀ (pins : List (Addr × Obj)) (s : Shared) (σ : L2.St) (u : Value) (Q : Str → Shared → Prop) (E : Value → Shared → Prop), RelV v u → Inv X pins σ H s → (∀ s', Inv X pins σ H s' → Q t s') →
      wpAny (model X.prog X.w) A (pyReprUnder base u) Q E s
section
variable {X : Cx} {k : Nat} {C : Addr} {sp : Sp} {H : Hp}
theorem RepX.own {a dx : Addr} {fs : List (Str × V)} {t : Str} (c : Op2 X.prog X.w X.K X.mg X.base k C "__repr__" sp) (ea : H a = some (.ins C dx fs))
    (hsp : ∀ Q : VK, Q (.str t) H → sp [.ref a] H Q E0) : RepX X H k (.ref a) t := by
  obtain ⟨g, fd, ps, F, hb, hs, hf⟩ := c.ex
  intro A base hr hfr hz pins s σ u Q E ru I hq
  obtain rfl : u = Value.ref a := ru
  obtain ⟨mA, O, _⟩ := ins_get I.hok ea
  obtain ⟨od, J, _⟩ := O.look
  refine wpAny_pyReprUnder_ref (by omega) ?_
  unfold pyReprObjUnder pyReprObjBy
  refine wpAny_bind (wpAny_cRoomFor hr.units0 ?_)
  refine wpAny_bind (wpAny_bind (J.type.here ((PySem.W.looks_findIn I.kIn hs).here ?_)))
  show wpAny _ _ (if (some (Value.ref g)).isNone = true then _ else _) _ _ _
  rw [if_neg (by simp)]
  have main : wpAny (model X.prog X.w) A (call (.ref g) [.ref a]) (fun v s' => ∃ u, v = .str t u ∧ Q t s') E s := by
    refine wpAny_mono (run_at (vs := [.ref a]) F hr hfr hb I (.cons rfl .nil) (hsp (fun v H' => v = .str t ∧ H' = H) ⟨rfl, rfl⟩)) (fun v s' z => ?_) fun _ _ x => x
    obtain ⟨z', H', I', rz, rfl, rfl⟩ := z
    obtain ⟨tk, rfl⟩ := rz
    exact ⟨tk, rfl, hq s' I'⟩
  have fin : wpAny (model X.prog X.w) A (callSpecialIfBoundBy? (fun g first => match reprUnder? g, first with
      | some twin, [self] => call twin [self, rawInt base]
      | _, _ => call g (first ++ [])) (.ref a) "__repr__") (fun r s' => ∃ u, r = some (.str t u) ∧ Q t s') E s := by
    simp only [callSpecialIfBoundBy?, bindSpecialIfBound?]
    refine wpAny_holding (wpAny_bind (wpAny_bind (wpAny_bind (J.type.here ((PySem.W.looks_findIn I.kIn hs).here ?_)))))
    refine wpAny_bind (wpAny_askSetting (wpAny_ite ?_))
    have m2 : wpAny (model X.prog X.w) A (call (.ref g) ([.ref a] ++ []) >>= fun v => pure (some v)) (fun r s' => ∃ u, r = some (.str t u) ∧ Q t s') E s :=
      wpAny_bind (wpAny_mono main (fun v s' h' => by obtain ⟨u, rfl, q⟩ := h'; exact wpAny_pure ⟨u, rfl, q⟩) fun _ _ h' => h')
    split
    · exact wpAny_bind ((PySem.W.bind_fn I.kIn _ (beq_iff_eq.mp hf)).here (wpAny_pure (by exact m2)))
    · exact wpAny_tryCatch (wpAny_bind ((PySem.W.bind_fn I.kIn _ (beq_iff_eq.mp hf)).here (wpAny_pure (by exact m2))))
  refine wpAny_bind (wpAny_mono fin (fun r s' hr' => ?_) fun _ _ e => e)
  obtain ⟨u, rfl, q⟩ := hr'
  exact wpAny_bind (wpAny_isInstance (T := "str") (b := true) rfl isSubtype_str_str (wpAny_pure ⟨_, _, rfl, q⟩))
/-- items and their texts -/
inductive RepAll (X : Cx) (H : Hp) (k : Nat) : List V → List Str → Prop
  | nil : RepAll X H k [] []
  | cons {v : V} {t : Str} {vs : List V} {ts : List Str} : RepX X H k v t → RepAll X H k vs ts → RepAll X H k (v :: vs) (t :: ts)
theorem RepAll.len : ∀ {vs : List V} {ts : List Str}, RepAll X H k vs ts → ts.length = vs.length
  | _, _, .nil => rfl
  | _, _, .cons _ h => by simp [h.len]
theorem RepAll.at : ∀ {vs : List V} {ts : List Str} {us : List Value} {i : Nat} {u : Value}, RepAll X H k vs ts → Vals vs us → us[i]? = some u → ∃ v t, ts[i]? = some t ∧ RelV v u ∧ RepX X H k v t
  | _, _, _, _, _, .nil, .nil, h => by simp at h
  | _, _, _, 0, _, .cons r _, .cons q _, h => by
    simp at h; subst h
    exact ⟨_, _, rfl, q, r⟩
  | _, _, _, i + 1, _, .cons _ r, .cons _ q, h => by
    obtain ⟨v, t, a, b, c⟩ := RepAll.at (i := i) r q (by simpa using h)
    exact ⟨v, t, by simpa using a, b, c⟩
abbrev partsObj (acc : Array Value) (c : Nat) : Obj := { cls := .type "list", dict := none, data := .seq acc c, slots := #[] }
theorem list_loop {a P : Addr} {vs : List V} {ts : List Str} {A : Around} {base : Nat} {R : Result → Shared → Prop} {σ : L2.St} {pins : List (Addr × Obj)} (hr : Room (k + 1) A) (hfr : A.frames = some X.stack)
    (ha : SqL X.K H a vs) (hT : RepAll X H k vs ts) (hsz : base + (listText ts).length ≤ sizeLine) (hP0 : X.s_0.heap.objs.size ≤ P) (hPL : P ≠ X.env.locals) (hPc : ∀ x c, X.env.cells.lookup x = some c → c ≠ P) (hPp : ∀ p ∈ X.pn ++ pins, p.1 ≠ P) (hPs : P ∉ X.fs)
    (hR : ∀ s' u, Inv X pins σ H s' → R (.ok (.ret (.str (listText ts) u))) s') :
    ∀ (n i : Nat) (s : Shared) (acc : Array Value) (c : Nat) (done : List (Str × Tok)), vs.length - i = n → i ≤ vs.length → Inv X ((P, partsObj acc c) :: pins) σ H s → acc.toList = strValues done → done.map (·.1) = ts.take i →
    codeAny (model X.prog X.w) A (.builtin "list.__repr__.loop" ⟨[.ref a, rawInt i, .ref P, rawInt ((base + piled (ts.take i) : Nat) : Int)], []⟩) R s := by
  have hlen := hT.len
  have hX : (listText ts).length = (textFrom 0 "[" ts).length + 1 := by
    show (textFrom 0 "[" ts ++ "]").length = _
    rw [strLen_append]; rfl
  have hL := textFrom_len ts 0 "["
  have hsz1 : vs.length ≤ sizeLine := by
    have h1 := hL.1
    rw [if_neg (Nat.lt_irrefl 0)] at h1
    omega
  have hsz2 : ∀ t ∈ ts, t.length ≤ sizeLine := fun t ht => by
    have h2 := hL.2.1 t ht
    omega
  have hp3 := piled_le_listText ts
  intro n
  induction n with
  | zero =>
    intro i s acc c done hk hi I hacc hdone
    obtain ⟨its, rv, ⟨oa, na, hoa, _, _, hda⟩, _⟩ := I.list ha
    have hin : i = vs.length := by omega
    have hPo := ClX.pin_at I
    refine codeAny_builtin F.entry_list_repr_loop ?_
    show wpAny _ _ (Builtin.«list.__repr__.loop» ⟨[.ref a, .int i 0, .ref P, .int ((base + piled (ts.take i) : Nat) : Int) 0], []⟩) _ _ s
    rw [repr_loop_tree]
    refine wpAny_bind (wpAny_listItems hoa hda ?_)
    have hnone : its.toArray[(i : Int).toNat]? = none := by
      have := rv.length
      simp; omega
    simp only [hnone]
    unfold reprEnd
    refine wpAny_bind (wpAny_listItems hPo rfl ?_)
    rw [hacc, repr_fold]
    refine wpAny_bind (wpAny_pure ?_)
    have hall : done.map (·.1) = ts := by rw [hdone, hin, ← hlen, List.take_length]
    rw [hall]
    refine wpAny_bind (wpAny_mkStr (wpAny_pure ?_) (show (listText ts).length ≤ sizeLine by omega))
    exact hR _ _ ((ClX.unpin I).tok _)
  | succ n ih =>
    intro i s acc c done hk hi I hacc hdone
    obtain ⟨its, rv, ⟨oa, na, hoa, _, _, hda⟩, _⟩ := I.list ha
    have hil : i < its.length := by have := rv.length; omega
    obtain ⟨v, t, ht, rvu, hrep⟩ := hT.at (i := i) (u := its[i]) rv (by simp [hil])
    have hp1 := piled_take_succ ht
    have hp2 := piled_take_le ts (i + 1)
    refine codeAny_builtin F.entry_list_repr_loop ?_
    show wpAny _ _ (Builtin.«list.__repr__.loop» ⟨[.ref a, .int i 0, .ref P, .int ((base + piled (ts.take i) : Nat) : Int) 0], []⟩) _ _ s
    rw [repr_loop_tree]
    refine wpAny_bind (wpAny_listItems hoa hda ?_)
    have hsome : its.toArray[(i : Int).toNat]? = some its[i] := by simp [hil]
    simp only [hsome]
    rw [Int.toNat_natCast]
    refine wpAny_bind (wpAny_holding (hrep _ (base + piled (ts.take i) + 1) (loop_room hr) (loop_frames.trans hfr) (by omega) _ _ σ _ _ _ rvu I fun s1 I1 => ?_))
    refine wpAny_bind (wpAny_mkStr ?_ (hsz2 t (List.mem_of_getElem? ht)))
    refine wpAny_bind ?_
    show wpAny _ _ (updateSeq P _) _ _ _
    have hasz : acc.size ≤ sizeLine := by
      have e1 : acc.toList.length = acc.size := by simp
      have e2 : (strValues done).length = done.length := by simp [strValues]
      have e3 : done.length = (ts.take i).length := by rw [← hdone, List.length_map]
      have e4 : (ts.take i).length ≤ i := by rw [List.length_take]; omega
      rw [hacc] at e1; omega
    have I2 := I1.tok (s1.toks + 1)
    have hPn : H P = none := ClX.pin_un I1
    have hP2 : ({ s1 with toks := s1.toks + 1 } : Shared).heap.get? P = some (partsObj acc c) := ClX.pin_at I1
    refine wpAny_updateSeq hP2 rfl (wpAny_pure ⟨F.quiet_list_repr_loop _, ?_⟩) hasz
    have e1 : ((i : Int) + 1) = ((i + 1 : Nat) : Int) := by omega
    have e2 : base + piled (ts.take i) + (t.length + 2) = base + piled (ts.take (i + 1)) := by omega
    rw [e1, e2]
    have hup : ∃ c', (s1.heap.update P (Obj.mapSeq (·.push (.str t s1.toks)))).get? P = some (partsObj (acc.push (.str t s1.toks)) c') := ⟨_, Heap.get?_update_self _ (ClX.pin_at I1) rfl⟩
    obtain ⟨c', hup⟩ := hup
    refine ih (i + 1) _ (acc.push (.str t s1.toks)) c' (done ++ [(t, s1.toks)]) (by omega) (by omega) ?_ (by simp [hacc, strValues]) (by simp [List.take_add_one, ht, hdone])
    have I3 := (ClX.unpin I2).turned (t' := s1.toks + 1) (it := P) (h' := s1.heap.update P (Obj.mapSeq (·.push (.str t s1.toks)))) (fun b o hb e => (Heap.get?_update_other _ _ (fun h : P = b => hb h.symm)).trans e) (ClX.pin_un I1) hPL (.inr hP0) hPc hPp
    refine I3.pins_of fun p hp => ?_
    rcases List.mem_cons.mp hp with e | e
    · subst e
      refine ⟨hup, hPn, hPL, hPs, fun v z => nomatch z⟩
    · exact I3.pin p (List.mem_append_right _ e)
/-- repr of a list whose items have such texts -/
def rReprL (X : Cx) (k : Nat) : List V → Hp → VK → Prop := fun xs H Q => ∃ a v vs ts, xs = [.ref a] ∧ SqL X.K H a (v :: vs) ∧ RepAll X H k (v :: vs) ts ∧ (listText ts).length ≤ sizeLine ∧ Q (.str (listText ts)) H
theorem call_reprL (ga : GA X.A) (hr : Room (k + 2) X.A) : CallR X (.builtin "repr") (rReprL X k) := by
  intro pins s σ H xs us Q I r h
  obtain ⟨a, v, vs, ts, rfl, hS, hT, hz, q⟩ := h
  obtain ⟨u, rfl, ru⟩ := vals1 r
  obtain rfl : u = Value.ref a := ru
  obtain ⟨its, rv, ⟨oa, na, hoa, hc, hd, hda⟩, _⟩ := I.list hS
  obtain ⟨i0, irest, rfl⟩ : ∃ i0 irest, its = i0 :: irest := by
    cases rv with
    | cons _ _ => exact ⟨_, _, rfl⟩
  have hTy : s.TypeIs (.ref a) "list" := ⟨oa, hoa, hc⟩
  have hr1 : Room (k + 1) X.A.in1 := hr.in1
  refine call_repr_slot (by have := hr.units; omega) hTy F.slot_list_repr.toG ?_
  refine wpAny_call (codeAny_call_builtin F.slot_list_repr.plain F.entry_list_repr (F.slot_list_repr.check _ _ _ _ _ _ _ _ hTy (F.args_list_repr_1 _) ?_))
  refine wpAny_list_repr_head (A := X.A.in1.in1) (b := 0) (g := []) ga (fun _ _ _ z => nomatch z) hoa hda ?_
  refine wpAny_bind (m := newList []) (wpAny_newObj_type ?_)
  refine wpAny_pure ⟨F.quiet_list_repr_loop _, ?_⟩
  have I1 : Inv X ((s.heap.objs.size, partsObj #[] 0) :: pins) σ H { s with heap := s.heap.push (partsObj #[] 0), toks := s.toks } :=
    ClX.pin_new I (fun _ _ z => Heap.get?_push_of_some _ z) (Nat.le_refl _) (Heap.get?_push_size s.heap rfl) (fun v z => nomatch z)
  refine list_loop (P := s.heap.objs.size) (base := 0) (pins := pins) (σ := σ) hr1 I.ok.frames hS hT (by omega) I.sz (Nat.ne_of_gt I.lt) (fun x c e => ?_) (fun p hp => ?_) (I.nofs (Nat.le_refl _)) (fun s' u I' => ?_) _ 0 _ #[] 0 [] rfl (Nat.zero_le _) I1 rfl (by simp)
  · obtain ⟨_, ob, hob, _⟩ := I.cell x c e
    exact Nat.ne_of_lt (Heap.lt_size hob)
  · exact Nat.ne_of_lt (Heap.lt_size (I.pin p hp).1)
  · exact ⟨_, _, rfl, .str _, H, I', ⟨_, rfl⟩, q⟩
end
end Mv
set_option Elab.async false
set_option maxRecDepth 100000
set_option maxHeartbeats 4000000
namespace Mv
open PySem PySem.Spec PyProof.Rows L2
/-- a def of the text, its defaults dvs -/
abbrev Df (K : PySem.W.Frag) (x qual : Str) (st : Stmt) (dvs : List V) (f : Addr) (fd : FuncData) : Prop := FunD K x qual (defArgs st) (defBody st) (defScope st) dvs [] f fd
section
variable {P : Program} {w : World} {K : PySem.W.Frag} {mg : Str → Option Value} {base : Heap}
theorem Df.mk0 {x qual : Str} {st : Stmt} {f : Addr} {oc : Value} {od an : Option Addr} {osl : Array (Option Value)} {kV doc pm cdv ct : Value} (l : K.lookup f = some ⟨oc, od, .func (PySem.W.fnOf x qual (defArgs st) (defBody st) (defScope st) .none kV doc pm an cdv ct), osl⟩)
    (c : PySem.W.codeIn K cdv qual = true) (k : PySem.W.keepIn K (.ref f) = true) : Df K x qual st [] f (PySem.W.fnOf x qual (defArgs st) (defBody st) (defScope st) .none kV doc pm an cdv ct) :=
  ⟨⟨oc, od, .none, kV, doc, pm, an, cdv, ct, osl, rfl, l, c, .inl ⟨rfl, rfl⟩, .inl rfl⟩, k⟩
theorem dfOk {x qual : Str} {st : Stmt} {dvs : List V} {f : Addr} {fd : FuncData} {N ps : List Str} {k : Nat} {sp : Sp} (F : Df K x qual st dvs f fd) (S : FnScope N ps (defScope st)) (len : ∀ vs H Q E, sp vs H Q E → vs.length = ps.length)
    (hbody : ∀ (cdv : Value) (A : Around) (outer : List Env) (s : Shared) (H : Hp) (vs : List V) (Q : VK) (E : XK), Room k (A.deeper (envOfC qual (defScope st) s.heap.objs.size f cdv)) → sp vs H Q E →
      ∃ t, PSs (cxOf CX0 P w K mg base N qual (defScope st) f cdv A outer s H E).nox (defBody st) t ∧ t { nx := fun _ H' => Q .non H', rt := Q } (start N vs) H) : FnOk P w K mg base CX0 (k + 1) f fd ps sp :=
  FunD.ok F S len fun cdv A outer s H vs Q E hr h => let ⟨t, h1, h2⟩ := hbody cdv A outer s H vs Q E hr h; ⟨t, h1.nox, h2⟩
theorem dfG {x qual : Str} {st : Stmt} {dvs : List V} {f : Addr} {fd : FuncData} {N ps : List Str} {k : Nat} {sp : Sp} (F : Df K x qual st dvs f fd) (S : FnScope N ps (defScope st)) (len : ∀ vs H Q E, sp vs H Q E → vs.length = ps.length)
    (hbody : ∀ (cdv : Value) (A : Around) (outer : List Env) (s : Shared) (H : Hp) (vs : List V) (Q : VK) (E : XK), Room k (A.deeper (envOfC qual (defScope st) s.heap.objs.size f cdv)) → GA (A.deeper (envOfC qual (defScope st) s.heap.objs.size f cdv)) → sp vs H Q E →
      ∃ t, PSs (cxOf CX0 P w K mg base N qual (defScope st) f cdv A outer s H E).nox (defBody st) t ∧ t { nx := fun _ H' => Q .non H', rt := Q } (start N vs) H) : FnG P w K mg base (k + 1) f fd ps sp := by
  obtain ⟨oc, od, dV, kV, doc, pm, an, cdv, ct, osl, rfl, lk, hcd, _, _⟩ := F.ex
  refine fng_of lk hcd S len fun A outer s H vs Q E hr ga hsp => ?_
  obtain ⟨t, h, q⟩ := hbody cdv A outer s H vs Q E hr ga hsp
  exact ⟨t, h.nox, q⟩
theorem Df.bind {x qual : Str} {st : Stmt} {f : Addr} {fd : FuncData} {ps : List Str} (F : Df K x qual st [] f fd)
    (h : ∀ (kV doc pm : Value) (an : Option Addr) (cdv ct : Value) (us : List Value), us.length = ps.length → bindArgs (PySem.W.fnOf x qual (defArgs st) (defBody st) (defScope st) .none kV doc pm an cdv ct) ⟨us, []⟩ = pure (ps.zip us)) : Binds K fd ps [] := by
  obtain ⟨oc, od, dV, kV, doc, pm, an, cdv, ct, osl, rfl, lk, hcd, hd, _⟩ := F.ex
  rcases hd with ⟨_, e⟩ | ⟨e, _⟩
  · subst e
    exact .all (h kV doc pm an cdv ct)
  · exact absurd rfl e
end
/-- a def called by its name -/
structure Ca (P : Program) (w : World) (K : PySem.W.Frag) (mg : Str → Option Value) (base : Heap) (k : Nat) (x : Str) (sp : Sp) (dvs : List V) : Prop where
  ex : ∃ (f : Addr) (fd : FuncData) (ps : List Str) (ds : List Value), FnOk P w K mg base CX0 k f fd ps sp ∧ mg x = some (.ref f) ∧ PySem.W.keepIn K (.ref f) = true ∧ Binds K fd ps ds ∧ Vals dvs ds
/-- a class made by its name; C its address, sp the promise of its __init__ -/
structure Ma (P : Program) (w : World) (K : PySem.W.Frag) (mg : Str → Option Value) (base : Heap) (k : Nat) (x : Str) (C : Addr) (sp : Sp) (dvs : List V) : Prop where
  ex : ∃ (f : Addr) (fd : FuncData) (ps : List Str) (ds : List Value), Mk K C f ∧ FnOk P w K mg base CX0 k f fd ps sp ∧ mg x = some (.ref C) ∧ Binds K fd ps ds ∧ Vals dvs ds
/-- .. by keywords alone -/
structure MaK (P : Program) (w : World) (K : PySem.W.Frag) (mg : Str → Option Value) (base : Heap) (k : Nat) (x : Str) (C : Addr) (sp : Sp) (ks : List Str) (gV : List V → List V → List V) : Prop where
  ex : ∃ (f : Addr) (fd : FuncData) (ps : List Str) (g : List Value → List Value → List Value), Mk K C f ∧ FnOk P w K mg base CX0 k f fd ps sp ∧ mg x = some (.ref C) ∧ KBn K fd ps 1 ks g gV
/-- a method -/
structure Me (P : Program) (w : World) (K : PySem.W.Frag) (mg : Str → Option Value) (base : Heap) (k : Nat) (C : Addr) (m : Str) (sp : Sp) (dvs : List V) : Prop where
  ex : ∃ (f : Addr) (fd : FuncData) (ps : List Str) (ds : List Value), Cls K C ∧ Meth K C m f ∧ FnOk P w K mg base CX0 k f fd ps sp ∧ Binds K fd ps ds ∧ Vals dvs ds
/-- a property -/
structure Pr (P : Program) (w : World) (K : PySem.W.Frag) (mg : Str → Option Value) (base : Heap) (k : Nat) (C : Addr) (m : Str) (sp : Sp) : Prop where
  ex : ∃ (p g : Addr) (fd : FuncData) (ps : List Str), Cls K C ∧ PropOf K C m p g ∧ FnOk P w K mg base CX0 k g fd ps sp ∧ Binds K fd ps []
section
variable {X : Cx} {k j : Nat} {C : Addr} {x m : Str} {sp : Sp} {dvs : List V} {p pos apos : Pos} {e o : Expr} {es : List Expr} {ta : TE} {t tk : TA} {ks : List Str} {gV : List V → List V → List V} {kws : List Keyword}
theorem pe_ca (c : Ca X.prog X.w X.K X.mg X.base k x sp dvs) (hr : Room j X.A) (hk : k ≤ j) (hg : Gl X x) (ha : PA X (e :: es) t)
    (hdb : (x == ("__debug__" : Str)) = false := by decide) (he : starEach (e :: es) X.env = (false, eval e X.env) :: starEach es X.env := by rfl) (hpl : (backTo pos (starEach es X.env)).any (·.1) = false := by rfl) :
    PE X (.Call (.Name x p) (e :: es) [] pos) (tCall sp dvs E0 t) := by
  obtain ⟨f, fd, ps, ds, F, hm, kp, b, d⟩ := c.ex
  exact pe_call F (hr.mono hk) hg hm kp b d pass0 ha hdb he hpl
theorem pe_ma (c : Ma X.prog X.w X.K X.mg X.base k x C sp dvs) (hr : Room j X.A) (hk : k + 1 ≤ j) (hg : Gl X x) (ha : PA X (e :: es) t)
    (hdb : (x == ("__debug__" : Str)) = false := by decide) (he : starEach (e :: es) X.env = (false, eval e X.env) :: starEach es X.env := by rfl) (hpl : (backTo pos (starEach es X.env)).any (·.1) = false := by rfl) :
    PE X (.Call (.Name x p) (e :: es) [] pos) (tMake C sp dvs E0 t) := by
  obtain ⟨f, fd, ps, ds, M, F, hm, b, d⟩ := c.ex
  exact pe_make M F (hr.mono hk) hg hm b d pass0 ha hdb he hpl
theorem pe_me {pl : Sem Bool} (c : Me X.prog X.w X.K X.mg X.base k C m sp dvs) (hr : Room j X.A) (hk : k ≤ j) (he : PE X o ta) (ha : PA X (e :: es) t)
    (hst : starEach (e :: es) X.env = (false, eval e X.env) :: starEach es X.env := by rfl) (hpl : (backTo pos (starEach es X.env)).any (·.1) = false := by rfl)
    (ht : eval (.Call (.Attribute o m apos) (e :: es) [] pos) X.env = (do
      let ov ← eval o X.env
      standAt apos.atName
      let (f, first) ← holding [ov] (getMethod ov m pl)
      callWith pos f first (backTo pos (starEach (e :: es) X.env)) (backToKw pos (keywordEach [] X.env))) := by rfl) :
    PE X (.Call (.Attribute o m apos) (e :: es) [] pos) (tMeth C m sp dvs E0 ta t) := by
  obtain ⟨f, fd, ps, ds, hc, hm, F, b, d⟩ := c.ex
  exact pe_meth (pl := pl) he hc hm F (hr.mono hk) b d pass0 ha hst hpl ht
theorem pe_me0 {pl : Sem Bool} (c : Me X.prog X.w X.K X.mg X.base k C m sp dvs) (hr : Room j X.A) (hk : k ≤ j) (he : PE X o ta)
    (ht : eval (.Call (.Attribute o m apos) [] [] pos) X.env = (do
      let ov ← eval o X.env
      standAt apos.atName
      let (f, first) ← holding [ov] (getMethod ov m pl)
      callWith pos f first (backTo pos (starEach [] X.env)) (backToKw pos (keywordEach [] X.env))) := by rfl) :
    PE X (.Call (.Attribute o m apos) [] [] pos) (tMeth C m sp dvs E0 ta tNil) := by
  obtain ⟨f, fd, ps, ds, hc, hm, F, b, d⟩ := c.ex
  exact pe_meth0 (pl := pl) he hc hm F (hr.mono hk) b d pass0 ht
theorem pe_pr (c : Pr X.prog X.w X.K X.mg X.base k C m sp) (hr : Room j X.A) (hk : k + 1 ≤ j) (he : PE X e ta)
    (hab : attributeBase e m X.env (eval e X.env) = eval e X.env := by rfl) : PE X (.Attribute e m pos) (tProp C sp [] E0 ta) := by
  obtain ⟨p, g, fd, ps, hc, hp, F, b⟩ := c.ex
  exact pe_prop he hc hp F (hr.mono hk) b .nil pass0 hab
theorem pe_mak (c : MaK X.prog X.w X.K X.mg X.base k x C sp ks gV) (hr : Room j X.A) (hk : k + 1 ≤ j) (hg : Gl X x) (hkw : PK X kws tk)
    (hall : (backToKw pos (keywordEach kws X.env)).all (·.1.isSome) = true := by rfl) (hks : (backToKw pos (keywordEach kws X.env)).filterMap (·.1) = ks := by rfl)
    (hdb : (x == ("__debug__" : Str)) = false := by decide) (hpl : ((backTo pos (starEach [] X.env)).any (·.1) || (backToKw pos (keywordEach kws X.env)).any (·.1.isNone)) = false := by rfl) :
    PE X (.Call (.Name x p) [] kws pos) (tMakeK C 0 ks.length sp gV E0 tNil tk) := by
  obtain ⟨f, fd, ps, g, M, F, hm, b⟩ := c.ex
  exact pe_makeK0 M F (hr.mono hk) hg hm b pass0 hkw hall hks hdb hpl
end
section
variable {K : PySem.W.Frag}
/-- keywords of a def without defaults -/
theorem Df.kbn {x qual : Str} {st : Stmt} {f : Addr} {fd : FuncData} {ps : List Str} (F : Df K x qual st [] f fd) (n : Nat) (ks : List Str) (g : {α : Type} → List α → List α → List α)
    (hrel : ∀ {vs zs : List V} {us ws : List Value}, Vals vs us → Vals zs ws → Vals (g vs zs) (g us ws))
    (h : ∀ (kV doc pm : Value) (an : Option Addr) (cdv ct : Value) (us ws : List Value), us.length = n → ws.length = ks.length → bindArgs (PySem.W.fnOf x qual (defArgs st) (defBody st) (defScope st) .none kV doc pm an cdv ct) ⟨us, ks.zip ws⟩ = pure (ps.zip (g us ws))) :
    KBn K fd ps n ks (fun us ws => g us ws) (fun vs zs => g vs zs) := by
  obtain ⟨oc, od, dV, kV, doc, pm, an, cdv, ct, osl, rfl, lk, hcd, hd, _⟩ := F.ex
  rcases hd with ⟨_, e⟩ | ⟨e, _⟩
  · subst e
    exact ⟨fun s us ws X l1 l2 => .of_eq (h kV doc pm an cdv ct us ws l1 l2), fun r1 r2 => hrel r1 r2⟩
  · exact absurd rfl e
end
/-- a def by its name, keywords alone; a method, the same; a static method -/
structure CaK (P : Program) (w : World) (K : PySem.W.Frag) (mg : Str → Option Value) (base : Heap) (k : Nat) (x : Str) (sp : Sp) (ks : List Str) (gV : List V → List V → List V) : Prop where
  ex : ∃ (f : Addr) (fd : FuncData) (ps : List Str) (g : List Value → List Value → List Value), FnOk P w K mg base CX0 k f fd ps sp ∧ mg x = some (.ref f) ∧ PySem.W.keepIn K (.ref f) = true ∧ KBn K fd ps 0 ks g gV
structure MeK (P : Program) (w : World) (K : PySem.W.Frag) (mg : Str → Option Value) (base : Heap) (k : Nat) (C : Addr) (m : Str) (sp : Sp) (ks : List Str) (gV : List V → List V → List V) : Prop where
  ex : ∃ (f : Addr) (fd : FuncData) (ps : List Str) (g : List Value → List Value → List Value), Cls K C ∧ Meth K C m f ∧ FnOk P w K mg base CX0 k f fd ps sp ∧ KBn K fd ps 1 ks g gV
/-- C.m of the class at C is the static def at f -/
structure SMet (K : PySem.W.Frag) (C : Addr) (m : Str) (f : Addr) : Prop where
  ga : PySem.W.specialIn K (.ref C) "__getattribute__" = some (some (.builtin "type.__getattribute__"))
  at_ : ∃ (mc : Value) (p : Addr) (rest : List Value), PySem.W.readsIn K C mc = true ∧ PySem.W.findCls K (.ref C) mc m = some (.get (.builtin "staticmethod.__get__") (.ref p) .none (.ref C)) ∧ PySem.W.recIn K p "staticmethod" = some (.ref f :: rest)
  hv : PySem.W.handedIn (.ref f) = true
  kp : PySem.W.keepIn K (.ref f) = true
structure Sm (P : Program) (w : World) (K : PySem.W.Frag) (mg : Str → Option Value) (base : Heap) (k : Nat) (C : Addr) (m : Str) (sp : Sp) : Prop where
  ex : ∃ (f : Addr) (fd : FuncData) (ps : List Str), SMet K C m f ∧ FnOk P w K mg base CX0 k f fd ps sp ∧ Binds K fd ps []
structure SmK (P : Program) (w : World) (K : PySem.W.Frag) (mg : Str → Option Value) (base : Heap) (k : Nat) (C : Addr) (m : Str) (sp : Sp) (ks : List Str) (gV : List V → List V → List V) : Prop where
  ex : ∃ (f : Addr) (fd : FuncData) (ps : List Str) (g : List Value → List Value → List Value), SMet K C m f ∧ FnOk P w K mg base CX0 k f fd ps sp ∧ KBn K fd ps 0 ks g gV
def tCallKn (n m : Nat) (sp : Sp) (gV : List V → List V → List V) (pre : List V) (tk : TA) : TE := fun σ H Q => tk σ H fun zs H2 => zs.length = m ∧ sp (gV pre zs) H2 Q E0
def tMethKn (C : Addr) (m : Str) (n : Nat) (sp : Sp) (gV : List V → List V → List V) (ta : TE) (tk : TA) : TE := fun σ H Q => ta σ H fun x H1 => ∃ a dx fs, x = .ref a ∧ H1 a = some (.ins C dx fs) ∧ fs.lookup m = none ∧
  tk σ H1 fun zs H2 => zs.length = n ∧ sp (gV [x] zs) H2 Q E0
section
variable {X : Cx} {k j n : Nat} {C f : Addr} {fd : FuncData} {ps : List Str} {x m : Str} {sp : Sp} {dvs : List V} {p pos apos : Pos} {e o : Expr} {es : List Expr} {ta : TE} {t tk : TA} {ks : List Str} {g : List Value → List Value → List Value} {gV : List V → List V → List V} {kws : List Keyword}
theorem run_kn {pins : List (Addr × Obj)} {σ : L2.St} {H : Hp} {s : Shared} {Q : VK} {us ws : List Value} {vs zs : List V} (F : FnOk X.prog X.w X.K X.mg X.base CX0 k f fd ps sp) (hr : Room k X.A) (hb : KBn X.K fd ps n ks g gV)
    (I : Inv X pins σ H s) (r : Vals vs us) (rz : Vals zs ws) (l1 : vs.length = n) (l2 : zs.length = ks.length) (h : sp (gV vs zs) H Q E0) : wpAny (model X.prog X.w) X.A (call (.ref f) us (ks.zip ws)) (EP X pins σ Q) X.xe s := by
  refine wpAny_call (codeAny_mono (F.run X.A X.stack s H ⟨us, ks.zip ws⟩ (g us ws) (gV vs zs) Q E0 hr I.env0 (hb.to s us ws I.kIn (r.length.symm.trans l1) (rz.length.symm.trans l2)) (hb.rel r rz) h) fun r s' hq => ?_)
  cases r with
  | error e => exact False.elim hq
  | ok fl =>
    cases fl with
    | ret u => exact I.after hq
    | next => exact False.elim hq
    | brk => exact False.elim hq
    | cont => exact False.elim hq
theorem pe_cak (c : CaK X.prog X.w X.K X.mg X.base k x sp ks gV) (hr : Room j X.A) (hk : k ≤ j) (hg : Gl X x) (hkw : PK X kws tk)
    (hall : (backToKw pos (keywordEach kws X.env)).all (·.1.isSome) = true := by rfl) (hks : (backToKw pos (keywordEach kws X.env)).filterMap (·.1) = ks := by rfl)
    (hdb : (x == ("__debug__" : Str)) = false := by decide) (hpl : ((backTo pos (starEach [] X.env)).any (·.1) || (backToKw pos (keywordEach kws X.env)).any (·.1.isNone)) = false := by rfl) :
    PE X (.Call (.Name x p) [] kws pos) (tCallKn 0 ks.length sp gV [] tk) := by
  obtain ⟨f, fd, ps, g, F, hm, kp, b⟩ := c.ex
  refine ⟨fun pins s σ H Q I h => ?_⟩
  refine wpAny_Call_Name_kw (ld_glob I hg hm ?_ hdb)
  refine PySem.W.callWith_KW0 (h₀ := X.base) I.ok.mod.kin kp hall ?_ hpl
  refine thn (hkw.run pos pins s σ H _ I h) fun ws s2 ⟨zs, H2, I2, rz, l2, q2⟩ => ⟨I2.kIn, ?_⟩
  rw [hks]
  exact run_kn (us := []) (vs := []) F (hr.mono hk) b I2 .nil rz rfl l2 q2
theorem pe_mek {pl : Sem Bool} (c : MeK X.prog X.w X.K X.mg X.base k C m sp ks gV) (hr : Room j X.A) (hk : k ≤ j) (he : PE X o ta) (hkw : PK X kws tk)
    (hall : (backToKw pos (keywordEach kws X.env)).all (·.1.isSome) = true := by rfl) (hks : (backToKw pos (keywordEach kws X.env)).filterMap (·.1) = ks := by rfl)
    (hpl : ((backTo pos (starEach [] X.env)).any (·.1) || (backToKw pos (keywordEach kws X.env)).any (·.1.isNone)) = false := by rfl)
    (ht : eval (.Call (.Attribute o m apos) [] kws pos) X.env = (do
      let ov ← eval o X.env
      standAt apos.atName
      let (f, first) ← holding [ov] (getMethod ov m pl)
      callWith pos f first (backTo pos (starEach [] X.env)) (backToKw pos (keywordEach kws X.env))) := by rfl) :
    PE X (.Call (.Attribute o m apos) [] kws pos) (tMethKn C m ks.length sp gV ta tk) := by
  obtain ⟨f, fd, ps, g, hc, hm, F, b⟩ := c.ex
  refine ⟨fun pins s σ H Q I h => ?_⟩
  refine PySem.W.methodCall_KW (pl := pl) (thn (he.run pins s σ H _ I h) fun u s1 ⟨x, H1, I1, rx, a, dx, fs, ex, ea, l, q⟩ => ?_) ht
  subst ex
  obtain rfl : u = Value.ref a := rx
  refine getmeth_ok I1 ea hc hm l ?_
  refine PySem.W.callWith_KW0 (first := [.ref a]) (h₀ := X.base) I.ok.mod.kin hm.kp hall ?_ hpl
  refine thn (hkw.run pos pins s1 σ H1 _ I1 q) fun ws s2 ⟨zs, H2, I2, rz, l2, q2⟩ => ⟨I2.kIn, ?_⟩
  rw [hks]
  exact run_kn (us := [.ref a]) (vs := [.ref a]) F (hr.mono hk) b I2 (.cons rfl .nil) rz rfl l2 q2
theorem getsm_ok {pins : List (Addr × Obj)} {σ : L2.St} {H : Hp} {s : Shared} {pl : Sem Bool} {Q : Value × List Value → Shared → Prop} {A : Around} {E : Value → Shared → Prop} (I : Inv X pins σ H s) (c : SMet X.K C m f) (h : ∀ s', Inv X pins σ H s' → Q (.ref f, []) s') :
    wpAny (model X.prog X.w) A (getMethod (.ref C) m pl) Q E s := by
  obtain ⟨mc, pp, rest, rd, at_, rc⟩ := c.at_
  refine PySem.W.method_cls I.kIn c.ga (PySem.W.cls_bind I.kIn rd at_ ?_)
  exact wpAny_call (PySem.W.sm_get (s := { s with toks := s.toks + 1 }) I.kIn rc (PySem.W.handed_on c.hv (h _ (I.tok _))))
/-- C.m(e, ..), m static, C told by an expression -/
def tSm (C : Addr) (sp : Sp) (to : TE) (t : TA) : TE := fun σ H Q => to σ H fun x H1 => x = .ref C ∧ t σ H1 fun vs H2 => sp vs H2 Q E0
def tSmK (C : Addr) (n : Nat) (sp : Sp) (gV : List V → List V → List V) (to : TE) (tk : TA) : TE := fun σ H Q => to σ H fun x H1 => x = .ref C ∧ tk σ H1 fun zs H2 => zs.length = n ∧ sp (gV [] zs) H2 Q E0
theorem pe_sm {pl : Sem Bool} (c : Sm X.prog X.w X.K X.mg X.base k C m sp) (hr : Room j X.A) (hk : k ≤ j) (he : PE X o ta) (ha : PA X (e :: es) t)
    (hst : starEach (e :: es) X.env = (false, eval e X.env) :: starEach es X.env := by rfl) (hpl : (backTo pos (starEach es X.env)).any (·.1) = false := by rfl)
    (ht : eval (.Call (.Attribute o m apos) (e :: es) [] pos) X.env = (do
      let ov ← eval o X.env
      standAt apos.atName
      let (f, first) ← holding [ov] (getMethod ov m pl)
      callWith pos f first (backTo pos (starEach (e :: es) X.env)) (backToKw pos (keywordEach [] X.env))) := by rfl) :
    PE X (.Call (.Attribute o m apos) (e :: es) [] pos) (tSm C sp ta t) := by
  obtain ⟨f, fd, ps, sm, F, b⟩ := c.ex
  refine ⟨fun pins s σ H Q I h => ?_⟩
  refine PySem.W.methodCall_KW (pl := pl) (thn (he.run pins s σ H _ I h) fun u s1 ⟨x, H1, I1, rx, ex, q⟩ => ?_) ht
  subst ex
  obtain rfl : u = Value.ref C := rx
  refine getsm_ok I1 sm fun s1' I1' => ?_
  refine PySem.W.callWith_K (h₀ := X.base) I.ok.mod.kin sm.kp (thn (ha.run pos pins s1' σ H1 _ I1' q) fun us s2 ⟨vs, H2, I2, r, q2⟩ => ⟨I2.kIn, ?_⟩) hst hpl
  exact run_fn (dvs := []) F (hr.mono hk) b .nil pass0 I2 r (by rw [List.append_nil]; exact q2)
theorem pe_smk {pl : Sem Bool} (c : SmK X.prog X.w X.K X.mg X.base k C m sp ks gV) (hr : Room j X.A) (hk : k ≤ j) (he : PE X o ta) (hkw : PK X kws tk)
    (hall : (backToKw pos (keywordEach kws X.env)).all (·.1.isSome) = true := by rfl) (hks : (backToKw pos (keywordEach kws X.env)).filterMap (·.1) = ks := by rfl)
    (hpl : ((backTo pos (starEach [] X.env)).any (·.1) || (backToKw pos (keywordEach kws X.env)).any (·.1.isNone)) = false := by rfl)
    (ht : eval (.Call (.Attribute o m apos) [] kws pos) X.env = (do
      let ov ← eval o X.env
      standAt apos.atName
      let (f, first) ← holding [ov] (getMethod ov m pl)
      callWith pos f first (backTo pos (starEach [] X.env)) (backToKw pos (keywordEach kws X.env))) := by rfl) :
    PE X (.Call (.Attribute o m apos) [] kws pos) (tSmK C ks.length sp gV ta tk) := by
  obtain ⟨f, fd, ps, g, sm, F, b⟩ := c.ex
  refine ⟨fun pins s σ H Q I h => ?_⟩
  refine PySem.W.methodCall_KW (pl := pl) (thn (he.run pins s σ H _ I h) fun u s1 ⟨x, H1, I1, rx, ex, q⟩ => ?_) ht
  subst ex
  obtain rfl : u = Value.ref C := rx
  refine getsm_ok I1 sm fun s1' I1' => ?_
  refine PySem.W.callWith_KW0 (h₀ := X.base) I.ok.mod.kin sm.kp hall ?_ hpl
  refine thn (hkw.run pos pins s1' σ H1 _ I1' q) fun ws s2 ⟨zs, H2, I2, rz, l2, q2⟩ => ⟨I2.kIn, ?_⟩
  rw [hks]
  exact run_kn (us := []) (vs := []) F (hr.mono hk) b I2 .nil rz rfl l2 q2
end
/-- the context stands over this text -/
structure Over (X : Cx) (P : Program) (w : World) (K : PySem.W.Frag) (mg : Str → Option Value) (base : Heap) : Prop where
  p : X.prog = P
  w : X.w = w
  k : X.K = K
  m : X.mg = mg
  b : X.base = base
section
variable {X : Cx} {P : Program} {w : World} {K : PySem.W.Frag} {mg : Str → Option Value} {base : Heap} {k j : Nat} {C : Addr} {sp : Sp}
theorem op_eqO' (c : Op2 P w K mg base k C "__eq__" sp) (hr : Room j X.A) (hk : k ≤ j) (e : Over X P w K mg base := by exact ⟨rfl, rfl, rfl, rfl, rfl⟩) : OpR X (compareOp .Eq) (rEqO K C sp) := by
  obtain ⟨rfl, rfl, rfl, rfl, rfl⟩ := e
  exact op_eqO c (hr.mono hk)
theorem op_neO' (c : Op2 P w K mg base k C "__eq__" sp) (hr : Room j X.A) (hk : k + 1 ≤ j) (hne : PySem.W.findIn K (.ref C) "__ne__" = some (some (.builtin "object.__ne__"))) (hm : PySem.W.mroIn K C (.type "object") = some true) (e : Over X P w K mg base := by exact ⟨rfl, rfl, rfl, rfl, rfl⟩) : OpR X (compareOp .NotEq) (rNeO K C sp) := by
  obtain ⟨rfl, rfl, rfl, rfl, rfl⟩ := e
  exact op_neO c (hr.mono hk) hne hm
theorem call_strO' (c : Op2 P w K mg base k C "__str__" sp) (hr : Room j X.A) (hk : k + 2 ≤ j) (e : Over X P w K mg base := by exact ⟨rfl, rfl, rfl, rfl, rfl⟩) : CallR X (.type "str") (rReprO C sp) := by
  obtain ⟨rfl, rfl, rfl, rfl, rfl⟩ := e
  exact call_strO c (hr.mono hk)
theorem call_reprO' (c : Op2 P w K mg base k C "__repr__" sp) (hr : Room j X.A) (hk : k + 1 ≤ j) (e : Over X P w K mg base := by exact ⟨rfl, rfl, rfl, rfl, rfl⟩) : CallR X (.builtin "repr") (rReprO C sp) := by
  obtain ⟨rfl, rfl, rfl, rfl, rfl⟩ := e
  exact call_reprO c (hr.mono hk)
theorem call_isi' (e : X.K = K := by (conv => lhs; whnf)) : CallR X (.builtin "isinstance") (rIsi K) := by
  subst e
  exact call_isi
end
/-! the built-ins by their names -/
theorem bt_len : bootBuiltins "len" = some (.builtin "len") := by decide +kernel
theorem bt_abs : bootBuiltins "abs" = some (.builtin "abs") := by decide +kernel
theorem bt_max : bootBuiltins "max" = some (.builtin "max") := by decide +kernel
theorem bt_min : bootBuiltins "min" = some (.builtin "min") := by decide +kernel
theorem bt_divmod : bootBuiltins "divmod" = some (.builtin "divmod") := by decide +kernel
theorem bt_isinstance : bootBuiltins "isinstance" = some (.builtin "isinstance") := by decide +kernel
theorem bt_all : bootBuiltins "all" = some (.builtin "all") := by decide +kernel
theorem bt_any : bootBuiltins "any" = some (.builtin "any") := by decide +kernel
theorem bt_repr : bootBuiltins "repr" = some (.builtin "repr") := by decide +kernel
theorem bt_sorted : bootBuiltins "sorted" = some (.builtin "sorted") := by decide +kernel
theorem bt_enumerate : bootBuiltins "enumerate" = some (.type "enumerate") := by decide +kernel
theorem bt_zip : bootBuiltins "zip" = some (.type "zip") := by decide +kernel
theorem bt_range : bootBuiltins "range" = some (.type "range") := by decide +kernel
theorem bt_sum : bootBuiltins "sum" = some (.builtin "sum") := by decide +kernel
theorem bt_int : bootBuiltins "int" = some (.type "int") := by decide +kernel
theorem bt_str : bootBuiltins "str" = some (.type "str") := by decide +kernel
theorem bt_list : bootBuiltins "list" = some (.type "list") := by decide +kernel
theorem bt_tuple : bootBuiltins "tuple" = some (.type "tuple") := by decide +kernel
theorem bt_bool : bootBuiltins "bool" = some (.type "bool") := by decide +kernel
theorem bt_dict : bootBuiltins "dict" = some (.type "dict") := by decide +kernel
theorem bt_set : bootBuiltins "set" = some (.type "set") := by decide +kernel
theorem bt_type : bootBuiltins "type" = some (.type "type") := by decide +kernel
end Mv
set_option Elab.async false
set_option maxRecDepth 100000
set_option maxHeartbeats 4000000
namespace Mv
open PySem PySem.Spec PyProof.Rows L2
theorem same_new {H : Hp} {p : Addr} {o : HO} (h : H p = none) : Same H (upd H p o) := fun z u e => by rw [upd_ne (ne_of_none e h)]; exact e
/-- a new instance and its dict -/
theorem same_make {H : Hp} {x dx : Addr} {o o' : HO} (hx : H x = none) (hdx : H dx = none) (hne : dx ≠ x) : Same H (upd (upd H dx o) x o') :=
  (same_new hdx).trans (same_new (by rw [upd_ne (Ne.symm hne)]; exact hx))
/-- what a new object's writes leave: H' is H0 but for D -/
theorem same_over {H0 H : Hp} {D : Addr} {o : HO} (s : Same H0 H) (hD : H0 D = none) : Same H0 (upd H D o) := fun z u e => by
  rw [upd_ne (ne_of_none e hD)]; exact s _ _ e
/-- [e for x in xs] over a list that stands still, each item's value told by ys; the items may lay new objects, nothing old changes -/
theorem lc_map {K : PySem.W.Frag} {a : Addr} {xs : List V} {n : Nat} {te : TE} {vs : List Nat} {σ : L2.St} {H0 : Hp} {D : Addr} {Qd : Hp → Prop} (ys : List V) (hl : ys.length = xs.length) (hz : ys.length ≤ 100000) (hD : H0 D = none) (hS : SqL K H0 a xs)
    (hw : ∀ x, wipe ((wipe σ vs).set n (some x)) vs = wipe σ vs)
    (hs : ∀ (i : Nat) (x : V) (H : Hp) (Q : VK), xs[i]? = some x → Same H0 H → (∀ y H4, ys[i]? = some y → Same H H4 → Q y H4) → te ((wipe σ vs).set n (some x)) H Q)
    (hd : ∀ H, Same H0 H → H D = some (.lst ys) → Qd H) :
    ∃ W : Nat → Nat → Hp → Prop, (∃ m, W 0 m (upd H0 D (.lst []))) ∧ ∀ i m H, W i m H →
      ((Itl K a).stop i H ∧ Qd H) ∨ ((Itl K a).go i H ∧ ∃ Nx : Hp → Prop, (∀ H', Nx H' → ∃ m', m' < m ∧ W (i + 1) m' H') ∧ ∀ x H', (Itl K a).yld i H x H' → gName n x (wipe σ vs) H' fun σ2 H2 => wipe σ2 vs = wipe σ vs ∧ tYes σ2 H2 fun b H3 =>
        if b = true then te σ2 H3 fun y H4 => ∃ acc, H4 D = some (.lst acc) ∧ acc.length < sizeLine ∧ Nx (upd H4 D (.lst (acc ++ [y]))) else Nx H3) := by
  refine lc_list (K := K) (a := a) (xs := xs) (fun j H' => Same H0 H' ∧ H' D = some (.lst (ys.take j))) ⟨same_new hD, by rw [upd_same]; simp⟩ (fun j H' _ ⟨s, _⟩ => s.seq hS) ?_ ?_
  · rintro i x H hi ⟨sm, ed⟩
    refine ⟨hw x, hs i x H _ hi sm fun y H4 hy s4 => ⟨_, s4 _ _ ed, ?_, same_over (sm.trans s4) hD, ?_⟩⟩
    · have := (List.getElem?_eq_some_iff.mp hy).1
      rw [List.length_take]; unfold sizeLine; omega
    · rw [upd_same, List.take_add_one, hy]
      rfl
  · rintro H ⟨sm, ed⟩
    exact hd H sm (by rw [ed, ← hl, List.take_length])
/-- the same over range(n) -/
theorem lc_mapR {n : Nat} {k : Nat} {te : TE} {vs : List Nat} {σ : L2.St} {H0 : Hp} {D : Addr} {Qd : Hp → Prop} (ys : List V) (hl : ys.length = n) (hz : ys.length ≤ 100000) (hD : H0 D = none)
    (hw : ∀ x, wipe ((wipe σ vs).set k (some x)) vs = wipe σ vs)
    (hs : ∀ (i : Nat) (H : Hp) (Q : VK), i < n → Same H0 H → (∀ y H4, ys[i]? = some y → Same H H4 → Q y H4) → te ((wipe σ vs).set k (some (.int ((0 : Int) + i)))) H Q)
    (hd : ∀ H, Same H0 H → H D = some (.lst ys) → Qd H) :
    ∃ W : Nat → Nat → Hp → Prop, (∃ m, W 0 m (upd H0 D (.lst []))) ∧ ∀ i m H, W i m H →
      ((Itr 0 n).stop i H ∧ Qd H) ∨ ((Itr 0 n).go i H ∧ ∃ Nx : Hp → Prop, (∀ H', Nx H' → ∃ m', m' < m ∧ W (i + 1) m' H') ∧ ∀ x H', (Itr 0 n).yld i H x H' → gName k x (wipe σ vs) H' fun σ2 H2 => wipe σ2 vs = wipe σ vs ∧ tYes σ2 H2 fun b H3 =>
        if b = true then te σ2 H3 fun y H4 => ∃ acc, H4 D = some (.lst acc) ∧ acc.length < sizeLine ∧ Nx (upd H4 D (.lst (acc ++ [y]))) else Nx H3) := by
  refine lc_range (lo := 0) (n := n) (fun j H' => Same H0 H' ∧ H' D = some (.lst (ys.take j))) ⟨same_new hD, by rw [upd_same]; simp⟩ ?_ ?_
  · rintro i H hi ⟨sm, ed⟩
    refine ⟨hw _, hs i H _ hi sm fun y H4 hy s4 => ⟨_, s4 _ _ ed, ?_, same_over (sm.trans s4) hD, ?_⟩⟩
    · have := (List.getElem?_eq_some_iff.mp hy).1
      rw [List.length_take]; unfold sizeLine; omega
    · rw [upd_same, List.take_add_one, hy]
      rfl
  · rintro H ⟨sm, ed⟩
    exact hd H sm (by rw [ed, ← hl, List.take_length])
end Mv
set_option Elab.async false
set_option maxRecDepth 100000
set_option maxHeartbeats 4000000
namespace Mv
open PySem PySem.Spec PyProof.Rows L2
/-- the law is called where no repr is running: from an abstract heap H that tracks at most the script at a -/
theorem run_law {P : Program} {w : World} {K : PySem.W.Frag} {mg mb : Str → Option Value} {k : Nat} {fa a : Addr} {fd : FuncData} {x : Str} {sp : Sp} {s : Shared} {H : Hp} (KX : K.In s.heap) (hns : s.heap.Ns mainGlobals mg) (hb : s.heap.Ns builtinsNs mb)
    (hbb : ∀ x : Str, x ≠ "__name__" → mb x = bootBuiltins x) (hlim : s.heap.NoLimit) (hg : s.gens = #[]) (hr : Room k callerA) (F : ∀ base : Heap, K.In base → base.Ns mainGlobals mg → FnG P w K mg base k fa fd [x] sp)
    (hbind : ∀ (s : Shared) (u : Value), BindsTo s fd ⟨[u], []⟩ [(x, u)]) (hok : HOk P w H s.heap) (free : ∀ b o, s.heap.get? b = some o → (K.lookup b ≠ none ∨ ∃ es n, o.data = .dict es n) → H b = none)
    (frz : ∀ b u, H b = some u → ∃ o v, u = .frz o v) (hsp : sp [.ref a] H (fun v _ => v = .bl true) E0) :
    codeAny (model P w) callerA (.call (.ref fa) ⟨[.ref a], []⟩) (fun r s' => r = .ok (.ret (.bool true)) ∧ OldK s.heap s'.heap ∧ s'.os = s.os ∧ AllBare s'.gens) s := by
  have ns : ∀ {b : Addr} {m : Str → Option Value}, s.heap.Ns b m → (hidT s.heap H).Ns b m := fun {b m} h => by
    obtain ⟨o, es, ep, e, d, r⟩ := h
    exact ⟨o, es, ep, hidT_get e (free b o e (.inr ⟨es, ep, d⟩)), d, r⟩
  have kb : K.In (hidT s.heap H) := fun b o e => hidT_get (KX b o e) (free b o (KX b o e) (.inl (by rw [e]; simp)))
  have md : Mod K mg (hidT s.heap H) := by
    refine ⟨kb, ns hns, ⟨mb, ns hb, hbb⟩, ?_⟩
    obtain ⟨mc, h1, h2⟩ := hlim
    exact ⟨mc, ns h1, h2⟩
  have e0 : Env0 P w K mg (hidT s.heap H) callerA [] s H :=
    { frames := rfl, mod := md, bs := fun b o e => of_hidT e, bsz := Nat.le_of_eq (hidT_size _ _), funs := trivial, frf := fun b z => by simp [frs] at z, hok := hok, bare := .of_eq hg }
  refine codeAny_mono ((F _ kb (ns hns)).run callerA [] s H ⟨[.ref a], []⟩ [.ref a] [.ref a] _ E0 hr rfl e0 (hbind s (.ref a)) (.cons rfl .nil) hsp) fun r s' h => ?_
  rcases r with e | fl
  · exact False.elim h
  rcases fl with _ | _ | _ | u
  · exact False.elim h
  · exact False.elim h
  · exact False.elim h
  obtain ⟨v, H', os, bare, un, hok', rv, rfl⟩ := h
  obtain rfl : u = Value.bool true := rv
  refine ⟨rfl, OldK.of_keep fun b o e => ?_, os, bare⟩
  by_cases q : H b = none
  · exact un.keep b o e q (by simp [frs]) (by simp)
  · obtain ⟨u, q⟩ := Option.ne_none_iff_exists'.mp q
    obtain ⟨ob, v, rfl⟩ := frz b u q
    have g1 := (hok b _ q).1
    have g2 := (hok' b _ (un.frzs b ob v q)).1
    rw [e] at g1
    cases g1
    exact g2
/-- .. with the script tracked, or as an object of the module -/
theorem law_g {P : Program} {w : World} {K : PySem.W.Frag} {mg mb : Str → Option Value} {k : Nat} {fa a : Addr} {fd : FuncData} {x : Str} {sp : Sp} {s : Shared} {vs : List Value} {ns : List Int} (KX : K.In s.heap) (hns : s.heap.Ns mainGlobals mg) (hb : s.heap.Ns builtinsNs mb)
    (hbb : ∀ x : Str, x ≠ "__name__" → mb x = bootBuiltins x) (hlim : s.heap.NoLimit) (hg : s.gens = #[]) (ha : s.heap.get? a = some { cls := .type "list", data := .seq vs.toArray }) (hi : IntsAre vs ns) (hl : ns.length ≤ sizeLine) (hr : Room k callerA)
    (F : ∀ base : Heap, K.In base → base.Ns mainGlobals mg → FnG P w K mg base k fa fd [x] sp) (hbind : ∀ (s : Shared) (u : Value), BindsTo s fd ⟨[u], []⟩ [(x, u)])
    (hsp : ∀ H : Hp, SqL K H a (ns.map V.int) → sp [.ref a] H (fun v _ => v = .bl true) E0) :
    codeAny (model P w) callerA (.call (.ref fa) ⟨[.ref a], []⟩) (fun r s' => r = .ok (.ret (.bool true)) ∧ OldK s.heap s'.heap ∧ s'.os = s.os ∧ AllBare s'.gens) s := by
  have rv := vals_ints hi
  by_cases hk : K.lookup a = none
  · let so : Obj := { cls := .type "list", data := .seq vs.toArray }
    have at_a : ∀ b u, (if b = a then some (HO.frz so (.lst (ns.map V.int))) else none) = some u → b = a ∧ u = .frz so (.lst (ns.map V.int)) := fun b u z => by
      by_cases e : b = a
      · rw [if_pos e] at z; cases z; exact ⟨e, rfl⟩
      · rw [if_neg e] at z; cases z
    refine run_law (H := fun b => if b = a then some (.frz so (.lst (ns.map V.int))) else none) KX hns hb hbb hlim hg hr F hbind ?_ ?_ ?_ (hsp _ (.inl (.inr ⟨so, if_pos rfl⟩)))
    · intro b u z
      obtain ⟨rfl, rfl⟩ := at_a b u z
      exact ⟨ha, by rw [List.length_map]; exact hl, vs, _, rv, ha⟩
    · intro b o e h
      by_cases eb : b = a
      · subst eb
        rw [ha] at e
        cases e
        rcases h with h | ⟨es, n, h⟩
        · exact absurd hk h
        · cases h
      · exact if_neg eb
    · intro b u z
      obtain ⟨_, rfl⟩ := at_a b u z
      exact ⟨_, _, rfl⟩
  · obtain ⟨o, hko⟩ := Option.ne_none_iff_exists'.mp hk
    have e := KX a o hko
    rw [ha] at e
    cases e
    refine run_law (H := fun _ => none) KX hns hb hbb hlim hg hr F hbind (fun b u z => nomatch z) (fun _ _ _ _ => rfl) (fun b u z => nomatch z) (hsp _ (.inr ⟨_, vs.toArray, _, hko, rfl, rfl, rfl, ?_, by simpa using rv⟩))
    have := hi.length
    simp; omega
theorem walk_g {l : PySem.W.OpenLaw} {n k : Nat} {q : Program} {loose : List Str} {XP : (Str → Option Value) → Heap → Prop} {YP : World → Heap → Prop} {d : DefRec} {K : Params → PySem.W.Frag} {sp : PySem.W.Frag → Sp} {x : Str}
    (hn : l.most = some n) (hn2 : n ≤ sizeLine) (hdf : d.params.defaults = []) (hr : Room k callerA) (hY : ∀ (w : World) (h : Heap), YP w h → (K w.params).In h)
    (F : ∀ (w : World) (mg : Str → Option Value) (fa : Addr) (h : Heap), (K w.params).In h → h.Ns mainGlobals mg → mg d.name = some (.ref fa) →
      ∃ fd : FuncData, (∀ (s : Shared) (u : Value), BindsTo s fd ⟨[u], []⟩ [(x, u)]) ∧ ∀ base : Heap, (K w.params).In base → base.Ns mainGlobals mg → FnG l.prog w (K w.params) mg base k fa fd [x] (sp (K w.params)))
    (hsp : ∀ (K : PySem.W.Frag) (H : Hp) (a : Addr) (ns : List Int), ns.length ≤ n → SqL K H a (ns.map V.int) → sp K [.ref a] H (fun v _ => v = .bl true) E0) :
    PySem.W.WalkO q loose XP YP l.row.toRowW d [] (fun f vs => PySem.call f vs) := by
  refine Att.attach_call hn hdf fun w s₀ s₁ mg mb fa o pm cd doc a vs ns G Y ho hd hcd hmg hobj hints hlen hg => ?_
  obtain ⟨fd, hb, hF⟩ := F w mg fa _ (hY w _ Y) G.T.g hmg
  exact law_g (hY w _ Y) G.T.g G.T.b G.T.builtins G.T.nolimit hg hobj hints (Nat.le_trans hlen hn2) hr hF hb fun H hS => hsp _ H a ns hlen hS
end Mv
set_option Elab.async false
set_option maxRecDepth 100000
set_option maxHeartbeats 4000000
/-! mvhd: the head by facts: the end. -/
namespace Mv
open PySem PySem.Spec PyProof.Rows L2
theorem DM.df {K : PySem.W.Frag} {d : DM} (e : d.see K = d.val) (c : d.ok K = true) : ∃ fd, Df K d.name d.qual d.st (d.dvs K) (d.ad K) fd := by
  have ⟨kp, c2⟩ := Bool.and_eq_true_iff.mp c
  unfold DM.see DM.val at e
  rcases q : K.lookup (d.ad K) with _ | ⟨oc, od, dt, osl⟩
  · rw [q] at c2; cases c2
  · rw [q] at c2 e
    cases dt with
    | func u =>
      have ⟨k1, k2⟩ := Bool.and_eq_true_iff.mp (show (PySem.W.codeIn K u.code d.qual && He.dflB K u.defaults (d.dvs K)) = true from c2)
      have k3 := He.dflB_ok k2
      cases u
      injection e with e
      simp only [Prod.mk.injEq] at e
      obtain ⟨rfl, rfl, h3, h4, h5, h6, h7, h8⟩ := e
      subst h3 h4 h5 h6 h7 h8
      exact ⟨_, ⟨oc, od, _, _, _, _, _, _, _, osl, rfl, q, k1, k3, .inl rfl⟩, kp⟩
    | _ => cases c2
theorem SaM.def_ {fa : List (PySem.W.Frag → Bool)} {fn : List DM} {K : PySem.W.Frag} (c : SaM fa fn K) (i : Nat) {d : DM} (h : fn[i]? = some d) : ∃ fd, Df K d.name d.qual d.st (d.dvs K) (d.ad K) fd := by
  have c1 : ((fa.all fun f => f K) && fn.all fun d => d.ok K) = true := congrArg (fun z : AlM => z.1) c
  have c2 : fn.map (fun d => d.see K) = fn.map DM.val := congrArg (fun z : AlM => z.2) c
  have e : (fn.map fun d => d.see K)[i]? = (fn.map DM.val)[i]? := by rw [c2]
  rw [List.getElem?_map, List.getElem?_map, h] at e
  exact DM.df (Option.some.inj e) (List.all_eq_true.mp (Bool.and_eq_true_iff.mp c1).2 d (List.mem_of_getElem? h))
/-! ### the end -/
theorem walk_gM {l : PySem.W.OpenLaw} {n k : Nat} {q : Program} {loose : List Str} {XP : (Str → Option Value) → Heap → Prop} {YP : World → Heap → Prop} {d : DefRec} {sp : PySem.W.Frag → Sp} {x : Str}
    (hn : l.most = some n) (hn2 : n ≤ sizeLine) (hdf : d.params.defaults = []) (hr : Room k callerA)
    (F : ∀ (w : World) (mg : Str → Option Value) (fa : Addr) (h : Heap), YP w h → h.Ns mainGlobals mg → mg d.name = some (.ref fa) →
      ∃ (K : PySem.W.Frag) (fd : FuncData), K.In h ∧ (∀ (s : Shared) (u : Value), BindsTo s fd ⟨[u], []⟩ [(x, u)]) ∧ ∀ base : Heap, K.In base → base.Ns mainGlobals mg → FnG l.prog w K mg base k fa fd [x] (sp K))
    (hsp : ∀ (K : PySem.W.Frag) (H : Hp) (a : Addr) (ns : List Int), ns.length ≤ n → SqL K H a (ns.map V.int) → sp K [.ref a] H (fun v _ => v = .bl true) E0) :
    PySem.W.WalkO q loose XP YP l.row.toRowW d [] (fun f vs => PySem.call f vs) := by
  refine Att.attach_call hn hdf fun w s₀ s₁ mg mb fa o pm cd doc a vs ns G Y ho hd hcd hmg hobj hints hlen hg => ?_
  obtain ⟨K, fd, KX, hb, hF⟩ := F w mg fa _ Y G.T.g hmg
  exact law_g KX G.T.g G.T.b G.T.builtins G.T.nolimit hg hobj hints (Nat.le_trans hlen hn2) hr hF hb fun H hS => hsp _ H a ns hlen hS
end Mv
set_option Elab.async false
set_option maxRecDepth 100000
set_option maxHeartbeats 4000000
namespace Mv
open PySem PySem.Spec PyProof.Rows L2
/-! ### len(x) by an own __len__ -/
def rLenO (C : Addr) (sp : Sp) : List V → Hp → VK → Prop := fun xs H Q => ∃ a dx fs, xs = [.ref a] ∧ H a = some (.ins C dx fs) ∧ sp [.ref a] H (fun v H' => ∃ n : Int, v = .int n ∧ 0 ≤ n ∧ n < 2 ^ 63 ∧ Q (.int n) H') E0
section
variable {X : Cx} {k : Nat} {C : Addr} {sp : Sp}
theorem call_lenO (c : Op2 X.prog X.w X.K X.mg X.base k C "__len__" sp) (hr : Room (k + 1) X.A) : CallR X (.builtin "len") (rLenO C sp) := by
  obtain ⟨g, fd, ps, F, hb, hs, hf⟩ := c.ex
  intro pins s σ H xs us Q I r h
  obtain ⟨a, dx, fs, rfl, ea, q⟩ := h
  obtain ⟨u, rfl, ru⟩ := vals1 r
  obtain rfl : u = Value.ref a := ru
  obtain ⟨mA, O, _⟩ := ins_get I.hok ea
  obtain ⟨od, J, _⟩ := O.look
  obtain ⟨m, hF⟩ := I.fr
  refine PySem.W.len_K hF I.ok.mod.kin J hs hf ?_
  refine wpAny_mono (run_at (vs := [.ref a]) F hr.in1 I.ok.frames hb I (.cons rfl .nil) q) (fun w s' z => ?_) fun _ _ x => x
  obtain ⟨z', H', I', rz, n, rfl, h0, h1, qz⟩ := z
  obtain ⟨tk, rfl⟩ := rz
  exact ⟨⟨h0, h1⟩, .int n, H', I'.tok _, ⟨_, rfl⟩, qz⟩
theorem call_lenO' {P : Program} {w : World} {K : PySem.W.Frag} {mg : Str → Option Value} {base : Heap} {j : Nat} (c : Op2 P w K mg base k C "__len__" sp) (hr : Room j X.A) (hk : k + 1 ≤ j) (e : Over X P w K mg base := by exact ⟨rfl, rfl, rfl, rfl, rfl⟩) : CallR X (.builtin "len") (rLenO C sp) := by
  obtain ⟨rfl, rfl, rfl, rfl, rfl⟩ := e
  exact call_lenO c (hr.mono hk)
end
/-! ### lists and tuples alike -/
/-- true: a list, false: a tuple -/
def SqK (b : Bool) (K : PySem.W.Frag) (H : Hp) (a : Addr) (xs : List V) : Prop := if b then SqL K H a xs else SqT K H a xs
def ItK (b : Bool) (K : PySem.W.Frag) (a : Addr) : It := if b then Itl K a else Itt K a
theorem walk_K {b : Bool} {K : PySem.W.Frag} {a : Addr} {xs : List V} : Walk (ItK b K a) xs.length (fun H => SqK b K H a xs) (YAt xs) := by
  cases b
  · exact walk_tup
  · exact walk_list
def iSeq (K : PySem.W.Frag) (te : TE) : TI := fun σ H R => te σ H fun x H1 => ∃ b a xs, x = .ref a ∧ SqK b K H1 a xs ∧ R (ItK b K a) H1
theorem pi_seq {X : Cx} {tg e : Expr} {te : TE} (h : PE X e te) : PI X tg e (iSeq X.K te) := by
  refine ⟨fun pins s σ H R I hh => ?_⟩
  -- both ways, by cases behind the value
  refine thn (h.run pins s σ H _ I hh) fun v s1 ⟨x, H1, I1, r1, b, a, xs, e1, hq, q⟩ => ?_
  subst e1
  cases r1
  cases b with
  | true =>
    obtain ⟨its, rv, p, hz⟩ := I1.list hq
    refine wpAny_pyIter_list p.isList ?_
    refine ⟨s1.heap.objs.size, [s1.heap.objs.size], _, _, H1, rfl, I1.kept (t' := s1.toks) fun b o e => Heap.get?_push_of_some _ e, turn_list a _, ⟨_, Heap.get?_push_size _ rfl, rfl, rfl⟩, fun b hb => ?_, q⟩
    have e : b = s1.heap.objs.size := by simpa using hb
    subst e
    exact I1.fpOk (Nat.le_refl _) (I1.hok.fresh (Nat.le_refl _))
  | false =>
    obtain ⟨its, rv, p, hz⟩ := I1.tuple hq
    refine wpAny_pyIter_tuple (show s1.heap.IsTuple a its.toArray from p) ?_
    refine ⟨s1.heap.objs.size, [s1.heap.objs.size], _, _, H1, rfl, I1.kept (t' := s1.toks) fun b o e => Heap.get?_push_of_some _ e, turn_tuple a _, ⟨_, Heap.get?_push_size _ rfl, rfl, rfl⟩, fun b hb => ?_, q⟩
    have e : b = s1.heap.objs.size := by simpa using hb
    subst e
    exact I1.fpOk (Nat.le_refl _) (I1.hok.fresh (Nat.le_refl _))
/-! ### enumerate of a tuple -/
def IteT (K : PySem.W.Frag) (a : Addr) : It :=
  ⟨fun i H => ∃ (xs : List V) (x : V), SqT K H a xs ∧ xs[i]? = some x, fun i H v H' => ∃ T x, v = .ref T ∧ H T = none ∧ H' = upd H T (.tup [.int (i : Nat), x]) ∧ ∀ xs, SqT K H a xs → xs[i]? = some x, fun i H => ∃ xs : List V, SqT K H a xs ∧ xs.length ≤ i⟩
theorem call_enumB {prog : Program} {w : World} {A : Around} {E : Value → Shared → Prop} {s : Shared} {v : Value} {o : Obj} {Hx : Heap → Prop} {Q : Value → Shared → Prop} (B : Begins v o Hx) (h1 : Hx s.heap)
    (h : ∀ h', IsEnum h' (s.heap.objs.size + 1) s.heap.objs.size 0 .none → h'.get? s.heap.objs.size = some o → h'.objs.size = s.heap.objs.size + 2 →
      (∀ b o, s.heap.get? b = some o → h'.get? b = some o) → Q (.ref (s.heap.objs.size + 1)) { s with heap := h' }) :
    wpAny (model prog w) A (call (.type "enumerate") [v]) Q E s := by
  have mt : Meets (Builtin.«enumerate.__new__» ⟨[.type "enumerate", v], []⟩) (fun _ R s => Hx s.heap ∧
      R (.ok (.ret (.ref (s.heap.push o).objs.size))) { s with heap := (s.heap.push o).push { cls := .type "enumerate", data := .fields #[.none, .bool false, .ref s.heap.objs.size, rawInt 0, .none, .none] } }) :=
    .of_wp fun prog w A R s h => by
      obtain ⟨hp, g, d, tk, os⟩ := s; obtain ⟨h1, h⟩ := h
      have hsub := sub_enumerate
      have q1 : ∀ {A' : Around} {E : Value → Shared → Prop} {Q : Value → Shared → Prop}, Q (.ref hp.objs.size) ⟨hp.push o, g, d, tk, os⟩ → wpAny (model prog w) A' (pyIter v) Q E ⟨hp, g, d, tk, os⟩ :=
        fun q => B.iter prog w _ _ ⟨hp, g, d, tk, os⟩ _ h1 q
      wp_walk using q1
      refine wpAny_stack_any fun st => wpAny_pure ?_
      split
      · rename_i c _ _ _ _ _
        cases (c == Value.type "enumerate")
        · wp_walk using q1
          exact ⟨_, rfl, h⟩
        · wp_walk using q1
          exact ⟨_, rfl, h⟩
      · wp_walk using q1
        exact ⟨_, rfl, h⟩
  refine callType_new F.called_enumerate (by decide) (F.typeCall_enumerate_1 _) (F.newCall_enumerate_1 _) (fun obj => F.args_object_init_2 obj _) F.entry_enumerate_new mt ⟨h1, ?_⟩
  have hz : (s.heap.push o).objs.size = s.heap.objs.size + 1 := Heap.size_push ..
  show _ ∧ _
  rw [hz]
  have he : IsEnum ((s.heap.push o).push { cls := .type "enumerate", data := .fields #[.none, .bool false, .ref s.heap.objs.size, rawInt 0, .none, .none] }) (s.heap.objs.size + 1) s.heap.objs.size 0 .none := by
    have := Heap.get?_push_size (s.heap.push o) (o := { cls := .type "enumerate", data := .fields #[.none, .bool false, .ref s.heap.objs.size, rawInt 0, .none, .none] }) rfl
    rw [hz] at this; exact this
  refine ⟨⟨_, he, rfl⟩, h _ he (Heap.get?_push_of_some _ (Heap.get?_push_size _ B.free)) (by rw [Heap.size_push, hz]) fun b o x => Heap.get?_push_of_some _ (Heap.get?_push_of_some _ x)⟩
theorem turn_enumT {P : Program} {w : World} {K : PySem.W.Frag} {elts : List Expr} {kk : Nat} {tpos : Pos} (a e it : Addr) (hai : a ≠ it) (hae : a ≠ e) :
    Turn P w K (.Tuple elts kk tpos) (IteT K a) [e, it] e (fun i h => (∃ old, IsEnum h e it ((i : Nat) : Int) old) ∧ h.IsTupleIter it a i ∧ e ≠ it) where
  mem := by simp
  obj := fun i h st b hb => by
    obtain ⟨⟨old, he⟩, ⟨o, ho, hc, hd⟩, _⟩ := st
    have e' : b = e ∨ b = it := by simpa using hb
    rcases e' with z | z
    · rw [z]; exact ⟨_, he, fun v q => nomatch q⟩
    · rw [z]; exact ⟨o, ho, fun v q => by rw [hd] at q; cases q⟩
  keep := fun i h h' st k => let ⟨⟨old, he⟩, hi, hne⟩ := st; ⟨⟨old, k e (by simp) _ he⟩, hi.at fun o q => k it (by simp) o q, hne⟩
  item := by
    intro X hP hw hK hc i pins s σ H E I hf st hg
    subst hP hw hK
    obtain ⟨⟨old, he⟩, hit, hne⟩ := st
    obtain ⟨xs, x, hq, hx⟩ := hg
    obtain ⟨its, rv, p, hz⟩ := I.tuple hq
    obtain ⟨u, hu, ru⟩ := rv.get hx
    have hel : e < s.heap.objs.size := Heap.lt_size he
    have hil : it < s.heap.objs.size := by obtain ⟨_, q, _⟩ := hit; exact Heap.lt_size q
    have pt : s.heap.IsTuple a its.toArray := p
    have hu' : its.toArray[i]? = some u := by simpa using hu
    have hlt : i < its.toArray.size := by
      rcases Nat.lt_or_ge i its.toArray.size with z | z
      · exact z
      · rw [Array.getElem?_eq_none z] at hu'; cases hu'
    refine wpAny_pyNext_enum_itemD (Draws.tuple (A := X.A.in1) (I.ok.hd hc) it a hai its.toArray) he ⟨hit, pt⟩ hlt hne (by simp; exact ⟨hne, fun z => hae z.symm⟩) fun x' h' tk hPx ho hst' hT hsz hk => ?_
    obtain rfl : x' = u := by
      have z : its.toArray[i]? = some x' := hPx
      rw [hu'] at z
      exact (Option.some.inj z).symm
    obtain ⟨hit', pt'⟩ := hst'
    refine ⟨_, rfl, wpAny_letOwnedTupleGo_enum (s := { s with heap := h', toks := tk + 1 }) ho fun h'' he' sb => ?_⟩
    have hT2 : h''.get? s.heap.objs.size = some { cls := .type "tuple", data := .seq #[.int i tk, x'] } := (sb.2 _ (Nat.ne_of_gt hel)).trans hT
    have new : ObjOk X.prog X.w (upd H s.heap.objs.size (.tup [.int (i : Nat), x])) h'' s.heap.objs.size (.tup [.int (i : Nat), x]) :=
      ⟨by show 2 ≤ sizeLine; decide, [.int i tk, x'], .cons ⟨_, rfl⟩ (.cons ru .nil), ⟨_, hT2, rfl, _, rfl⟩⟩
    have I1 : Inv X pins σ (upd H s.heap.objs.size (.tup [.int (i : Nat), x])) { s with heap := h'', toks := tk + 1 } :=
      I.turnedNew (ch := [e, it]) (fun b ob hb q => (sb.2 b (fun z => hb (by simp [z]))).trans (hk b ob (fun z => hb (by simp [z])) (fun z => hb (by simp [z])) q)) hf (Nat.le_refl _) new
    refine ⟨.ref s.heap.objs.size, _, I1, rfl, ⟨_, x, rfl, I.hok.fresh (Nat.le_refl _), rfl, fun ys hy => by rw [I.tuple_inj hy hq]; exact hx⟩, ⟨⟨x', ?_⟩, hit'.at fun o q => (sb.2 it (Ne.symm hne)).trans q, hne⟩, fun b hb => ?_⟩
    · have e1 : ((i + 1 : Nat) : Int) = (i : Int) + 1 := by omega
      rw [e1]; exact he'
    · have hb' : b < s.heap.objs.size := by
        have e' : b = e ∨ b = it := by simpa using hb
        rcases e' with z | z
        · rw [z]; exact hel
        · rw [z]; exact hil
      rw [upd_ne (Nat.ne_of_lt hb')]
      exact (hf b hb).1
  done := by
    intro X hP hw hK hc i pins s σ H E I hf st hg
    subst hP hw hK
    obtain ⟨⟨old, he⟩, hit, hne⟩ := st
    obtain ⟨xs, hq, hx⟩ := hg
    obtain ⟨its, rv, p, hz⟩ := I.tuple hq
    obtain ⟨f0, f1, f2, f3, f4, f5⟩ := hf it (by simp)
    have hl := rv.length
    have pt : s.heap.IsTuple a its.toArray := p
    have hT : s.TypeIs (.ref e) "enumerate" := ⟨_, he, rfl⟩
    unfold pyNext
    refine wpAny_bind (wpAny_attempt (wpAny_callSpecial?_slot (name := Str.ofString "__next__") hT F.slot_enumerate_next
      (wpAny_call_entry F.slot_enumerate_next hT F.entry_enumerate_next ?_ (F.args_enumerate_next_1 _))))
    show wpAny _ _ (field (.ref e) 2 >>= _) _ _ _
    refine wpAny_bind (wpAny_field he rfl (x := .ref it) rfl ?_)
    refine wpAny_bind (wpAny_nextOf_tuple_end (I.ok.hd hc) hit pt (by simp; omega) fun h' x eb hx' => ?_)
    obtain ⟨o, ho, hc'⟩ := hx'
    refine wpAny_bind (wpAny_isInstance (T := "StopIteration") (b := true) ⟨o, ho, hc'⟩ isSubtype_stop ?_)
    exact wpAny_pure ⟨rfl, I.turned (t' := s.toks) (fun b o hb q => eb b o hb q) f0 f1 f3 f4 f5⟩
  self := fun A i s Q E st h => let ⟨⟨_, he⟩, _⟩ := st; wpAny_pyIter_enum he h
def IteK (b : Bool) (K : PySem.W.Frag) (a : Addr) : It := if b then Ite K a else IteT K a
theorem walk_enumT {K : PySem.W.Frag} {a : Addr} {xs : List V} : Walk (IteT K a) xs.length (fun H => SqT K H a xs) (YPair (fun i => some (.int (i : Nat))) (fun i => xs[i]?)) := by
  refine ⟨fun i _ hi q => ⟨xs, xs[i], q, by simp [hi]⟩, fun _ q => ⟨xs, q, Nat.le_refl _⟩, fun i H v H' _ q y => ?_⟩
  obtain ⟨T, x, h1, h2, h3, h4⟩ := y
  exact ⟨T, .int (i : Nat), x, h1, h2, h3, rfl, h4 xs q⟩
theorem walk_enumK {b : Bool} {K : PySem.W.Frag} {a : Addr} {xs : List V} : Walk (IteK b K a) xs.length (fun H => SqK b K H a xs) (YPair (fun i => some (.int (i : Nat))) (fun i => xs[i]?)) := by
  cases b
  · exact walk_enumT
  · exact walk_enum
def iEnumA (K : PySem.W.Frag) (ta : TA) : TI := fun σ H R => ta σ H fun vs H1 => ∃ b a xs, vs = [.ref a] ∧ SqK b K H1 a xs ∧ R (IteK b K a) H1
theorem pi_enumA {X : Cx} {e : Expr} {ta : TA} {p pos tpos : Pos} {elts : List Expr} {kk : Nat} (hg : Gl X "enumerate") (hm : X.mg "enumerate" = none) (ha : PA X [e] ta) (hs : starEach [e] X.env = [(false, eval e X.env)] := by rfl) :
    PI X (.Tuple elts kk tpos) (.Call (.Name "enumerate" p) [e] [] pos) (iEnumA X.K ta) := by
  refine ⟨fun pins s σ H R I h => ?_⟩
  refine Call_ (ld_blt I hg hm boot_enumerate (PyProof.Rows.callWith_type1 (thn (ha.run pos pins s σ H _ I h) fun us s1 ⟨vs, H1, I1, r1, q1⟩ => ?_) hs rfl))
  obtain ⟨b, a, xs, ex, hq, q⟩ := q1
  subst ex
  have fresh2 : ∀ b, b ∈ [s1.heap.objs.size + 1, s1.heap.objs.size] → FpOk X pins H1 b := fun b hb => by
    have e' : b = s1.heap.objs.size + 1 ∨ b = s1.heap.objs.size := by simpa using hb
    have hle : s1.heap.objs.size ≤ b := by
      rcases e' with z | z
      · rw [z]; exact Nat.le_add_right _ _
      · rw [z]; exact Nat.le_refl _
    exact I1.fpOk hle (I1.hok.fresh hle)
  cases r1 with
  | cons r rr =>
    cases rr
    cases r
    cases b with
    | true =>
      obtain ⟨its, rv, p', hz⟩ := I1.list hq
      refine call_enumerate_list p'.isList fun h' he hit hsz hk => wpAny_pyIter_enum he ?_
      have I2 : Inv X pins σ H1 { s1 with heap := h' } := I1.kept (t' := s1.toks) hk
      exact ⟨s1.heap.objs.size + 1, [s1.heap.objs.size + 1, s1.heap.objs.size], _, _, H1, rfl, I2, turn_enum a (s1.heap.objs.size + 1) s1.heap.objs.size, ⟨⟨.none, he⟩, hit, Nat.succ_ne_self _⟩, fresh2, q⟩
    | false =>
      obtain ⟨its, rv, p', hz⟩ := I1.tuple hq
      have pt : s1.heap.IsTuple a its.toArray := p'
      have hal : a < s1.heap.objs.size := by obtain ⟨_, q, _⟩ := id pt; exact Heap.lt_size q
      refine call_enumB (begins_tuple a its.toArray) pt fun h' he hit hsz hk => wpAny_pyIter_enum he ?_
      have I2 : Inv X pins σ H1 { s1 with heap := h' } := I1.kept (t' := s1.toks) hk
      exact ⟨s1.heap.objs.size + 1, [s1.heap.objs.size + 1, s1.heap.objs.size], _, _, H1, rfl, I2, turn_enumT a (s1.heap.objs.size + 1) s1.heap.objs.size (Nat.ne_of_lt hal) (Nat.ne_of_lt (Nat.lt_succ_of_lt hal)), ⟨⟨.none, he⟩, ⟨_, hit, rfl, rfl⟩, Nat.succ_ne_self _⟩, fresh2, q⟩
/-- zip of tuples -/
theorem walk_zipT {K : PySem.W.Frag} {a b : Addr} {xs ys : List V} {n : Nat} (hn : n = min xs.length ys.length) : Walk (RZ.ItzT K a b) n (fun H => SqT K H a xs ∧ SqT K H b ys) (YPair (fun i => xs[i]?) (fun i => ys[i]?)) := by
  subst hn
  refine ⟨fun i _ hi q => ?_, fun _ q => ⟨xs, ys, q.1, q.2, by omega⟩, fun i H v H' _ q y => ?_⟩
  · have h1 : i < xs.length := by omega
    have h2 : i < ys.length := by omega
    exact ⟨xs, ys, xs[i], ys[i], q.1, q.2, by simp [h1], by simp [h2]⟩
  · obtain ⟨T, x, z, h1, h2, h3, h4, h5⟩ := y
    exact ⟨T, x, z, h1, h2, h3, h4 xs q.1, h5 ys q.2⟩
end Mv
set_option Elab.async false
set_option maxRecDepth 100000
set_option maxHeartbeats 4000000
namespace L2
open PySem PySem.Spec PyProof.Rows Mv
/-! ### data on the heap -/
theorem Same.rd {H H' : Hp} {a : Addr} {u : HO} (e : Same H H') (h : Rd H a u) : Rd H' a u := by
  rcases h with h | ⟨o, h⟩
  · exact .inl (e a _ h)
  · exact .inr ⟨o, e a _ h⟩
theorem Same.tup {K : PySem.W.Frag} {H H' : Hp} {a : Addr} {xs : List V} (e : Same H H') (h : SqT K H a xs) : SqT K H' a xs := by
  rcases h with h | h
  · exact .inl (Same.rd e h)
  · exact .inr h
theorem Same.sqk {K : PySem.W.Frag} {H H' : Hp} {b : Bool} {a : Addr} {xs : List V} (e : Same H H') (h : SqK b K H a xs) : SqK b K H' a xs := by
  cases b
  · exact Same.tup e h
  · exact e.seq h
section
variable {K : PySem.W.Frag} {H H' : Hp}
mutual
theorem Dp.same (s : Same H H') : ∀ (d : PyData) (v : V), Dp K H v d → Dp K H' v d
  | .none, _, h => by cases h; exact .non
  | .bool b, _, h => by cases h; exact .bl b
  | .int i, _, h => by cases h; exact .int i
  | .str x, _, h => by cases h; exact .str x
  | .list ds, _, h => by
    cases h with
    | lst hs ha => exact .lst (s.seq hs) (DpAll.same s ds _ ha)
  | .tuple ds, _, h => by
    cases h with
    | tup hs ha => exact .tup (Same.tup s hs) (DpAll.same s ds _ ha)
  | .dict _, _, h => by cases h
theorem DpAll.same (s : Same H H') : ∀ (ds : List PyData) (vs : List V), DpAll K H vs ds → DpAll K H' vs ds
  | [], _, h => by cases h; exact .nil
  | d :: ds, _, h => by
    cases h with
    | cons h1 h2 => exact .cons (Dp.same s d _ h1) (DpAll.same s ds _ h2)
end
theorem Dp.up {d : PyData} {v : V} (h : Dp K H v d) (s : Same H H') : Dp K H' v d := Dp.same s d v h
theorem DpAll.up {ds : List PyData} {vs : List V} (h : DpAll K H vs ds) (s : Same H H') : DpAll K H' vs ds := DpAll.same s ds vs h
theorem Dp.lstE {v : V} {ds : List PyData} (h : Dp K H v (.list ds)) : ∃ a xs, v = .ref a ∧ SqL K H a xs ∧ DpAll K H xs ds := by
  cases h with
  | lst hs ha => exact ⟨_, _, rfl, hs, ha⟩
theorem Dp.tupE {v : V} {ds : List PyData} (h : Dp K H v (.tuple ds)) : ∃ a xs, v = .ref a ∧ SqT K H a xs ∧ DpAll K H xs ds := by
  cases h with
  | tup hs ha => exact ⟨_, _, rfl, hs, ha⟩
theorem Dp.intE {v : V} {i : Int} (h : Dp K H v (.int i)) : v = .int i := by cases h; rfl
theorem Dp.strE {v : V} {x : Str} (h : Dp K H v (.str x)) : v = .str x := by cases h; rfl
theorem Dp.blE {v : V} {x : Bool} (h : Dp K H v (.bool x)) : v = .bl x := by cases h; rfl
/-- a list (true) or a tuple -/
def dSeq (b : Bool) (ds : List PyData) : PyData := if b then .list ds else .tuple ds
theorem Dp.seqE {b : Bool} {v : V} {ds : List PyData} (h : Dp K H v (dSeq b ds)) : ∃ a xs, v = .ref a ∧ SqK b K H a xs ∧ DpAll K H xs ds := by
  cases b
  · exact Dp.tupE h
  · exact Dp.lstE h
theorem Dp.seq {b : Bool} {a : Addr} {xs : List V} {ds : List PyData} (h : SqK b K H a xs) (ha : DpAll K H xs ds) : Dp K H (.ref a) (dSeq b ds) := by
  cases b
  · exact .tup h ha
  · exact .lst h ha
theorem DpAll.len : ∀ {xs : List V} {ds : List PyData}, DpAll K H xs ds → xs.length = ds.length
  | _, _, .nil => rfl
  | _, _, .cons _ h => by rw [List.length_cons, List.length_cons, DpAll.len h]
theorem DpAll.get : ∀ {xs : List V} {ds : List PyData} {i : Nat} {x : V}, DpAll K H xs ds → xs[i]? = some x → ∃ d, ds[i]? = some d ∧ Dp K H x d
  | _, _, _, _, .nil, e => by simp at e
  | _, _, 0, _, .cons h _, e => by
    obtain rfl := Option.some.inj e
    exact ⟨_, rfl, h⟩
  | _, _, i + 1, _, .cons _ h, e => by
    obtain ⟨d, e2, q⟩ := DpAll.get (i := i) h (by simpa using e)
    exact ⟨d, by simpa using e2, q⟩
theorem DpAll.got : ∀ {xs : List V} {ds : List PyData} {i : Nat} {d : PyData}, DpAll K H xs ds → ds[i]? = some d → ∃ x, xs[i]? = some x ∧ Dp K H x d
  | _, _, _, _, .nil, e => by simp at e
  | _, _, 0, _, .cons h _, e => by
    obtain rfl := Option.some.inj e
    exact ⟨_, rfl, h⟩
  | _, _, i + 1, _, .cons _ h, e => by
    obtain ⟨d, e2, q⟩ := DpAll.got (i := i) h (by simpa using e)
    exact ⟨d, by simpa using e2, q⟩
theorem DpAll.app : ∀ {xs ys : List V} {ds es : List PyData}, DpAll K H xs ds → DpAll K H ys es → DpAll K H (xs ++ ys) (ds ++ es)
  | _, _, _, _, .nil, h => h
  | _, _, _, _, .cons a h, g => .cons a (DpAll.app h g)
theorem DpAll.rev : ∀ {xs : List V} {ds : List PyData}, DpAll K H xs ds → DpAll K H xs.reverse ds.reverse
  | _, _, .nil => .nil
  | _, _, .cons a h => by
    rw [List.reverse_cons, List.reverse_cons]
    exact (DpAll.rev h).app (.cons a .nil)
theorem DpAll.take : ∀ {xs : List V} {ds : List PyData} (n : Nat), DpAll K H xs ds → DpAll K H (xs.take n) (ds.take n)
  | _, _, 0, _ => by simp; exact .nil
  | _, _, _ + 1, .nil => by simp; exact .nil
  | _, _, n + 1, .cons a h => .cons a (DpAll.take n h)
theorem DpAll.drop : ∀ {xs : List V} {ds : List PyData} (n : Nat), DpAll K H xs ds → DpAll K H (xs.drop n) (ds.drop n)
  | _, _, 0, h => h
  | _, _, _ + 1, .nil => by simp; exact .nil
  | _, _, n + 1, .cons _ h => DpAll.drop n h
theorem DpAll.erase : ∀ {xs : List V} {ds : List PyData} (n : Nat), DpAll K H xs ds → DpAll K H (xs.eraseIdx n) (ds.eraseIdx n)
  | _, _, _, .nil => by simp; exact .nil
  | _, _, 0, .cons _ h => h
  | _, _, n + 1, .cons a h => .cons a (DpAll.erase n h)
theorem DpAll.set : ∀ {xs : List V} {ds : List PyData} (n : Nat) {x : V} {d : PyData}, DpAll K H xs ds → Dp K H x d → DpAll K H (xs.set n x) (ds.set n d)
  | _, _, _, _, _, .nil, _ => by simp; exact .nil
  | _, _, 0, _, _, .cons _ h, g => .cons g h
  | _, _, n + 1, _, _, .cons a h, g => .cons a (DpAll.set n h g)
theorem DpAll.ints : ∀ (is : List Int), DpAll K H (is.map V.int) (is.map PyData.int)
  | [] => .nil
  | i :: is => .cons (.int i) (DpAll.ints is)
theorem DpAll.intsE : ∀ {xs : List V} {is : List Int}, DpAll K H xs (is.map PyData.int) → xs = is.map V.int
  | _, [], .nil => rfl
  | _, i :: is, .cons a h => by rw [a.intE, DpAll.intsE h]; rfl
theorem DpAll.bools : ∀ (is : List Bool), DpAll K H (is.map V.bl) (is.map PyData.bool)
  | [] => .nil
  | i :: is => .cons (.bl i) (DpAll.bools is)
theorem DpAll.boolsE : ∀ {xs : List V} {is : List Bool}, DpAll K H xs (is.map PyData.bool) → xs = is.map V.bl
  | _, [], .nil => rfl
  | _, i :: is, .cons a h => by rw [a.blE, DpAll.boolsE h]; rfl
/-! a tuple of integers -/
theorem Dp.tupI {a : Addr} {is : List Int} (h : SqT K H a (is.map V.int)) : Dp K H (.ref a) (.tuple (is.map .int)) := .tup h (DpAll.ints is)
theorem Dp.tupIE {v : V} {is : List Int} (h : Dp K H v (.tuple (is.map .int))) : ∃ a, v = .ref a ∧ SqT K H a (is.map V.int) := by
  obtain ⟨a, xs, e, hs, ha⟩ := h.tupE
  exact ⟨a, e, by rw [← ha.intsE]; exact hs⟩
/-! data without lists: it stands while lists change -/
mutual
def NL : PyData → Bool
  | .none | .bool _ | .int _ | .str _ => true
  | .list _ | .dict _ => false
  | .tuple xs => NLs xs
def NLs : List PyData → Bool
  | [] => true
  | x :: xs => NL x && NLs xs
end
/-- all is kept but the list at p -/
def Bu (p : Addr) (H H' : Hp) : Prop := ∀ b o, b ≠ p → H b = some o → H' b = some o
theorem Bu.of (s : Same H H') (p : Addr) : Bu p H H' := fun b o _ e => s b o e
theorem Bu.refl (p : Addr) (H : Hp) : Bu p H H := fun _ _ _ e => e
theorem Bu.trans {p : Addr} {H H1 H2 : Hp} (a : Bu p H H1) (b : Bu p H1 H2) : Bu p H H2 := fun c o n e => b c o n (a c o n e)
theorem Bu.set {p : Addr} {o : HO} : Bu p H (upd H p o) := fun b u n e => by rw [upd_ne n]; exact e
theorem Bu.new {p q : Addr} {o : HO} (hq : H q = none) : Bu p H (upd H q o) := fun b u _ e => by rw [upd_ne (ne_of_none e hq)]; exact e
theorem Bu.sqt {p : Addr} {ys : List V} (b : Bu p H H') (hp : H p = some (.lst ys)) {a : Addr} {xs : List V} (h : SqT K H a xs) : SqT K H' a xs := by
  rcases h with (h | ⟨o, h⟩) | h
  · exact .inl (.inl (b a _ (fun z => by rw [z, hp] at h; cases h) h))
  · exact .inl (.inr ⟨o, b a _ (fun z => by rw [z, hp] at h; cases h) h⟩)
  · exact .inr h
mutual
theorem Dp.bu' {p : Addr} {ys : List V} (b : Bu p H H') (hp : H p = some (.lst ys)) : ∀ (d : PyData) (v : V), NL d = true → Dp K H v d → Dp K H' v d
  | .none, _, _, h => by cases h; exact .non
  | .bool b, _, _, h => by cases h; exact .bl b
  | .int i, _, _, h => by cases h; exact .int i
  | .str x, _, _, h => by cases h; exact .str x
  | .list ds, _, n, h => by simp [NL] at n
  | .tuple ds, _, n, h => by
    cases h with
    | tup hs ha => exact .tup (b.sqt hp hs) (DpAll.bu' b hp ds _ (by simpa [NL] using n) ha)
  | .dict _, _, _, h => by cases h
theorem DpAll.bu' {p : Addr} {ys : List V} (b : Bu p H H') (hp : H p = some (.lst ys)) : ∀ (ds : List PyData) (vs : List V), NLs ds = true → DpAll K H vs ds → DpAll K H' vs ds
  | [], _, _, h => by cases h; exact .nil
  | d :: ds, _, n, h => by
    cases h with
    | cons h1 h2 =>
      have n' : NL d = true ∧ NLs ds = true := by simpa [NLs] using n
      exact .cons (Dp.bu' b hp d _ n'.1 h1) (DpAll.bu' b hp ds _ n'.2 h2)
end
theorem Dp.bu {p : Addr} {ys : List V} {d : PyData} {v : V} (h : Dp K H v d) (n : NL d = true) (b : Bu p H H') (hp : H p = some (.lst ys)) : Dp K H' v d := Dp.bu' b hp d v n h
theorem DpAll.bu {p : Addr} {ys : List V} {ds : List PyData} {vs : List V} (h : DpAll K H vs ds) (n : NLs ds = true) (b : Bu p H H') (hp : H p = some (.lst ys)) : DpAll K H' vs ds := DpAll.bu' b hp ds vs n h
theorem NLs.of : ∀ {ds : List PyData}, (∀ d ∈ ds, NL d = true) → NLs ds = true
  | [], _ => rfl
  | d :: ds, h => by
    have := NLs.of (ds := ds) fun x hx => h x (List.mem_cons_of_mem _ hx)
    simp [NLs, h d (List.mem_cons_self ..), this]
theorem NLs.mem : ∀ {ds : List PyData}, NLs ds = true → ∀ d ∈ ds, NL d = true
  | [], _, _, h => by cases h
  | d :: ds, n, x, h => by
    have n' : NL d = true ∧ NLs ds = true := by simpa [NLs] using n
    rcases List.mem_cons.mp h with rfl | h
    · exact n'.1
    · exact NLs.mem n'.2 x h
theorem NLs.take {ds : List PyData} (h : NLs ds = true) (n : Nat) : NLs (ds.take n) = true := NLs.of fun d hd => NLs.mem h d (List.mem_of_mem_take hd)
theorem NLs.ints (is : List Int) : NLs (is.map PyData.int) = true := NLs.of fun d hd => by
  obtain ⟨i, _, rfl⟩ := List.mem_map.mp hd
  rfl
theorem NL.ints (is : List Int) : NL (.tuple (is.map PyData.int)) = true := by simp [NL, NLs.ints]
/-- a comprehension whose items are data without lists, told by es; nothing old changes -/
theorem lc_nl {J : It} {n : Nat} {G : Hp → Prop} {Y : Nat → Hp → V → Hp → Prop} (w : Walk J n G Y) {g : TG} {te : TE} {vs : List Nat} {σ : L2.St} {H1 : Hp} {D : Addr} {Qd : Hp → Prop} (es : List PyData) (hn : es.length = n) (hz : n ≤ 100000) (hl : NLs es = true) (hD : H1 D = none)
    (hG : ∀ H, Same H1 H → G H)
    (hs : ∀ (i : Nat) (e : PyData) (x : V) (H H' : Hp) (Q : VK), i < n → es[i]? = some e → Same H1 H → Y i H x H' → (∀ y H4, Same H H4 → Dp K H4 y e → Q y H4) →
      g x (wipe σ vs) H' fun σ2 H2 => wipe σ2 vs = wipe σ vs ∧ te σ2 H2 Q)
    (hd : ∀ H ys, Same H1 H → H D = some (.lst ys) → DpAll K H ys es → Qd H) (hg : ∀ x σ' H' (P Q : L2.St → Hp → Prop), (∀ σ2 H2, P σ2 H2 → Q σ2 H2) → g x σ' H' P → g x σ' H' Q) :
    ∃ W : Nat → Nat → Hp → Prop, (∃ m, W 0 m (upd H1 D (.lst []))) ∧ ∀ i m H, W i m H →
      (J.stop i H ∧ Qd H) ∨ (J.go i H ∧ ∃ Nx : Hp → Prop, (∀ H', Nx H' → ∃ m', m' < m ∧ W (i + 1) m' H') ∧ ∀ x H', J.yld i H x H' → g x (wipe σ vs) H' fun σ2 H2 => wipe σ2 vs = wipe σ vs ∧ tYes σ2 H2 fun b H3 =>
        if b = true then te σ2 H3 fun y H4 => ∃ acc, H4 D = some (.lst acc) ∧ acc.length < sizeLine ∧ Nx (upd H4 D (.lst (acc ++ [y]))) else Nx H3) := by
  refine lc_it w (fun i H => Same H1 H ∧ ∃ ys, H D = some (.lst ys) ∧ DpAll K H ys (es.take i)) ⟨same_new hD, [], upd_same, by simp; exact .nil⟩ (fun i H _ h => hG H h.1) ?_ ?_
  · rintro i x H H' hi ⟨s, ys, ed, ha⟩ hy
    have he : es[i]? = some es[i] := List.getElem?_eq_getElem (by omega)
    refine hg x _ H' _ _ (fun σ2 H2 h => ⟨h.1, h.2⟩) (hs i es[i] x H H' (fun y H4 => ∃ acc, H4 D = some (.lst acc) ∧ acc.length < sizeLine ∧ Same H1 (upd H4 D (.lst (acc ++ [y]))) ∧ ∃ ys, upd H4 D (.lst (acc ++ [y])) D = some (.lst ys) ∧ DpAll K (upd H4 D (.lst (acc ++ [y]))) ys (es.take (i + 1))) hi he s hy fun y H4 s4 dy => ?_)
    have e4 := s4 _ _ ed
    have hlen := ha.len
    refine ⟨ys, e4, ?_, same_over (s.trans s4) hD, ys ++ [y], upd_same, ?_⟩
    · rw [hlen, List.length_take]; unfold sizeLine; omega
    · rw [List.take_add_one, he]
      exact ((ha.up s4).bu (NLs.take hl i) Bu.set e4).app (.cons (dy.bu (NLs.mem hl _ (List.getElem_mem _)) Bu.set e4) .nil)
  · rintro H ⟨s, ys, ed, ha⟩
    refine hd H ys s ed ?_
    rw [← hn, List.take_length] at ha
    exact ha
theorem gName_mono {k : Nat} (x : V) (σ' : L2.St) (H' : Hp) (P Q : L2.St → Hp → Prop) (h : ∀ σ2 H2, P σ2 H2 → Q σ2 H2) (p : gName k x σ' H' P) : gName k x σ' H' Q := h _ _ p
theorem gTup2_mono {n k j : Nat} (x : V) (σ' : L2.St) (H' : Hp) (P Q : L2.St → Hp → Prop) (h : ∀ σ2 H2, P σ2 H2 → Q σ2 H2) (p : gTup K n (gCons (gName k) (gCons (gName j) gNil)) x σ' H' P) : gTup K n (gCons (gName k) (gCons (gName j) gNil)) x σ' H' Q := by
  obtain ⟨a, xs, e, hs, hl, v, r, e1, v2, r2, e2, e3, q⟩ := p
  exact ⟨a, xs, e, hs, hl, v, r, e1, v2, r2, e2, e3, h _ _ q⟩
/-! == and repr of data -/
theorem shaped_of {d : PyData} (h : d.canLay0 = true) (hd : d.depth ≤ 64) : SeqAt.shaped d = true := by
  unfold SeqAt.shaped
  rw [h, decide_eq_true hd]
  rfl
end
end L2
set_option Elab.async false
namespace Pm
/-- a cut: axis (0 east, 1 north), parts -/
abbrev Cut := Nat × Nat
def wid : List Cut → Nat → Nat
  | [], _ => 1
  | (a, p) :: r, ax => (if a = ax then p else 1) * wid r ax
def size : List Cut → Nat
  | [] => 1
  | (_, p) :: r => p * size r
/-- the number along an axis of a sign, the cuts from the last one on -/
def al : List Cut → Nat → Nat → Nat
  | [], _, _ => 0
  | (a, p) :: r, s, ax => if a = ax then s % p + p * al r (s / p) ax else al r (s / p) ax
def CutOk (c : Cut) : Prop := c.1 < 2 ∧ 2 ≤ c.2 ∧ c.2 ≤ 4
def RndOk (r : List Cut) : Prop := 1 ≤ r.length ∧ r.length ≤ 5 ∧ (∀ c ∈ r, CutOk c) ∧ size r ≤ 32
instance (c : Cut) : Decidable (CutOk c) := by unfold CutOk; infer_instance
instance (r : List Cut) : Decidable (RndOk r) := by unfold RndOk; infer_instance
def tot (rs : List (List Cut)) (ax : Nat) : Nat := (rs.map fun r => wid r ax).foldr (· * ·) 1
def RdsOk (rs : List (List Cut)) : Prop := 1 ≤ rs.length ∧ rs.length ≤ 3 ∧ (∀ r ∈ rs, RndOk r) ∧ tot rs 0 = tot rs 1
instance (rs : List (List Cut)) : Decidable (RdsOk rs) := by unfold RdsOk; infer_instance
def rnd (rs : List (List Cut)) (k : Nat) : List Cut := rs.getD (k % rs.length) []
def W (rs : List (List Cut)) (ax k : Nat) : Nat := wid (rnd rs k) ax
def S (rs : List (List Cut)) (k : Nat) : Nat := size (rnd rs k)
def cnt (rs : List (List Cut)) (ax : Nat) : Nat → Nat
  | 0 => 1
  | k + 1 => cnt rs ax k * W rs ax k
def A (rs : List (List Cut)) (ax k g : Nat) : Nat := al (rnd rs k).reverse g ax
def nm (rs : List (List Cut)) (ax : Nat) (f : Nat → Nat) : Nat → Nat
  | 0 => 0
  | k + 1 => nm rs ax f k * W rs ax k + A rs ax k (f k)
/-! one round -/
theorem wid_app (r q : List Cut) (ax : Nat) : wid (r ++ q) ax = wid r ax * wid q ax := by
  induction r with
  | nil => simp [wid]
  | cons c r ih => obtain ⟨a, p⟩ := c; simp only [List.cons_append, wid, ih, Nat.mul_assoc]
theorem size_app (r q : List Cut) : size (r ++ q) = size r * size q := by
  induction r with
  | nil => simp [size]
  | cons c r ih => obtain ⟨a, p⟩ := c; simp only [List.cons_append, size, ih, Nat.mul_assoc]
theorem wid_perm {r q : List Cut} (h : r.Perm q) (ax : Nat) : wid r ax = wid q ax := by
  induction h with
  | nil => rfl
  | cons c _ ih => obtain ⟨a, p⟩ := c; simp only [wid, ih]
  | swap c d l => obtain ⟨a, p⟩ := c; obtain ⟨b, q⟩ := d; simp only [wid]; rw [← Nat.mul_assoc, ← Nat.mul_assoc, Nat.mul_comm (if b = ax then q else 1)]
  | trans _ _ i1 i2 => exact i1.trans i2
theorem size_perm {r q : List Cut} (h : r.Perm q) : size r = size q := by
  induction h with
  | nil => rfl
  | cons c _ ih => obtain ⟨a, p⟩ := c; simp only [size, ih]
  | swap c d l => obtain ⟨a, p⟩ := c; obtain ⟨b, q⟩ := d; simp only [size]; rw [← Nat.mul_assoc, ← Nat.mul_assoc, Nat.mul_comm q]
  | trans _ _ i1 i2 => exact i1.trans i2
theorem wid_rev (r : List Cut) (ax : Nat) : wid r.reverse ax = wid r ax := wid_perm (List.reverse_perm r) ax
theorem size_rev (r : List Cut) : size r.reverse = size r := size_perm (List.reverse_perm r)
theorem wid_pos {r : List Cut} (h : ∀ c ∈ r, CutOk c) (ax : Nat) : 0 < wid r ax := by
  induction r with
  | nil => simp [wid]
  | cons c r ih =>
    obtain ⟨a, p⟩ := c
    have h1 := h (a, p) (List.mem_cons_self ..)
    have h2 := ih fun c hc => h c (List.mem_cons_of_mem _ hc)
    simp only [wid]
    refine Nat.mul_pos ?_ h2
    split
    · exact Nat.lt_of_lt_of_le (by decide) h1.2.1
    · exact Nat.one_pos
theorem size_pos {r : List Cut} (h : ∀ c ∈ r, CutOk c) : 0 < size r := by
  induction r with
  | nil => simp [size]
  | cons c r ih =>
    obtain ⟨a, p⟩ := c
    have h1 := h (a, p) (List.mem_cons_self ..)
    have h2 := ih fun c hc => h c (List.mem_cons_of_mem _ hc)
    exact Nat.mul_pos (Nat.lt_of_lt_of_le (by decide) h1.2.1) h2
theorem size_wid {r : List Cut} (h : ∀ c ∈ r, CutOk c) : size r = wid r 0 * wid r 1 := by
  induction r with
  | nil => rfl
  | cons c r ih =>
    obtain ⟨a, p⟩ := c
    have h1 := h (a, p) (List.mem_cons_self ..)
    have h2 := ih fun c hc => h c (List.mem_cons_of_mem _ hc)
    have ha : a = 0 ∨ a = 1 := by have := h1.1; simp at this; omega
    simp only [size, wid, h2]
    rcases ha with rfl | rfl
    · simp [Nat.mul_assoc]
    · simp only [Nat.one_ne_zero, if_false, if_true, Nat.one_mul]
      rw [Nat.mul_left_comm]
theorem al_lt {r : List Cut} (h : ∀ c ∈ r, CutOk c) (s ax : Nat) : al r s ax < wid r ax := by
  induction r generalizing s with
  | nil => simp [al, wid]
  | cons c r ih =>
    obtain ⟨a, p⟩ := c
    have h1 := h (a, p) (List.mem_cons_self ..)
    have h2 := ih (fun c hc => h c (List.mem_cons_of_mem _ hc)) (s / p)
    have hp : 0 < p := Nat.lt_of_lt_of_le (by decide) h1.2.1
    simp only [al, wid]
    split
    · have hm := Nat.mod_lt s hp
      calc s % p + p * al r (s / p) ax < p + p * al r (s / p) ax := by omega
        _ = p * (al r (s / p) ax + 1) := by rw [Nat.mul_add, Nat.mul_one, Nat.add_comm]
        _ ≤ p * wid r ax := Nat.mul_le_mul_left p h2
    · rw [Nat.one_mul]; exact h2
theorem al_inj {r : List Cut} (h : ∀ c ∈ r, CutOk c) {s t : Nat} (hs : s < size r) (ht : t < size r) (h0 : al r s 0 = al r t 0) (h1 : al r s 1 = al r t 1) : s = t := by
  induction r generalizing s t with
  | nil => simp [size] at hs ht; omega
  | cons c r ih =>
    obtain ⟨a, p⟩ := c
    have hc := h (a, p) (List.mem_cons_self ..)
    have hp : 0 < p := Nat.lt_of_lt_of_le (by decide) hc.2.1
    have ha : a = 0 ∨ a = 1 := by have := hc.1; simp at this; omega
    have hr : ∀ c ∈ r, CutOk c := fun c hc => h c (List.mem_cons_of_mem _ hc)
    have ds : s / p < size r := Nat.div_lt_of_lt_mul (by simpa [size] using hs)
    have dt : t / p < size r := Nat.div_lt_of_lt_mul (by simpa [size] using ht)
    have split2 : ∀ {x y u v : Nat}, x < p → y < p → x + p * u = y + p * v → x = y ∧ u = v := by
      intro x y u v hx hy e
      have e1 : (x + p * u) % p = (y + p * v) % p := by rw [e]
      rw [Nat.add_mul_mod_self_left, Nat.add_mul_mod_self_left, Nat.mod_eq_of_lt hx, Nat.mod_eq_of_lt hy] at e1
      subst e1
      have e2 : p * u = p * v := by omega
      exact ⟨rfl, Nat.eq_of_mul_eq_mul_left hp e2⟩
    have key : s % p = t % p ∧ s / p = t / p := by
      simp only [al] at h0 h1
      rcases ha with rfl | rfl
      · simp only [if_true, Nat.zero_ne_one, if_false] at h0 h1
        obtain ⟨e1, e2⟩ := split2 (Nat.mod_lt s hp) (Nat.mod_lt t hp) h0
        exact ⟨e1, ih hr ds dt e2 h1⟩
      · simp only [if_true, Nat.one_ne_zero, if_false] at h0 h1
        obtain ⟨e1, e2⟩ := split2 (Nat.mod_lt s hp) (Nat.mod_lt t hp) h1
        exact ⟨e1, ih hr ds dt h0 e2⟩
    rw [← Nat.mod_add_div s p, ← Nat.mod_add_div t p, key.1, key.2]
/-! rounds -/
theorem rnd_mem {rs : List (List Cut)} (h : 1 ≤ rs.length) (k : Nat) : rnd rs k ∈ rs := by
  have hk : k % rs.length < rs.length := Nat.mod_lt k h
  unfold rnd
  rw [List.getD_eq_getElem?_getD, List.getElem?_eq_getElem hk]
  exact List.getElem_mem hk
theorem rnd_get {rs : List (List Cut)} (h : 1 ≤ rs.length) (k : Nat) : rs[k % rs.length]? = some (rnd rs k) := by
  have hk : k % rs.length < rs.length := Nat.mod_lt k h
  unfold rnd
  rw [List.getD_eq_getElem?_getD, List.getElem?_eq_getElem hk]
  rfl
theorem RdsOk.rnd {rs : List (List Cut)} (h : RdsOk rs) (k : Nat) : RndOk (rnd rs k) := h.2.2.1 _ (rnd_mem h.1 k)
theorem RdsOk.cut {rs : List (List Cut)} (h : RdsOk rs) (k : Nat) : ∀ c ∈ Pm.rnd rs k, CutOk c := (h.rnd k).2.2.1
theorem RdsOk.W {rs : List (List Cut)} (h : RdsOk rs) (ax k : Nat) : 0 < W rs ax k := wid_pos (h.cut k) ax
theorem RdsOk.S {rs : List (List Cut)} (h : RdsOk rs) (k : Nat) : 0 < S rs k := size_pos (h.cut k)
theorem RdsOk.S32 {rs : List (List Cut)} (h : RdsOk rs) (k : Nat) : Pm.S rs k ≤ 32 := (h.rnd k).2.2.2
theorem RdsOk.SW {rs : List (List Cut)} (h : RdsOk rs) (k : Nat) : Pm.S rs k = Pm.W rs 0 k * Pm.W rs 1 k := size_wid (h.cut k)
theorem RdsOk.W32 {rs : List (List Cut)} (h : RdsOk rs) (k : Nat) : Pm.W rs 0 k ≤ 32 ∧ Pm.W rs 1 k ≤ 32 := by
  have e := h.SW k
  have l := h.S32 k
  have p0 := h.W 0 k
  have p1 := h.W 1 k
  constructor
  · have := Nat.le_mul_of_pos_right (Pm.W rs 0 k) p1; omega
  · have := Nat.le_mul_of_pos_left (Pm.W rs 1 k) p0; omega
theorem RdsOk.A_lt {rs : List (List Cut)} (h : RdsOk rs) (ax k g : Nat) : A rs ax k g < Pm.W rs ax k := by
  have := al_lt (r := (Pm.rnd rs k).reverse) (fun c hc => h.cut k c (List.mem_reverse.mp hc)) g ax
  rw [wid_rev] at this
  exact this
theorem RdsOk.cnt_pos {rs : List (List Cut)} (h : RdsOk rs) (ax k : Nat) : 0 < cnt rs ax k := by
  induction k with
  | zero => exact Nat.one_pos
  | succ k ih => exact Nat.mul_pos ih (h.W ax k)
theorem RdsOk.nm_lt {rs : List (List Cut)} (h : RdsOk rs) (ax : Nat) (f : Nat → Nat) (k : Nat) : nm rs ax f k < cnt rs ax k := by
  induction k with
  | zero => exact Nat.one_pos
  | succ k ih =>
    have a := h.A_lt ax k (f k)
    calc nm rs ax f k * Pm.W rs ax k + A rs ax k (f k) < nm rs ax f k * Pm.W rs ax k + Pm.W rs ax k := by omega
      _ = (nm rs ax f k + 1) * Pm.W rs ax k := by rw [Nat.add_mul, Nat.one_mul]
      _ ≤ cnt rs ax k * Pm.W rs ax k := Nat.mul_le_mul_right _ ih
/-- the number of a beginning -/
theorem RdsOk.begin {rs : List (List Cut)} (h : RdsOk rs) (ax : Nat) (f : Nat → Nat) (m j : Nat) : ∃ R rest, 0 < R ∧ rest < R ∧ cnt rs ax (m + j) = cnt rs ax m * R ∧ nm rs ax f (m + j) = nm rs ax f m * R + rest := by
  induction j with
  | zero => exact ⟨1, 0, Nat.one_pos, Nat.one_pos, by simp, by simp⟩
  | succ j ih =>
    obtain ⟨R, rest, hR, hr, e1, e2⟩ := ih
    have w := h.W ax (m + j)
    have a := h.A_lt ax (m + j) (f (m + j))
    refine ⟨R * Pm.W rs ax (m + j), rest * Pm.W rs ax (m + j) + A rs ax (m + j) (f (m + j)), Nat.mul_pos hR w, ?_, ?_, ?_⟩
    · calc rest * Pm.W rs ax (m + j) + A rs ax (m + j) (f (m + j)) < rest * Pm.W rs ax (m + j) + Pm.W rs ax (m + j) := by omega
        _ = (rest + 1) * Pm.W rs ax (m + j) := by rw [Nat.add_mul, Nat.one_mul]
        _ ≤ R * Pm.W rs ax (m + j) := Nat.mul_le_mul_right _ hr
    · show cnt rs ax (m + j) * Pm.W rs ax (m + j) = _
      rw [e1, Nat.mul_assoc]
    · show nm rs ax f (m + j) * Pm.W rs ax (m + j) + A rs ax (m + j) (f (m + j)) = _
      rw [e2, Nat.add_mul, Nat.mul_assoc, Nat.add_assoc]
theorem RdsOk.div {rs : List (List Cut)} (h : RdsOk rs) (ax : Nat) (f : Nat → Nat) {m n : Nat} (hmn : m ≤ n) : nm rs ax f n / (cnt rs ax n / cnt rs ax m) = nm rs ax f m := by
  obtain ⟨j, rfl⟩ := Nat.le.dest hmn
  obtain ⟨R, rest, hR, hr, e1, e2⟩ := h.begin ax f m j
  rw [e1, Nat.mul_div_cancel_left _ (h.cnt_pos ax m), e2, Nat.mul_comm, Nat.mul_add_div hR, Nat.div_eq_of_lt hr, Nat.add_zero]
theorem RdsOk.inj {rs : List (List Cut)} (h : RdsOk rs) {f g : Nat → Nat} {n : Nat} (hf : ∀ k, k < n → f k < Pm.S rs k) (hg : ∀ k, k < n → g k < Pm.S rs k) (h0 : nm rs 0 f n = nm rs 0 g n) (h1 : nm rs 1 f n = nm rs 1 g n) : ∀ k, k < n → f k = g k := by
  induction n with
  | zero => intro k hk; omega
  | succ n ih =>
    have sp : ∀ ax, nm rs ax f (n + 1) = nm rs ax g (n + 1) → nm rs ax f n = nm rs ax g n ∧ A rs ax n (f n) = A rs ax n (g n) := by
      intro ax e
      have w := h.W ax n
      have a1 := h.A_lt ax n (f n)
      have a2 := h.A_lt ax n (g n)
      have e' : nm rs ax f n * Pm.W rs ax n + A rs ax n (f n) = nm rs ax g n * Pm.W rs ax n + A rs ax n (g n) := e
      have q1 : (nm rs ax f n * Pm.W rs ax n + A rs ax n (f n)) / Pm.W rs ax n = nm rs ax f n := by
        rw [Nat.mul_comm, Nat.mul_add_div w, Nat.div_eq_of_lt a1, Nat.add_zero]
      have q2 : (nm rs ax g n * Pm.W rs ax n + A rs ax n (g n)) / Pm.W rs ax n = nm rs ax g n := by
        rw [Nat.mul_comm, Nat.mul_add_div w, Nat.div_eq_of_lt a2, Nat.add_zero]
      have q : nm rs ax f n = nm rs ax g n := by rw [← q1, ← q2, e']
      rw [q] at e'
      exact ⟨q, by omega⟩
    obtain ⟨n0, a0⟩ := sp 0 h0
    obtain ⟨n1, a1⟩ := sp 1 h1
    have rest := ih (fun k hk => hf k (by omega)) (fun k hk => hg k (by omega)) n0 n1
    intro k hk
    rcases Nat.lt_or_ge k n with hk' | hk'
    · exact rest k hk'
    · have : k = n := by omega
      subst this
      refine al_inj (r := (Pm.rnd rs k).reverse) (fun c hc => h.cut k c (List.mem_reverse.mp hc)) ?_ ?_ a0 a1
      · rw [size_rev]; exact hf k hk
      · rw [size_rev]; exact hg k hk
theorem nm_congr {rs : List (List Cut)} {ax : Nat} {f g : Nat → Nat} {n : Nat} (h : ∀ k, k < n → f k = g k) : nm rs ax f n = nm rs ax g n := by
  induction n with
  | zero => rfl
  | succ n ih => simp only [nm]; rw [ih fun k hk => h k (by omega), h n (by omega)]
/-! all rounds once -/
theorem tot_perm {rs qs : List (List Cut)} (h : rs.Perm qs) (ax : Nat) : tot rs ax = tot qs ax := by
  unfold tot
  induction h with
  | nil => rfl
  | cons c _ ih => simp only [List.map_cons, List.foldr_cons, ih]
  | swap c d l => simp only [List.map_cons, List.foldr_cons]; rw [Nat.mul_left_comm]
  | trans _ _ i1 i2 => exact i1.trans i2
theorem cnt_take {rs : List (List Cut)} (ax : Nat) : ∀ k, k ≤ rs.length → cnt rs ax k = tot (rs.take k) ax := by
  intro k
  induction k with
  | zero => intro _; simp [cnt, tot]
  | succ k ih =>
    intro hk
    have e := ih (by omega)
    have hlt : k < rs.length := by omega
    have er : rnd rs k = rs[k] := by
      unfold rnd
      rw [Nat.mod_eq_of_lt hlt, List.getD_eq_getElem?_getD, List.getElem?_eq_getElem hlt]
      rfl
    have app : ∀ (xs : List (List Cut)) (y : List Cut), tot (xs ++ [y]) ax = tot xs ax * wid y ax := by
      intro xs y
      induction xs with
      | nil => simp [tot]
      | cons x xs ih => simp only [tot, List.cons_append, List.map_cons, List.foldr_cons] at *; rw [ih, Nat.mul_assoc]
    show cnt rs ax k * W rs ax k = _
    rw [e, List.take_succ_eq_append_getElem hlt, app]
    unfold W
    rw [er]
theorem cnt_all (rs : List (List Cut)) (ax : Nat) : cnt rs ax rs.length = tot rs ax := by
  rw [cnt_take ax _ (Nat.le_refl _), List.take_length]
theorem RdsOk.bal {rs : List (List Cut)} (h : RdsOk rs) : cnt rs 0 rs.length = cnt rs 1 rs.length := by
  rw [cnt_all, cnt_all]; exact h.2.2.2
theorem RdsOk.perm {rs qs : List (List Cut)} (h : RdsOk rs) (p : rs.Perm qs) : RdsOk qs :=
  ⟨p.length_eq ▸ h.1, p.length_eq ▸ h.2.1, fun r hr => h.2.2.1 r (p.mem_iff.mpr hr), by rw [← tot_perm p, ← tot_perm p]; exact h.2.2.2⟩
theorem RndOk.perm {r q : List Cut} (h : RndOk r) (p : r.Perm q) : RndOk q :=
  ⟨p.length_eq ▸ h.1, p.length_eq ▸ h.2.1, fun c hc => h.2.2.1 c (p.mem_iff.mpr hc), by rw [← size_perm p]; exact h.2.2.2⟩
end Pm
set_option Elab.async false
set_option maxRecDepth 100000
set_option maxHeartbeats 4000000
namespace Mv
open PySem PySem.Spec PyProof.Rows L2
theorem tyL {K : PySem.W.Frag} {H : Hp} {a : Addr} {xs : List V} (h : SqL K H a xs) : TyX K H (.ref a) (.type "list") := by
  rcases h with (h | ⟨o, h⟩) | ⟨o, its, n, hk, hc, _⟩
  · exact .base (.lst h)
  · exact .base (.frz h)
  · exact .kList hk hc
theorem tyT {K : PySem.W.Frag} {H : Hp} {a : Addr} {xs : List V} (h : SqT K H a xs) : TyX K H (.ref a) (.type "tuple") := by
  rcases h with (h | ⟨o, h⟩) | ⟨o, its, n, hk, hc, _⟩
  · exact .base (.tup h)
  · exact .fTuple h
  · exact .kTuple hk hc
theorem sqK_or {b : Bool} {K : PySem.W.Frag} {H : Hp} {a : Addr} {xs : List V} (h : SqK b K H a xs) : SqL K H a xs ∨ SqT K H a xs := by
  cases b
  · exact .inr h
  · exact .inl h
theorem tyK {b : Bool} {K : PySem.W.Frag} {H : Hp} {a : Addr} {xs : List V} (h : SqK b K H a xs) : TyX K H (.ref a) (.type (if b then "list" else "tuple")) := by
  cases b
  · exact tyT h
  · exact tyL h
/-- the built-ins are still their own -/
structure Blt (mg : Str → Option Value) : Prop where
  len : mg "len" = none
  abs : mg "abs" = none
  max : mg "max" = none
  min : mg "min" = none
  int : mg "int" = none
  bool : mg "bool" = none
  str : mg "str" = none
  repr : mg "repr" = none
  all : mg "all" = none
  any : mg "any" = none
  range : mg "range" = none
  divmod : mg "divmod" = none
  isinstance : mg "isinstance" = none
  list : mg "list" = none
  tuple : mg "tuple" = none
  dict : mg "dict" = none
  enumerate : mg "enumerate" = none
  zip : mg "zip" = none
  sorted : mg "sorted" = none
  sum : mg "sum" = none
  type : mg "type" = none
/-- a class of the text whose instances are plain -/
structure ClsI (K : PySem.W.Frag) (C : Addr) : Prop where
  cl : Cls K C
  ha : PySem.W.findIn K (.ref C) "__class__" = some (some (.builtin "object.__class__"))
  hn : PySem.W.specialIn K (.builtin "object.__class__") "__get__" = some (some (.builtin "getset_descriptor.__get__"))
  htk : PySem.W.takesIn K (.builtin "object.__class__") = some true
  hm : PySem.W.mroIn K C (.type "object") = some true
  me : PySem.W.kitOne K (.ref C) (.ref C) = some true
  ne : PySem.W.findIn K (.ref C) "__ne__" = some (some (.builtin "object.__ne__"))
theorem ClsI.ty {K : PySem.W.Frag} {C : Addr} (R : ClsI K C) {H : Hp} {a dx : Addr} {fs : List (Str × V)} (e : H a = some (.ins C dx fs)) : TyX K H (.ref a) (.ref C) := .base (.ins e R.cl R.ha R.hn R.htk R.hm)
theorem ClsI.nf {K : PySem.W.Frag} {C : Addr} (_ : ClsI K C) : PySem.W.notFirst K C (.ref C) = true := by unfold PySem.W.notFirst; simp
/-- attributes of a class itself -/
structure ClsR (K : PySem.W.Frag) (C : Addr) : Prop where
  ex : ∃ mc, ClX.CRead K C mc
/-- the constant C.f -/
structure CCon (K : PySem.W.Frag) (C : Addr) (f : Str) (v : V) : Prop where
  ex : ∃ mc u, ClX.CRead K C mc ∧ ClX.CVal K C mc f v u
/-- x.f, x the name of the class at C -/
theorem pe_ccon {X : Cx} {C : Addr} {x f : Str} {v : V} {p pos : Pos} (c : CCon X.K C f v) (hg : Gl X x) (hm : X.mg x = some (.ref C)) (hd : (x == ("__debug__" : Str)) = false := by decide)
    (hb : attributeBase (.Name x p) f X.env (eval (.Name x p) X.env) = eval (.Name x p) X.env := by rfl) : PE X (.Attribute (.Name x p) f pos) (tC v) := by
  obtain ⟨mc, u, r, k⟩ := c.ex
  exact ⟨fun pins s σ H Q I h => (ClX.pe_cval (pe_glob (v := .ref C) hg hm rfl hd) hb).run pins s σ H Q I ⟨C, mc, v, u, rfl, r, k, h⟩⟩
end Mv
namespace Mv
open PySem PySem.Spec PyProof.Rows L2
section
variable {X : Cx} {x : Str} {pos : Pos}
theorem pe_globS {z : Str} (h : ∃ t, X.mg x = some (.str z t)) (hg : Gl X x) (hd : (x == ("__debug__" : Str)) = false := by decide) : PE X (.Name x pos) (tC (.str z)) := by
  obtain ⟨t, h⟩ := h
  exact pe_glob hg h ⟨_, rfl⟩ hd
theorem pe_globI {i : Int} (h : ∃ t, X.mg x = some (.int i t)) (hg : Gl X x) (hd : (x == ("__debug__" : Str)) = false := by decide) : PE X (.Name x pos) (tC (.int i)) := by
  obtain ⟨t, h⟩ := h
  exact pe_glob hg h ⟨_, rfl⟩ hd
end
/-- no more arguments -/
theorem tnil {σ : L2.St} {H : Hp} {P : List V → Hp → Prop} (h : P [] H) : tNil σ H P := h
/-- a value that is no integer -/
def NotInt (K : PySem.W.Frag) (H : Hp) (v : V) : Prop := ∃ (t : Value) (b c : Bool), TyX K H v t ∧ PySem.W.kitOne K t (.type "int") = some b ∧ PySem.W.kitOne K t (.type "bool") = some c ∧ (b && !c) = false
/-- what stands in the module of plans -/
structure PlG (K : PySem.W.Frag) (mg : Str → Option Value) (C AX : Addr) : Prop where
  I : ClsI K C
  mgC : mg "Plan" = some (.ref C)
  nR : NoAttr K C "own_rounds"
  nP : NoAttr K C "own_parts"
  nG : NoAttr K C "own_growth"
  east : ∃ t, mg "EAST" = some (.str "east" t)
  north : ∃ t, mg "NORTH" = some (.str "north" t)
  axes : mg "AXES" = some (.ref AX)
  axt : ∀ H : Hp, SqT K H AX [.str "east", .str "north"]
  axk : ∃ o, K.lookup AX = some o ∧ o.cls = .type "tuple" ∧ o.dict = none
  few : ∃ t, mg "FEWEST_PARTS" = some (.int 2 t)
  most : ∃ t, mg "MOST_PARTS" = some (.int 4 t)
  fine : ∃ t, mg "MOST_FINE" = some (.int 1000 t)
  mr : CCon K C "MOST_ROUNDS" (.int 3)
  mc : CCon K C "MOST_CUTS" (.int 5)
  ms : CCon K C "MOST_SIGNS" (.int 32)
/-! the data of plans -/
def axn (a : Nat) : Str := if a = 0 then "east" else "north"
/-- a cut of the program; a cut of a law -/
def pCut (c : Pm.Cut) : PyData := .tuple [.str (axn c.1), .int c.2]
def lCut (c : Pm.Cut) : PyData := .tuple [.int c.1, .int c.2]
theorem axn_eq {a b : Nat} (ha : a < 2) (hb : b < 2) : decide (V.str (axn a) = V.str (axn b)) = decide (a = b) := by
  have h1 : a = 0 ∨ a = 1 := by omega
  have h2 : b = 0 ∨ b = 1 := by omega
  rcases h1 with rfl | rfl <;> rcases h2 with rfl | rfl <;> decide
end Mv
namespace Mv
open PySem PySem.Spec PyProof.Rows L2
section
variable {X : Cx} {K : PySem.W.Frag}
def rListOf (K : PySem.W.Frag) : List V → Hp → VK → Prop := fun xs H Q => ∃ p ys, xs = [.ref p] ∧ (SqL K H p ys ∨ SqT K H p ys) ∧ ∀ l, H l = none → Q (.ref l) (upd H l (.lst ys))
theorem call_list_of' (e : X.K = K := by (conv => lhs; whnf)) : CallR X (.type "list") (rListOf K) := by
  subst e
  exact call_list_of
def rTupOf (K : PySem.W.Frag) : List V → Hp → VK → Prop := fun xs H Q => ∃ p ys, xs = [.ref p] ∧ ((SqL K H p ys ∧ ∀ l, H l = none → Q (.ref l) (upd H l (.tup ys))) ∨ (SqT K H p ys ∧ Q (.ref p) H))
theorem call_tuple_of' (e : X.K = K := by (conv => lhs; whnf)) : CallR X (.type "tuple") (rTupOf K) := by
  subst e
  exact call_tuple_of
def rLenSeq (K : PySem.W.Frag) : List V → Hp → VK → Prop := fun xs H Q => ∃ p ys, xs = [.ref p] ∧ (SqL K H p ys ∨ SqT K H p ys) ∧ Q (.int ys.length) H
theorem call_len_seq' (e : X.K = K := by (conv => lhs; whnf)) : CallR X (.builtin "len") (rLenSeq K) := by
  subst e
  exact call_len_seq
theorem ix_list' (e : X.K = K := by (conv => lhs; whnf)) : IxR X (rIxL K) := by
  subst e
  exact ix_list
theorem ix_tup' (e : X.K = K := by (conv => lhs; whnf)) : IxR X (rIxT K) := by
  subst e
  exact ix_tup
theorem op_eqD' (hu : X.A.units + 64 < cLine) (e : X.K = K := by (conv => lhs; whnf)) : OpR X (compareOp .Eq) (rEqD K) := by
  subst e
  exact op_eqD hu
theorem op_neD' (hu : X.A.units + 64 < cLine) (e : X.K = K := by (conv => lhs; whnf)) : OpR X (compareOp .NotEq) (rNeD K) := by
  subst e
  exact op_neD hu
end
end Mv
namespace Mv
open PySem PySem.Spec PyProof.Rows L2
theorem pg_tup' {X : Cx} {K : PySem.W.Frag} {es : List Expr} {k : Nat} {t : TGs} {pos : Pos} (n : Nat) (h : PGs X es t) (e : X.K = K := by (conv => lhs; whnf)) (hc : X.calm = true := by rfl)
    (hn : (assignEach es X.env).length = n := by rfl) (hst : (assignEach es X.env).findIdx? (·.1) = none := by rfl) : PG X (.Tuple es k pos) (gTup K n t) := by
  subst e
  exact pg_tup hc h hn hst
theorem sl_tupA' {X : Cx} {K : PySem.W.Frag} (e : X.K = K := by (conv => lhs; whnf)) : SlR X (rSlA K) := by
  subst e
  exact sl_tupA
end Mv
namespace Mv
open PySem PySem.Spec PyProof.Rows L2
section
variable {X : Cx} {K : PySem.W.Frag} {tg l : Expr} {tl : TE}
theorem pi_list' (hl : PE X l tl) (e : X.K = K := by (conv => lhs; whnf)) : PI X tg l (iList K tl) := by
  subst e
  exact pi_list hl
theorem pi_tup' (hl : PE X l tl) (e : X.K = K := by (conv => lhs; whnf)) : PI X tg l (iTup K tl) := by
  subst e
  exact pi_tup hl
theorem pi_seq' (hl : PE X l tl) (e : X.K = K := by (conv => lhs; whnf)) : PI X tg l (iSeq K tl) := by
  subst e
  exact pi_seq hl
end
end Mv
set_option Elab.async false
set_option maxRecDepth 100000
set_option maxHeartbeats 4000000
namespace T
open PySem L2 Mv
def top (i : Nat) : Stmt := PySem.Challenge.pw_movecells_k24_what_is_a_name.main.body.getD i (.Pass ⟨0, 0, 0, 0⟩)
abbrev s_isint : Stmt := top 19
theorem sc_isint : FnScope ["value"] ["value"] (defScope s_isint) := ⟨rfl, rfl, rfl, by decide +kernel, rfl, by decide +kernel, by decide +kernel⟩
abbrev s_count : Stmt := top 20
theorem sc_count : FnScope ["value"] ["value"] (defScope s_count) := ⟨rfl, rfl, rfl, by decide +kernel, rfl, by decide +kernel, by decide +kernel⟩
abbrev s_islist : Stmt := top 21
theorem sc_islist : FnScope ["value"] ["value"] (defScope s_islist) := ⟨rfl, rfl, rfl, by decide +kernel, rfl, by decide +kernel, by decide +kernel⟩
abbrev s_isaxis : Stmt := top 36
theorem sc_isaxis : FnScope ["value"] ["value"] (defScope s_isaxis) := ⟨rfl, rfl, rfl, by decide +kernel, rfl, by decide +kernel, by decide +kernel⟩
abbrev s_areparts : Stmt := top 38
theorem sc_areparts : FnScope ["value"] ["value"] (defScope s_areparts) := ⟨rfl, rfl, rfl, by decide +kernel, rfl, by decide +kernel, by decide +kernel⟩
abbrev s_iscut : Stmt := top 39
theorem sc_iscut : FnScope ["value"] ["value"] (defScope s_iscut) := ⟨rfl, rfl, rfl, by decide +kernel, rfl, by decide +kernel, by decide +kernel⟩
abbrev s_isround : Stmt := top 40
theorem sc_isround : FnScope ["value", "cut"] ["value"] (defScope s_isround) := ⟨rfl, rfl, rfl, by decide +kernel, rfl, by decide +kernel, by decide +kernel⟩
abbrev s_along1 : Stmt := top 41
theorem sc_along1 : FnScope ["cuts", "axis", "found", "own_axis", "parts"] ["cuts", "axis"] (defScope s_along1) := ⟨rfl, rfl, rfl, by decide +kernel, rfl, by decide +kernel, by decide +kernel⟩
abbrev s_wantrounds : Stmt := top 42
theorem sc_wantrounds : FnScope ["rounds", "position", "cuts"] ["rounds"] (defScope s_wantrounds) := ⟨rfl, rfl, rfl, by decide +kernel, rfl, by decide +kernel, by decide +kernel⟩
section
variable {P : Program} {w : World} {K : PySem.W.Frag} {mg : Str → Option Value} {base : Heap} {C AX : Addr}
/-! is_integer -/
def sp_isint (K : PySem.W.Frag) : Sp := fun vs H Q _ => ∃ (v : V) (t : Value) (b c : Bool), vs = [v] ∧ TyX K H v t ∧ PySem.W.kitOne K t (.type "int") = some b ∧ PySem.W.kitOne K t (.type "bool") = some c ∧ Q (.bl (b && !c)) H
theorem c_isint {K : PySem.W.Frag} {v : V} {t : Value} {b c : Bool} {H : Hp} {Q : VK} {E : XK} (h0 : TyX K H v t) (h1 : PySem.W.kitOne K t (.type "int") = some b) (h2 : PySem.W.kitOne K t (.type "bool") = some c) (q : Q (.bl (b && !c)) H) : sp_isint K [v] H Q E := ⟨_, _, _, _, rfl, h0, h1, h2, q⟩
theorem ok_isint {f : Addr} {fd : FuncData} (F : Df K "is_integer" "is_integer" s_isint [] f fd) (B : Blt mg) : FnOk P w K mg base CX0 1 f fd ["value"] (sp_isint K) := by
  refine dfOk F sc_isint (fun vs H Q E h => ?_) (fun cdv A outer s H vs Q E hr h => ?_)
  · obtain ⟨v, t, b, c, rfl, _⟩ := h
    rfl
  · obtain ⟨v, t, b, c, rfl, ty, h1, h2, q⟩ := h
    refine ⟨_, (pss_one (ps_ret (pe_and (pe_callB call_isi' (by rfl) B.isinstance bt_isinstance (pa_cons (pv 0) (pa_cons (pe_bltn (v := .ty "int") (by rfl) B.int bt_int rfl) pa_nil))) (pe_one (pe_not (pe_callB call_isi' (by rfl) B.isinstance bt_isinstance (pa_cons (pv 0) (pa_cons (pe_bltn (v := .ty "bool") (by rfl) B.bool bt_bool rfl) pa_nil)))))))), ?_⟩
    refine ⟨_, rfl, _, _, t, _, b, rfl, .ty _, ty, h1, b, rfl, ?_⟩
    cases b with
    | false => exact iteF q
    | true =>
      refine iteT ?_
      refine ⟨_, rfl, _, _, t, _, c, rfl, .ty _, ty, h2, c, rfl, ?_⟩
      exact q
theorem isint_int {H : Hp} {i : Int} {Q : VK} (q : Q (.bl true) H) : sp_isint K [.int i] H Q E0 := ⟨_, .type "int", true, false, rfl, .base (.int i), kit_ty (by decide +kernel), kit_ty (by decide +kernel), q⟩
theorem isint_not {H : Hp} {v : V} {Q : VK} (h : NotInt K H v) (q : Q (.bl false) H) : sp_isint K [v] H Q E0 := by
  obtain ⟨t, b, c, ty, h1, h2, h3⟩ := h
  exact ⟨v, t, b, c, rfl, ty, h1, h2, h3 ▸ q⟩
/-! is_count -/
def sp_count (K : PySem.W.Frag) : Sp := fun vs H Q _ => ∃ (v : V), vs = [v] ∧ ((∃ i, v = .int i ∧ Q (.bl (decide (0 ≤ i))) H) ∨ (NotInt K H v ∧ Q (.bl false) H))
theorem c_count {K : PySem.W.Frag} {v : V} {H : Hp} {Q : VK} {E : XK}  (q : ((∃ i, v = .int i ∧ Q (.bl (decide (0 ≤ i))) H) ∨ (NotInt K H v ∧ Q (.bl false) H))) : sp_count K [v] H Q E := ⟨_, rfl, q⟩
theorem ok_count {f : Addr} {fd : FuncData} (F : Df K "is_count" "is_count" s_count [] f fd) (cI : Ca P w K mg base 1 "is_integer" (sp_isint K) []) : FnOk P w K mg base CX0 2 f fd ["value"] (sp_count K) := by
  refine dfOk F sc_count (fun vs H Q E h => ?_) (fun cdv A outer s H vs Q E hr h => ?_)
  · obtain ⟨v, rfl, _⟩ := h
    rfl
  · obtain ⟨v, rfl, h⟩ := h
    refine ⟨_, (pss_one (ps_ret (pe_and (pe_ca cI hr (by decide) (by rfl) (pa_cons (pv 0) pa_nil)) (pe_one (pe_cmpR op_ge (pv 0) pe_int (nomark _)))))), ?_⟩
    rcases h with ⟨i, rfl, q⟩ | ⟨n, q⟩
    · exact ⟨_, rfl, tnil (isint_int ⟨_, rfl, iteT ⟨_, rfl, _, _, rfl, rfl, q⟩⟩)⟩
    · exact ⟨_, rfl, tnil (isint_not n ⟨_, rfl, iteF q⟩)⟩
theorem count_int {H : Hp} {i : Int} {Q : VK} (h : 0 ≤ i) (q : Q (.bl true) H) : sp_count K [.int i] H Q E0 := ⟨_, rfl, .inl ⟨i, rfl, by rw [decide_eq_true h]; exact q⟩⟩
/-! is_list -/
def sp_islist (K : PySem.W.Frag) : Sp := fun vs H Q _ => ∃ (v : V) (t : Value) (b c : Bool), vs = [v] ∧ TyX K H v t ∧ PySem.W.kitOne K t (.type "list") = some b ∧ PySem.W.kitOne K t (.type "tuple") = some c ∧ ∀ H', Same H H' → Q (.bl (b || c)) H'
theorem c_islist {K : PySem.W.Frag} {v : V} {t : Value} {b c : Bool} {H : Hp} {Q : VK} {E : XK} (h0 : TyX K H v t) (h1 : PySem.W.kitOne K t (.type "list") = some b) (h2 : PySem.W.kitOne K t (.type "tuple") = some c) (q : ∀ H', Same H H' → Q (.bl (b || c)) H') : sp_islist K [v] H Q E := ⟨_, _, _, _, rfl, h0, h1, h2, q⟩
theorem TyX.same {H H' : Hp} {v : V} {t : Value} (h : TyX K H v t) (s : Same H H') : TyX K H' v t := by
  cases h with
  | base h =>
    cases h with
    | non => exact .base .non
    | bl x => exact .base (.bl x)
    | int x => exact .base (.int x)
    | str x => exact .base (.str x)
    | flt x => exact .base (.flt x)
    | lst e => exact .base (.lst (s _ _ e))
    | frz e => exact .base (.frz (s _ _ e))
    | tup e => exact .base (.tup (s _ _ e))
    | dK e => exact .base (.dK (s _ _ e))
    | dT e => exact .base (.dT (s _ _ e))
    | ins e cl ha hn htk hm => exact .base (.ins (s _ _ e) cl ha hn htk hm)
  | byt b => exact .byt b
  | set e => exact .set (s _ _ e)
  | kList e c => exact .kList e c
  | kTuple e c => exact .kTuple e c
  | kDict e c => exact .kDict e c
  | fTuple e => exact .fTuple (s _ _ e)
  | fDict e => exact .fDict (s _ _ e)
theorem ok_islist {f : Addr} {fd : FuncData} (F : Df K "is_list" "is_list" s_islist [] f fd) (B : Blt mg) : FnOk P w K mg base CX0 1 f fd ["value"] (sp_islist K) := by
  refine dfOk F sc_islist (fun vs H Q E h => ?_) (fun cdv A outer s H vs Q E hr h => ?_)
  · obtain ⟨v, t, b, c, rfl, _⟩ := h
    rfl
  · obtain ⟨v, t, b, c, rfl, ty, h1, h2, q⟩ := h
    refine ⟨_, (pss_one (ps_ret (pe_callB call_isiT (by rfl) B.isinstance bt_isinstance (pa_cons (pv 0) (pa_cons (pe_tup (pa_cons (pe_bltn (v := .ty "list") (by rfl) B.list bt_list rfl) (pa_cons (pe_bltn (v := .ty "tuple") (by rfl) B.tuple bt_tuple rfl) pa_nil))) pa_nil))))), ?_⟩
    refine ⟨_, rfl, by show 2 ≤ sizeLine; decide, fun p hp => ?_⟩
    refine ⟨v, p, _, t, [.type "list", .type "tuple"], b || c, rfl, upd_same, .cons (.ty _) (.cons (.ty _) .nil), TyX.same ty (same_new hp), ?_, q _ (same_new hp)⟩
    cases b with
    | true => exact kitAny_cons h1 (fun z => absurd z (by decide)) (fun _ => rfl)
    | false =>
      refine kitAny_cons h1 (fun _ => ?_) (fun z => absurd z (by decide))
      cases c with
      | true => exact kitAny_cons h2 (fun z => absurd z (by decide)) (fun _ => rfl)
      | false => exact kitAny_cons h2 (fun _ => rfl) (fun z => absurd z (by decide))
theorem islist_seq {H : Hp} {b : Bool} {a : Addr} {xs : List V} {Q : VK} (h : SqK b K H a xs) (q : ∀ H', Same H H' → Q (.bl true) H') : sp_islist K [.ref a] H Q E0 := by
  cases b
  · exact ⟨_, _, false, true, rfl, tyT h, kit_ty (by decide +kernel), kit_ty (by decide +kernel), q⟩
  · exact ⟨_, _, true, false, rfl, tyL h, kit_ty (by decide +kernel), kit_ty (by decide +kernel), q⟩
/-! is_axis, are_parts, is_cut -/
def sp_isaxis : Sp := fun vs H Q _ => ∃ a : Nat, vs = [.str (axn a)] ∧ Q (.bl true) H
theorem ok_isaxis {f : Addr} {fd : FuncData} (F : Df K "is_axis" "is_axis" s_isaxis [] f fd) (B : Blt mg) (G : PlG K mg C AX) : FnOk P w K mg base CX0 1 f fd ["value"] sp_isaxis := by
  refine dfOk F sc_isaxis (fun vs H Q E h => ?_) (fun cdv A outer s H vs Q E hr h => ?_)
  · obtain ⟨v, rfl, _⟩ := h
    rfl
  · obtain ⟨a, rfl, q⟩ := h
    refine ⟨_, (pss_one (ps_ret (pe_and (pe_callB call_isi' (by rfl) B.isinstance bt_isinstance (pa_cons (pv 0) (pa_cons (pe_bltn (v := .ty "str") (by rfl) B.str bt_str rfl) pa_nil))) (pe_one (pe_cmpR op_in_seq (pv 0) (pe_glob (v := .ref AX) (by rfl) G.axes rfl) (by rfl)))))), ?_⟩
    refine ⟨_, rfl, _, _, _, _, true, rfl, .ty _, .base (.str _), kit_ty (by decide +kernel), true, rfl, iteT ?_⟩
    refine ⟨_, rfl, AX, _, rfl, .inr (G.axt H), rfl, rfl, ?_⟩
    have e : inV (.str (axn a)) [.str "east", .str "north"] = true := by
      unfold axn
      split <;> decide +kernel
    show Q (.bl (inV (.str (axn a)) [.str "east", .str "north"])) H
    rw [e]
    exact q
def sp_areparts : Sp := fun vs H Q _ => ∃ i : Int, vs = [.int i] ∧ 2 ≤ i ∧ i ≤ 4 ∧ Q (.bl true) H
theorem ok_areparts {f : Addr} {fd : FuncData} (F : Df K "are_parts" "are_parts" s_areparts [] f fd) (G : PlG K mg C AX) (cI : Ca P w K mg base 1 "is_integer" (sp_isint K) []) : FnOk P w K mg base CX0 2 f fd ["value"] sp_areparts := by
  refine dfOk F sc_areparts (fun vs H Q E h => ?_) (fun cdv A outer s H vs Q E hr h => ?_)
  · obtain ⟨v, rfl, _⟩ := h
    rfl
  · obtain ⟨i, rfl, h1, h2, q⟩ := h
    refine ⟨_, (pss_one (ps_ret (pe_and (pe_ca cI hr (by decide) (by rfl) (pa_cons (pv 0) pa_nil)) (pe_one (pe_chain op_le op_le (pe_globI G.few (by rfl)) (pv 0) (pe_globI G.most (by rfl))))))), ?_⟩
    refine ⟨_, rfl, tnil (isint_int ⟨_, rfl, iteT ⟨_, rfl, _, _, rfl, rfl, _, rfl, ?_⟩⟩)⟩
    rw [decide_eq_true h1]
    refine iteT ⟨_, _, rfl, rfl, ?_⟩
    show Q (.bl (decide (i ≤ 4))) H
    rw [decide_eq_true h2]
    exact q
def sp_iscut (K : PySem.W.Frag) : Sp := fun vs H Q _ => ∃ (v : V) (c : Pm.Cut), vs = [v] ∧ Dp K H v (pCut c) ∧ Pm.CutOk c ∧ Q (.bl true) H
theorem c_iscut {K : PySem.W.Frag} {v : V} {c : Pm.Cut} {H : Hp} {Q : VK} {E : XK} (h0 : Dp K H v (pCut c)) (h1 : Pm.CutOk c) (q : Q (.bl true) H) : sp_iscut K [v] H Q E := ⟨_, _, rfl, h0, h1, q⟩
theorem cut_at {H : Hp} {v : V} {c : Pm.Cut} (h : Dp K H v (pCut c)) : ∃ a, v = .ref a ∧ SqT K H a [.str (axn c.1), .int c.2] := by
  obtain ⟨a, xs, rfl, hs, ha⟩ := h.tupE
  cases ha with
  | cons h1 h2 =>
    cases h2 with
    | cons h2 h3 =>
      cases h3
      rw [h1.strE, h2.intE] at hs
      exact ⟨a, rfl, hs⟩
theorem ok_iscut {f : Addr} {fd : FuncData} (F : Df K "is_cut" "is_cut" s_iscut [] f fd) (B : Blt mg) (cA : Ca P w K mg base 1 "is_axis" sp_isaxis []) (cP : Ca P w K mg base 2 "are_parts" sp_areparts []) : FnOk P w K mg base CX0 3 f fd ["value"] (sp_iscut K) := by
  refine dfOk F sc_iscut (fun vs H Q E h => ?_) (fun cdv A outer s H vs Q E hr h => ?_)
  · obtain ⟨v, c, rfl, _⟩ := h
    rfl
  · obtain ⟨v, c, rfl, hd, hc, q⟩ := h
    obtain ⟨a, rfl, hs⟩ := cut_at hd
    have h1 := hc.2.1
    have h2 := hc.2.2
    refine ⟨_, (pss_one (ps_ret (pe_and (pe_callB call_isi' (by rfl) B.isinstance bt_isinstance (pa_cons (pv 0) (pa_cons (pe_bltn (v := .ty "tuple") (by rfl) B.tuple bt_tuple rfl) pa_nil))) (pe_and (pe_cmpR op_eq (pe_callB call_len_seq' (by rfl) B.len bt_len (pa_cons (pv 0) pa_nil)) pe_int (nomark _)) (pe_and (pe_ca cA hr (by decide) (by rfl) (pa_cons (pe_ix ix_tup' (pv 0) pe_int (fun _ _ => rfl)) pa_nil)) (pe_one (pe_ca cP hr (by decide) (by rfl) (pa_cons (pe_ix ix_tup' (pv 0) pe_int (fun _ _ => rfl)) pa_nil)))))))), ?_⟩
    refine ⟨_, rfl, _, _, _, _, true, rfl, .ty _, tyT hs, kit_ty (by decide +kernel), true, rfl, iteT ?_⟩
    refine ⟨_, rfl, a, _, rfl, .inr hs, rfl, _, rfl, iteT ?_⟩
    refine ⟨_, rfl, a, _, _, _, rfl, rfl, hs, rfl, c.1, rfl, _, rfl, iteT ?_⟩
    exact ⟨_, rfl, a, _, _, _, rfl, rfl, hs, rfl, _, rfl, by omega, by omega, q⟩
/-! is_round -/
def sp_isround (K : PySem.W.Frag) : Sp := fun vs H Q _ => ∃ (v : V) (b : Bool) (r : List Pm.Cut), vs = [v] ∧ Dp K H v (dSeq b (r.map pCut)) ∧ Pm.RndOk r ∧ ∀ H', Same H H' → Q (.bl true) H'
theorem c_isround {K : PySem.W.Frag} {v : V} {b : Bool} {r : List Pm.Cut} {H : Hp} {Q : VK} {E : XK} (h0 : Dp K H v (dSeq b (r.map pCut))) (h1 : Pm.RndOk r) (q : ∀ H', Same H H' → Q (.bl true) H') : sp_isround K [v] H Q E := ⟨_, _, _, rfl, h0, h1, q⟩
theorem ok_isround {f : Addr} {fd : FuncData} (F : Df K "is_round" "is_round" s_isround [] f fd) (B : Blt mg) (G : PlG K mg C AX) (cL : Ca P w K mg base 1 "is_list" (sp_islist K) []) (cC : Ca P w K mg base 3 "is_cut" (sp_iscut K) []) : FnOk P w K mg base CX0 4 f fd ["value"] (sp_isround K) := by
  refine dfOk F sc_isround (fun vs H Q E h => ?_) (fun cdv A outer s H vs Q E hr h => ?_)
  · obtain ⟨v, b, r, rfl, _⟩ := h
    rfl
  · obtain ⟨v, b, r, rfl, hd, hok, q⟩ := h
    obtain ⟨a, xs, rfl, hs, ha⟩ := hd.seqE
    have hlen : xs.length = r.length := by rw [ha.len, List.length_map]
    have l1 := hok.1
    have l2 := hok.2.1
    refine ⟨_, (pss_one (ps_ret (pe_and (pe_ca cL hr (by decide) (by rfl) (pa_cons (pv 0) pa_nil)) (pe_and (pe_chain op_le op_le pe_int (pe_callB call_len_seq' (by rfl) B.len bt_len (pa_cons (pv 0) pa_nil)) (pe_ccon G.mc (by rfl) G.mgC)) (pe_one (pe_callB (cr_all rfl) (by rfl) B.all bt_all (pa_cons (pe_lc (own := [("cut", 1)]) (by rfl) sc_isround.nd (pi_seq (pv 0)) (blkOk_by (own := [("cut", 1)]) (N := ["value", "cut"]) (sc := defScope s_isround) (by decide +kernel)) (fun _ _ _ _ _ => (pg_name (i := 1) sc_isround.nd rfl (Or.inl rfl))) (fun _ _ _ _ _ => pts_nil) (fun _ _ _ _ _ => (pe_ca cC hr (by decide) (by rfl) (pa_cons (pv 1) pa_nil)))) pa_nil))))))), ?_⟩
    refine ⟨_, rfl, tnil (islist_seq hs fun H1 s1 => ⟨_, rfl, iteT ?_⟩)⟩
    have hs1 := Same.sqk s1 hs
    refine ⟨_, rfl, a, _, rfl, sqK_or hs1, _, _, rfl, rfl, _, rfl, ?_⟩
    rw [decide_eq_true (show (1 : Int) ≤ (xs.length : Nat) by omega)]
    refine iteT ⟨_, _, rfl, rfl, _, rfl, ?_⟩
    rw [decide_eq_true (show ((xs.length : Nat) : Int) ≤ 5 by omega)]
    refine iteT ?_
    refine ⟨_, rfl, b, a, xs, rfl, hs1, fun D hD => lc_nl (K := K) walk_K (List.replicate xs.length (.bool true)) (by simp) (by omega) (NLs.of fun d hd => by rw [List.eq_of_mem_replicate hd]; rfl) hD (fun H' s' => Same.sqk s' hs1) ?_ ?_ gName_mono⟩
    · rintro i e x H2 _ Q2 hi he s2 ⟨rfl, hx⟩ hq
      refine ⟨rfl, ?_⟩
      obtain ⟨d, hd1, hd2⟩ := ha.get hx
      rw [List.getElem?_map] at hd1
      obtain ⟨c, hc1, rfl⟩ := Option.map_eq_some_iff.mp hd1
      have hcm : c ∈ r := List.mem_of_getElem? hc1
      obtain rfl : e = .bool true := by
        have := List.mem_of_getElem? he
        exact List.eq_of_mem_replicate this
      exact ⟨_, rfl, x, c, rfl, (hd2.up s1).up s2, hok.2.2.1 c hcm, hq _ _ (Same.refl _) (.bl true)⟩
    · rintro H2 ys s2 eD hall
      have hys : ys = (List.replicate xs.length true).map V.bl := DpAll.boolsE (by rw [List.map_replicate]; exact hall)
      refine ⟨D, List.replicate xs.length true, rfl, SqL.of (by rw [eD, hys]), ?_⟩
      have e : (List.replicate xs.length true).all id = true := by simp
      rw [e]
      exact q _ (s1.trans s2)
/-! parts_along -/
def sp_along1 (K : PySem.W.Frag) : Sp := fun vs H Q _ => ∃ (v : V) (b : Bool) (r : List Pm.Cut) (ax : Nat), vs = [v, .str (axn ax)] ∧ ax < 2 ∧ Dp K H v (dSeq b (r.map pCut)) ∧ Pm.RndOk r ∧ Q (.int (Pm.wid r ax)) H
theorem c_along1 {K : PySem.W.Frag} {v : V} {b : Bool} {r : List Pm.Cut} {ax : Nat} {H : Hp} {Q : VK} {E : XK} (h0 : ax < 2) (h1 : Dp K H v (dSeq b (r.map pCut))) (h2 : Pm.RndOk r) (q : Q (.int (Pm.wid r ax)) H) : sp_along1 K [v, .str (axn ax)] H Q E := ⟨_, _, _, _, rfl, h0, h1, h2, q⟩
theorem wid_take {r : List Pm.Cut} {i : Nat} {c : Pm.Cut} (h : r[i]? = some c) (ax : Nat) : Pm.wid (r.take (i + 1)) ax = Pm.wid (r.take i) ax * (if c.1 = ax then c.2 else 1) := by
  rw [List.take_add_one, h]
  simp only [Option.toList]
  rw [Pm.wid_app]
  simp [Pm.wid]
theorem wid_le {r : List Pm.Cut} (h : Pm.RndOk r) (i ax : Nat) (hax : ax < 2) : Pm.wid (r.take i) ax ≤ 32 := by
  have hc := h.2.2.1
  have e := Pm.wid_app (r.take i) (r.drop i) ax
  rw [List.take_append_drop] at e
  have p := Pm.wid_pos (r := r.drop i) (fun c hc' => hc c (List.mem_of_mem_drop hc')) ax
  have l1 : Pm.wid (r.take i) ax ≤ Pm.wid r ax := by rw [e]; exact Nat.le_mul_of_pos_right _ p
  have es := Pm.size_wid hc
  have s := h.2.2.2
  have p0 := Pm.wid_pos hc 0
  have p1 := Pm.wid_pos hc 1
  have h01 : ax = 0 ∨ ax = 1 := by omega
  rcases h01 with rfl | rfl
  · have := Nat.le_mul_of_pos_right (Pm.wid r 0) p1; omega
  · have := Nat.le_mul_of_pos_left (Pm.wid r 1) p0; omega
theorem ok_along1 {f : Addr} {fd : FuncData} (F : Df K "parts_along" "parts_along" s_along1 [] f fd) : FnOk P w K mg base CX0 1 f fd ["cuts", "axis"] (sp_along1 K) := by
  refine dfOk F sc_along1 (fun vs H Q E h => ?_) (fun cdv A outer s H vs Q E hr h => ?_)
  · obtain ⟨v, b, r, ax, rfl, _⟩ := h
    rfl
  · obtain ⟨v, b, r, ax, rfl, hax, hd, hok, q⟩ := h
    obtain ⟨a, xs, rfl, hs, ha⟩ := hd.seqE
    have hlen : xs.length = r.length := by rw [ha.len, List.length_map]
    refine ⟨_, (pss_cons (ps_set (i := 2) sc_along1.nd rfl (Or.inl rfl) pe_int)
  (pss_cons (ps_for PassesOwn.never rfl (pi_seq (pv 0)) (pg_tup' 2 (pgs_cons (pg_name (i := 3) sc_along1.nd rfl (Or.inl rfl)) (pgs_cons (pg_name (i := 4) sc_along1.nd rfl (Or.inl rfl)) pgs_nil)))
  (pss_one (ps_if (pt_cmpR op_eq (pv 3) (pv 1) (nomark _))
  (pss_one (ps_set (i := 2) sc_along1.nd rfl (Or.inl rfl) (pe_op op_mul (pv 2) (pv 4))))
  pss_nil)))
  (pss_one (ps_ret (pv 2))))), ?_⟩
    refine ⟨_, rfl, b, a, xs, rfl, hs, for_it walk_K (fun i σ H' => H' = H ∧ ∃ v1 v2, σ = [some (.ref a), some (.str (axn ax)), some (.int (Pm.wid (r.take i) ax)), v1, v2]) ⟨rfl, _, _, rfl⟩ (fun i σ H' _ h => by rw [h.1]; exact hs) ?_ ?_⟩
    · rintro i x σ H' H'' hi ⟨rfl, v1, v2, rfl⟩ ⟨rfl, hx⟩
      obtain ⟨d, hd1, hd2⟩ := ha.get hx
      rw [List.getElem?_map] at hd1
      obtain ⟨c, hc1, rfl⟩ := Option.map_eq_some_iff.mp hd1
      have hcm : c ∈ r := List.mem_of_getElem? hc1
      have hc := hok.2.2.1 c hcm
      obtain ⟨t, rfl, ht⟩ := cut_at hd2
      have hw := wid_take hc1 ax
      have hb := wid_le hok i ax hax
      refine ⟨t, _, rfl, ht, rfl, _, _, rfl, _, _, rfl, rfl, ?_⟩
      refine ⟨_, rfl, _, rfl, rfl, _, rfl, ?_⟩
      rw [axn_eq hc.1 hax]
      refine ite2 (fun h => ?_) (fun h => ?_)
      · have h' := of_decide_eq_true h
        refine ⟨_, rfl, _, rfl, _, _, rfl, rfl, .inl ⟨by omega, by omega⟩, rfl, some (.str (axn c.1)), some (.int c.2), ?_⟩
        rw [hw, if_pos h', Int.natCast_mul]
        rfl
      · have h' : ¬ c.1 = ax := fun z => h (decide_eq_true z)
        refine ⟨rfl, some (.str (axn c.1)), some (.int c.2), ?_⟩
        rw [hw, if_neg h', Nat.mul_one]
        rfl
    · rintro σ H' ⟨rfl, v1, v2, rfl⟩
      refine ⟨_, rfl, ?_⟩
      rw [hlen, List.take_length]
      exact q
end
end T
set_option Elab.async false
set_option maxRecDepth 100000
set_option maxHeartbeats 4000000
namespace T
open PySem L2 Mv
abbrev s_prod : Stmt := inClass (top 44) 6
theorem sc_prod : FnScope ["self", "many", "columns", "rows", "position", "parts"] ["self", "many"] (defScope s_prod) := ⟨rfl, rfl, rfl, by decide +kernel, rfl, by decide +kernel, by decide +kernel⟩
abbrev s_init : Stmt := inClass (top 44) 3
theorem sc_init : FnScope ["self", "rounds", "cuts", "columns", "rows"] ["self", "rounds"] (defScope s_init) := ⟨rfl, rfl, rfl, by decide +kernel, rfl, by decide +kernel, by decide +kernel⟩
section
variable {P : Program} {w : World} {K : PySem.W.Frag} {mg : Str → Option Value} {base : Heap} {C AX : Addr}
/-- rounds as they are passed, each a list or a tuple -/
def pPass (brs : List (Bool × List Pm.Cut)) : List PyData := brs.map fun x => dSeq x.1 (x.2.map pCut)
def sp_wantrounds (K : PySem.W.Frag) : Sp := fun vs H Q _ => ∃ (v : V) (brs : List (Bool × List Pm.Cut)), vs = [v] ∧ Dp K H v (.tuple (pPass brs)) ∧ Pm.RdsOk (brs.map Prod.snd) ∧ ∀ H', Same H H' → Q .non H'
theorem c_wantrounds {K : PySem.W.Frag} {v : V} {brs : List (Bool × List Pm.Cut)} {H : Hp} {Q : VK} {E : XK} (h0 : Dp K H v (.tuple (pPass brs))) (h1 : Pm.RdsOk (brs.map Prod.snd)) (q : ∀ H', Same H H' → Q .non H') : sp_wantrounds K [v] H Q E := ⟨_, _, rfl, h0, h1, q⟩
theorem ok_wantrounds {f : Addr} {fd : FuncData} (F : Df K "want_rounds" "want_rounds" s_wantrounds [] f fd) (B : Blt mg) (G : PlG K mg C AX) (cR : Ca P w K mg base 4 "is_round" (sp_isround K) []) (c1 : Ca P w K mg base 1 "parts_along" (sp_along1 K) []) : FnOk P w K mg base CX0 5 f fd ["rounds"] (sp_wantrounds K) := by
  refine dfOk F sc_wantrounds (fun vs H Q E h => ?_) (fun cdv A outer s H vs Q E hr h => ?_)
  · obtain ⟨v, brs, rfl, _⟩ := h
    rfl
  · obtain ⟨v, brs, rfl, hd, hok, q⟩ := h
    obtain ⟨a, xs, rfl, hs, ha⟩ := hd.tupE
    have hlen : xs.length = brs.length := by rw [ha.len]; simp [pPass]
    have l1 : 1 ≤ brs.length := by have := hok.1; simpa using this
    have l2 : brs.length ≤ 3 := by have := hok.2.1; simpa using this
    have item : ∀ {i : Nat} {x : V}, xs[i]? = some x → ∃ b r, Dp K H x (dSeq b (r.map pCut)) ∧ Pm.RndOk r := by
      intro i x hx
      obtain ⟨d, hd1, hd2⟩ := ha.get hx
      unfold pPass at hd1
      rw [List.getElem?_map] at hd1
      obtain ⟨c, hc1, rfl⟩ := Option.map_eq_some_iff.mp hd1
      exact ⟨c.1, c.2, hd2, hok.2.2.1 _ (List.mem_map.mpr ⟨c, List.mem_of_getElem? hc1, rfl⟩)⟩
    refine ⟨_, (pss_cons (ps_if (pt_cmpR op_eq (pe_callB call_len_seq' (by rfl) B.len bt_len (pa_cons (pv 0) pa_nil)) pe_int (nomark _))
  pss_never
  pss_nil)
  (pss_cons (ps_for PassesOwn.never rfl (pi_enumA (by rfl) B.enumerate (pa_cons (pv 0) pa_nil)) (pg_tup' 2 (pgs_cons (pg_name (i := 1) sc_wantrounds.nd rfl (Or.inl rfl)) (pgs_cons (pg_name (i := 2) sc_wantrounds.nd rfl (Or.inl rfl)) pgs_nil)))
  (pss_one (ps_if (pt_not (pt_val (pe_ca cR hr (by decide) (by rfl) (pa_cons (pv 2) pa_nil))))
  pss_never
  pss_nil)))
  (pss_cons (ps_if (pt_cmpR op_gt (pe_callB call_len_seq' (by rfl) B.len bt_len (pa_cons (pv 0) pa_nil)) (pe_ccon G.mr (by rfl) G.mgC) (nomark _))
  pss_never
  pss_nil)
  (pss_one (ps_if (pt_val (pe_callB (cr_any rfl) (by rfl) B.any bt_any (pa_cons (pe_lc (own := [("cuts", 2)]) (by rfl) sc_wantrounds.nd (pi_seq (pv 0)) (blkOk_by (own := [("cuts", 2)]) (N := ["rounds", "position", "cuts"]) (sc := defScope s_wantrounds) (by decide +kernel)) (fun _ _ _ _ _ => (pg_name (i := 2) sc_wantrounds.nd rfl (Or.inl rfl))) (fun _ _ _ _ _ => pts_nil) (fun _ _ _ _ _ => (pe_cmpR op_gt (pe_op op_mul (pe_ca c1 hr (by decide) (by rfl) (pa_cons (pv 2) (pa_cons (pe_globS G.east (by rfl)) pa_nil))) (pe_ca c1 hr (by decide) (by rfl) (pa_cons (pv 2) (pa_cons (pe_globS G.north (by rfl)) pa_nil)))) (pe_ccon G.ms (by rfl) G.mgC) (nomark _)))) pa_nil)))
  pss_never
  pss_nil))))), ?_⟩
    refine ⟨_, rfl, a, _, rfl, .inr hs, rfl, _, rfl, ?_⟩
    rw [decide_eq_false (fun z => by have := V.int.inj z; omega)]
    refine iteF ?_
    refine ⟨_, rfl, false, a, xs, rfl, hs, for_it walk_enumK (fun i σ H' => Same H H' ∧ ∃ v1 v2, σ = [some (.ref a), v1, v2]) ⟨Same.refl H, _, _, rfl⟩ (fun i σ H' _ h => Same.tup h.1 hs) ?_ ?_⟩
    · rintro i x σ H1 H2 hi ⟨s1, v1, v2, rfl⟩ ⟨T, y, z, rfl, hT, rfl, hy, hz⟩
      obtain rfl := Option.some.inj hy
      obtain ⟨b, r, hdz, hrz⟩ := item hz
      have sT := fun o => same_new (o := o) hT
      refine ⟨T, _, rfl, SqT.of upd_same, rfl, _, _, rfl, _, _, rfl, rfl, ?_⟩
      refine ⟨_, rfl, z, b, r, rfl, (hdz.up s1).up (sT _), hrz, fun H3 s3 => ⟨_, rfl, ?_⟩⟩
      exact iteF ⟨s1.trans ((sT _).trans s3), _, _, rfl⟩
    · rintro σ H1 ⟨s1, v1, v2, rfl⟩
      have hs1 := Same.tup s1 hs
      refine ⟨_, rfl, a, _, rfl, .inr hs1, _, _, rfl, rfl, _, rfl, ?_⟩
      rw [decide_eq_false (show ¬ ((3 : Int) < (xs.length : Nat)) by omega)]
      refine iteF ?_
      refine ⟨_, rfl, false, a, xs, rfl, hs1, fun D hD => lc_nl (K := K) walk_K (List.replicate xs.length (.bool false)) (by simp) (by omega) (NLs.of fun d hd => by rw [List.eq_of_mem_replicate hd]; rfl) hD (fun H' s' => Same.sqk (b := false) s' hs1) ?_ ?_ gName_mono⟩
      · rintro i e x H2 _ Q2 hi he s2 ⟨rfl, hx⟩ hq
        refine ⟨rfl, ?_⟩
        obtain ⟨b, r, hdz, hrz⟩ := item hx
        obtain rfl : e = .bool false := List.eq_of_mem_replicate (List.mem_of_getElem? he)
        have w0 := wid_le hrz r.length 0 (by decide)
        have w1 := wid_le hrz r.length 1 (by decide)
        rw [List.take_length] at w0 w1
        refine ⟨_, rfl, x, b, r, 0, rfl, by decide, (hdz.up s1).up s2, hrz, _, rfl, x, b, r, 1, rfl, by decide, (hdz.up s1).up s2, hrz, _, _, rfl, rfl, .inl ⟨by omega, by omega⟩, _, _, rfl, rfl, ?_⟩
        have e : ¬ ((32 : Int) < (Pm.wid r 0 : Int) * (Pm.wid r 1 : Int)) := by
          have := Pm.size_wid hrz.2.2.1
          have := hrz.2.2.2
          rw [← Int.natCast_mul]
          omega
        show Q2 (.bl (decide ((32 : Int) < (Pm.wid r 0 : Int) * (Pm.wid r 1 : Int)))) _
        rw [decide_eq_false e]
        exact hq _ _ (Same.refl _) (.bl false)
      · rintro H2 ys s2 eD hall
        have hys : ys = (List.replicate xs.length false).map V.bl := DpAll.boolsE (by rw [List.map_replicate]; exact hall)
        refine ⟨D, List.replicate xs.length false, rfl, SqL.of (by rw [eD, hys]), _, rfl, ?_⟩
        have e : (List.replicate xs.length false).any id = false := by simp
        rw [e]
        exact iteF (q _ (s1.trans s2))
/-! along, place_in -/
def pRnd (r : List Pm.Cut) : PyData := .list (r.map pCut)
/-! Plan.product_of -/
def pParts (rs : List (List Pm.Cut)) : PyData := .list (rs.map fun r => .tuple [.int (Pm.wid r 0), .int (Pm.wid r 1)])
def pRds (rs : List (List Pm.Cut)) : PyData := .list (rs.map pRnd)
theorem pair_at {H : Hp} {v : V} {i j : Int} (h : Dp K H v (.tuple [.int i, .int j])) : ∃ a, v = .ref a ∧ SqT K H a [.int i, .int j] := Dp.tupIE (is := [i, j]) h
def sp_prod (K : PySem.W.Frag) (C : Addr) : Sp := fun vs H Q _ => ∃ (a dx : Addr) (fs : List (Str × V)) (Pt : V) (rs : List (List Pm.Cut)) (m : Nat), vs = [.ref a, .int m] ∧ m < 1000000 ∧ H a = some (.ins C dx fs) ∧ fs.lookup ("own_parts" : Str) = some Pt ∧ Dp K H Pt (pParts rs) ∧ Pm.RdsOk rs ∧
  ∀ t H', Same H H' → H' t = some (.tup [.int (Pm.cnt rs 0 m), .int (Pm.cnt rs 1 m)]) → Q (.ref t) H'
theorem c_prod {K : PySem.W.Frag} {C : Addr} {a dx : Addr} {fs : List (Str × V)} {Pt : V} {rs : List (List Pm.Cut)} {m : Nat} {H : Hp} {Q : VK} {E : XK} (h0 : m < 1000000) (h1 : H a = some (.ins C dx fs)) (h2 : fs.lookup ("own_parts" : Str) = some Pt) (h3 : Dp K H Pt (pParts rs)) (h4 : Pm.RdsOk rs) (q : ∀ t H', Same H H' → H' t = some (.tup [.int (Pm.cnt rs 0 m), .int (Pm.cnt rs 1 m)]) → Q (.ref t) H') : sp_prod K C [.ref a, .int m] H Q E := ⟨_, _, _, _, _, _, rfl, h0, h1, h2, h3, h4, q⟩
theorem ok_prod {f : Addr} {fd : FuncData} (F : Df K "product_of" "Plan.product_of" s_prod [] f fd) (B : Blt mg) (G : PlG K mg C AX) : FnOk P w K mg base CX0 1 f fd ["self", "many"] (sp_prod K C) := by
  refine dfOk F sc_prod (fun vs H Q E h => ?_) (fun cdv A outer s H vs Q E hr h => ?_)
  · obtain ⟨a, dx, fs, Pt, rs, m, rfl, _⟩ := h
    rfl
  · obtain ⟨a, dx, fs, Pt, rs, m, rfl, hm, ea, hl, hd, hok, q⟩ := h
    obtain ⟨b, xs, rfl, hs, ha⟩ := hd.lstE
    have hlen : xs.length = rs.length := by rw [ha.len, List.length_map]
    have l1 := hok.1
    refine ⟨_, (pss_cons (ps_asg (pe_tup (pa_cons pe_int (pa_cons pe_int pa_nil))) (pg_tup' 2 (pgs_cons (pg_name (i := 2) sc_prod.nd rfl (Or.inl rfl)) (pgs_cons (pg_name (i := 3) sc_prod.nd rfl (Or.inl rfl)) pgs_nil))))
  (pss_cons (ps_for PassesOwn.never rfl (pi_range1 (by rfl) B.range (pa_cons (pv 1) pa_nil)) (pg_name (i := 4) sc_prod.nd rfl (Or.inl rfl))
  (pss_cons (ps_set (i := 5) sc_prod.nd rfl (Or.inl rfl) (pe_ix ix_list' (pe_fld (pv 0) rfl) (pe_op op_mod (pv 4) (pe_callB call_len_seq' (by rfl) B.len bt_len (pa_cons (pe_fld (pv 0) rfl) pa_nil))) (fun _ _ => rfl)))
  (pss_one (ps_par (i := 2) (j := 3) (by rfl) sc_prod.nd rfl rfl (by decide) rfl rfl (pa_cons (pe_op op_mul (pv 2) (pe_ix ix_tup' (pv 5) pe_int (fun _ _ => rfl))) (pa_cons (pe_op op_mul (pv 3) (pe_ix ix_tup' (pv 5) pe_int (fun _ _ => rfl))) pa_nil)) (by rfl)))))
  (pss_one (ps_ret (pe_tup (pa_cons (pv 2) (pa_cons (pv 3) pa_nil))))))), ?_⟩
    refine ⟨by show 2 ≤ sizeLine; decide, fun l0 hl0 => ⟨l0, _, rfl, SqT.of upd_same, rfl, _, _, rfl, _, _, rfl, rfl, ?_⟩⟩
    have s0 := same_new (o := .tup [.int 1, .int 1]) hl0
    have ea := s0 _ _ ea
    have hs := s0.seq hs
    have ha := ha.up s0
    have q := fun t H' (s : Same _ H') => q t H' (s0.trans s)
    generalize upd H l0 (.tup [.int 1, .int 1]) = H at *
    refine ⟨_, rfl, m, rfl, by omega, by omega, for_range (lo := 0) (n := m) (fun i σ H' => H' = H ∧ ∃ v1 v2, σ = [some (.ref a), some (.int m), some (.int (Pm.cnt rs 0 i)), some (.int (Pm.cnt rs 1 i)), v1, v2]) ⟨rfl, _, _, rfl⟩ ?_ ?_⟩
    · rintro i σ H' hi ⟨rfl, v1, v2, rfl⟩
      rw [show (0 : Int) + (i : Int) = (i : Int) by omega]
      obtain ⟨x, hx, hdx⟩ := ha.got (i := i % rs.length) (by rw [List.getElem?_map, Pm.rnd_get l1 i]; rfl)
      obtain ⟨t, rfl, ht⟩ := pair_at hdx
      have w := hok.W32 i
      refine ⟨_, rfl, a, C, dx, fs, _, rfl, ea, G.I.cl, G.nP, hl, _, rfl, _, rfl, a, C, dx, fs, _, rfl, ea, G.I.cl, G.nP, hl, b, _, rfl, .inl hs, _, _, rfl, rfl, by show (0 : Int) < (xs.length : Nat); omega, ?_⟩
      refine ⟨b, xs, _, .ref t, rfl, rfl, hs, ?_, ?_⟩
      · show atI xs ((i : Int) % ((xs.length : Nat) : Int)) = _
        rw [hlen, ← Int.natCast_emod]
        exact atI_nat hx
      refine ⟨_, rfl, _, rfl, t, _, _, _, rfl, rfl, ht, rfl, _, _, rfl, rfl, .inr ⟨?_, ?_⟩, ?_⟩
      · have : (0 : Int) ≤ (Pm.wid (Pm.rnd rs i) 0 : Nat) := by omega
        omega
      · have : (Pm.wid (Pm.rnd rs i) 0 : Nat) ≤ 32 := w.1
        omega
      refine ⟨_, rfl, _, rfl, t, _, _, _, rfl, rfl, ht, rfl, _, _, rfl, rfl, .inr ⟨?_, ?_⟩, ?_⟩
      · have : (0 : Int) ≤ (Pm.wid (Pm.rnd rs i) 1 : Nat) := by omega
        omega
      · have : (Pm.wid (Pm.rnd rs i) 1 : Nat) ≤ 32 := w.2
        omega
      refine ⟨_, _, rfl, rfl, some (.int i), some (.ref t), ?_⟩
      simp only [Pm.cnt, Pm.W, Int.natCast_mul]
      rfl
    · rintro σ H' ⟨rfl, v1, v2, rfl⟩
      refine ⟨_, rfl, _, rfl, by show 2 ≤ sizeLine; decide, fun t ht => ?_⟩
      exact q t _ (same_new ht) upd_same
end
end T
set_option Elab.async false
set_option maxRecDepth 100000
set_option maxHeartbeats 4000000
namespace L2
open PySem PySem.Spec PyProof.Rows Mv
section
variable {K : PySem.W.Frag}
/-- lists of data without lists, none of them at D -/
inductive LAll (K : PySem.W.Frag) (H : Hp) (D : Addr) : List V → List (List PyData) → Prop
  | nil : LAll K H D [] []
  | cons {q : Addr} {zs ys : List V} {e : List PyData} {es : List (List PyData)} (n : q ≠ D) (h : H q = some (.lst zs)) (ha : DpAll K H zs e) (r : LAll K H D ys es) : LAll K H D (.ref q :: ys) (e :: es)
theorem LAll.app {H : Hp} {D : Addr} : ∀ {xs ys : List V} {es fs : List (List PyData)}, LAll K H D xs es → LAll K H D ys fs → LAll K H D (xs ++ ys) (es ++ fs)
  | _, _, _, _, .nil, h => h
  | _, _, _, _, .cons n h ha r, g => .cons n h ha (LAll.app r g)
theorem LAll.len {H : Hp} {D : Addr} : ∀ {xs : List V} {es : List (List PyData)}, LAll K H D xs es → xs.length = es.length
  | _, _, .nil => rfl
  | _, _, .cons _ _ _ r => by rw [List.length_cons, List.length_cons, LAll.len r]
theorem LAll.bu {H H' : Hp} {D : Addr} {ws : List V} (b : Bu D H H') (hD : H D = some (.lst ws)) : ∀ {xs : List V} {es : List (List PyData)}, (∀ e ∈ es, NLs e = true) → LAll K H D xs es → LAll K H' D xs es
  | _, _, _, .nil => .nil
  | _, _, nl, .cons n h ha r => .cons n (b _ _ n h) (ha.bu (nl _ (List.mem_cons_self ..)) b hD) (LAll.bu b hD (fun e he => nl e (List.mem_cons_of_mem _ he)) r)
theorem LAll.dp {H : Hp} {D : Addr} : ∀ {xs : List V} {es : List (List PyData)}, LAll K H D xs es → DpAll K H xs (es.map PyData.list)
  | _, _, .nil => .nil
  | _, _, .cons _ h ha r => .cons (.lst (SqL.of h) ha) (LAll.dp r)
/-- a comprehension whose items are new lists of data without lists -/
theorem lc_ll {J : It} {n : Nat} {G : Hp → Prop} {Y : Nat → Hp → V → Hp → Prop} (w : Walk J n G Y) {g : TG} {te : TE} {vs : List Nat} {σ : L2.St} {H1 : Hp} {D : Addr} {Qd : Hp → Prop} (es : List (List PyData)) (hn : es.length = n) (hz : n ≤ 100000) (hl : ∀ e ∈ es, NLs e = true) (hD : H1 D = none)
    (hG : ∀ H, Same H1 H → G H)
    (hs : ∀ (i : Nat) (e : List PyData) (x : V) (H H' : Hp) (Q : VK), i < n → es[i]? = some e → Same H1 H → Y i H x H' → (∀ q zs H4, Same H H4 → H q = none → H4 q = some (.lst zs) → DpAll K H4 zs e → Q (.ref q) H4) →
      g x (wipe σ vs) H' fun σ2 H2 => wipe σ2 vs = wipe σ vs ∧ te σ2 H2 Q)
    (hd : ∀ H ys, Same H1 H → H D = some (.lst ys) → DpAll K H ys (es.map PyData.list) → Qd H) (hg : ∀ x σ' H' (P Q : L2.St → Hp → Prop), (∀ σ2 H2, P σ2 H2 → Q σ2 H2) → g x σ' H' P → g x σ' H' Q) :
    ∃ W : Nat → Nat → Hp → Prop, (∃ m, W 0 m (upd H1 D (.lst []))) ∧ ∀ i m H, W i m H →
      (J.stop i H ∧ Qd H) ∨ (J.go i H ∧ ∃ Nx : Hp → Prop, (∀ H', Nx H' → ∃ m', m' < m ∧ W (i + 1) m' H') ∧ ∀ x H', J.yld i H x H' → g x (wipe σ vs) H' fun σ2 H2 => wipe σ2 vs = wipe σ vs ∧ tYes σ2 H2 fun b H3 =>
        if b = true then te σ2 H3 fun y H4 => ∃ acc, H4 D = some (.lst acc) ∧ acc.length < sizeLine ∧ Nx (upd H4 D (.lst (acc ++ [y]))) else Nx H3) := by
  refine lc_it w (fun i H => Same H1 H ∧ ∃ ys, H D = some (.lst ys) ∧ LAll K H D ys (es.take i)) ⟨same_new hD, [], upd_same, by simp; exact .nil⟩ (fun i H _ h => hG H h.1) ?_ ?_
  · rintro i x H H' hi ⟨s, ys, ed, ha⟩ hy
    have he : es[i]? = some es[i] := List.getElem?_eq_getElem (by omega)
    refine hg x _ H' _ _ (fun σ2 H2 h => ⟨h.1, h.2⟩) (hs i es[i] x H H' (fun y H4 => ∃ acc, H4 D = some (.lst acc) ∧ acc.length < sizeLine ∧ Same H1 (upd H4 D (.lst (acc ++ [y]))) ∧ ∃ ys, upd H4 D (.lst (acc ++ [y])) D = some (.lst ys) ∧ LAll K (upd H4 D (.lst (acc ++ [y]))) D ys (es.take (i + 1))) hi he s hy fun q zs H4 s4 hq eq dz => ?_)
    have e4 := s4 _ _ ed
    have hlen := ha.len
    have hqD : q ≠ D := fun z => by rw [z, ed] at hq; cases hq
    refine ⟨ys, e4, ?_, same_over (s.trans s4) hD, ys ++ [.ref q], upd_same, ?_⟩
    · rw [hlen, List.length_take]; unfold sizeLine; omega
    · rw [List.take_add_one, he]
      have b1 : Bu D H (upd H4 D (.lst (ys ++ [.ref q]))) := (Bu.of s4 D).trans Bu.set
      have b2 : Bu D H4 (upd H4 D (.lst (ys ++ [.ref q]))) := Bu.set
      exact (ha.bu b1 ed (fun e he => hl e (List.mem_of_mem_take he))).app (.cons hqD (b2 _ _ hqD eq) (dz.bu (hl _ (List.getElem_mem _)) b2 e4) .nil)
  · rintro H ⟨s, ys, ed, ha⟩
    refine hd H ys s ed ?_
    rw [← hn, List.take_length] at ha
    exact ha.dp
theorem NLs.map {α : Type} (f : α → PyData) (h : ∀ x, NL (f x) = true) (xs : List α) : NLs (xs.map f) = true := NLs.of fun d hd => by
  obtain ⟨x, _, rfl⟩ := List.mem_map.mp hd
  exact h x
theorem NL.pCut (c : Pm.Cut) : NL (Mv.pCut c) = true := rfl
theorem NL.lCut (c : Pm.Cut) : NL (Mv.lCut c) = true := rfl
end
end L2
namespace Mv
open PySem PySem.Spec PyProof.Rows L2
section
variable {P : Program} {w : World} {K : PySem.W.Frag} {mg : Str → Option Value} {base : Heap}
theorem dfStar {x qual : Str} {st : Stmt} {f : Addr} {fd : FuncData} {N ps : List Str} {pv : Str} {k : Nat} {sp : Sp} (F : Df K x qual st [] f fd) (S : FnScope N (ps ++ [pv]) (defScope st))
    (hb : ∀ (kV doc pm : Value) (an : Option Addr) (cdv ct : Value) (us rest : List Value), us.length = ps.length → bindArgs (PySem.W.fnOf x qual (defArgs st) (defBody st) (defScope st) .none kV doc pm an cdv ct) ⟨us ++ rest, []⟩ = (newTuple rest >>= fun t => pure (ps.zip us ++ [(pv, t)])))
    (hbody : ∀ (cdv : Value) (A : Around) (outer : List Env) (s : Shared) (H : Hp) (vs : List V) (Q : VK) (E : XK), Room k (A.deeper (envOfC qual (defScope st) s.heap.objs.size f cdv)) → sp vs H Q E →
      ∃ t, PSs (cxOf CX0 P w K mg base N qual (defScope st) f cdv A outer s H E).nox (defBody st) t ∧ t { nx := fun _ H' => Q .non H', rt := Q } (start N vs) H) :
    FnR P w K mg base CX0 (k + 1) f (fun vs H Q E => ∃ ws rest, vs = ws ++ rest ∧ ws.length = ps.length ∧ rest.length ≤ sizeLine ∧ ∀ p, H p = Option.none → sp (ws ++ [V.ref p]) (upd H p (.tup rest)) Q E) := by
  obtain ⟨oc, od, dV, kV, doc, pm, an, cdv, ct, osl, rfl, lk, hcd, hd, _⟩ := F.ex
  rcases hd with ⟨_, e⟩ | ⟨e, _⟩
  · subst e
    refine StX.fn_star lk hcd S StX.cxUp_none (hb kV doc pm an cdv ct) fun A outer s H vs Q E hr hsp => ?_
    obtain ⟨t, h, q⟩ := hbody cdv A outer s H vs Q E hr hsp
    exact ⟨t, h.nox, q⟩
  · exact absurd rfl e
end
/-- a class made by positional arguments, any number of them -/
structure MaR (P : Program) (w : World) (K : PySem.W.Frag) (mg : Str → Option Value) (base : Heap) (k : Nat) (x : Str) (C : Addr) (sp : Sp) : Prop where
  ex : ∃ (f : Addr), Mk K C f ∧ FnR P w K mg base CX0 k f sp ∧ mg x = some (.ref C)
section
variable {X : Cx} {k j : Nat} {C : Addr} {x : Str} {sp : Sp} {p pos : Pos} {e : Expr} {es : List Expr} {t : TA}
theorem pe_mar (c : MaR X.prog X.w X.K X.mg X.base k x C sp) (hr : Room j X.A) (hk : k + 1 ≤ j) (hg : Gl X x) (ha : PA X (e :: es) t)
    (hdb : (x == ("__debug__" : Str)) = false := by decide) (he : starEach (e :: es) X.env = (false, eval e X.env) :: starEach es X.env := by rfl) (hpl : (backTo pos (starEach es X.env)).any (·.1) = false := by rfl) :
    PE X (.Call (.Name x p) (e :: es) [] pos) (StX.tMakeR C sp E0 t) := by
  obtain ⟨f, M, F, hm⟩ := c.ex
  exact StX.pe_makeR M F (hr.mono hk) hg hm pass0 ha hdb he hpl
end
end Mv
set_option Elab.async false
set_option maxRecDepth 100000
set_option maxHeartbeats 4000000
namespace T
open PySem L2 Mv
section
variable {P : Program} {w : World} {K : PySem.W.Frag} {mg : Str → Option Value} {base : Heap} {C AX : Addr}
/-- a Plan of the rounds rs -/
def plF (R Pt : V) (g : Int) : List (Str × V) := [("own_rounds", R), ("own_parts", Pt), ("own_growth", .int g)]
structure PlanAt (K : PySem.W.Frag) (C : Addr) (H : Hp) (v : V) (rs : List (List Pm.Cut)) : Prop where
  ex : ∃ a dx R Pt, v = .ref a ∧ H a = some (.ins C dx (plF R Pt (Pm.cnt rs 0 rs.length))) ∧ Dp K H R (pRds rs) ∧ Dp K H Pt (pParts rs)
  ok : Pm.RdsOk rs
theorem PlanAt.same {H H' : Hp} {v : V} {rs : List (List Pm.Cut)} (h : PlanAt K C H v rs) (s : Same H H') : PlanAt K C H' v rs := by
  obtain ⟨a, dx, R, Pt, e, ea, h1, h2⟩ := h.ex
  exact ⟨⟨a, dx, R, Pt, e, s _ _ ea, h1.up s, h2.up s⟩, h.ok⟩
/-- all is kept but the object at x -/
def sp_init (K : PySem.W.Frag) (C : Addr) : Sp := fun vs H Q _ => ∃ (x dx : Addr) (v : V) (brs : List (Bool × List Pm.Cut)), vs = [.ref x, v] ∧ H x = some (.ins C dx []) ∧ Dp K H v (.tuple (pPass brs)) ∧ Pm.RdsOk (brs.map Prod.snd) ∧
  ∀ H', Bu x H H' → PlanAt K C H' (.ref x) (brs.map Prod.snd) → Q .non H'
theorem c_init {K : PySem.W.Frag} {C : Addr} {x dx : Addr} {v : V} {brs : List (Bool × List Pm.Cut)} {H : Hp} {Q : VK} {E : XK} (h0 : H x = some (.ins C dx [])) (h1 : Dp K H v (.tuple (pPass brs))) (h2 : Pm.RdsOk (brs.map Prod.snd)) (q : ∀ H', Bu x H H' → PlanAt K C H' (.ref x) (brs.map Prod.snd) → Q .non H') : sp_init K C [.ref x, v] H Q E := ⟨_, _, _, _, rfl, h0, h1, h2, q⟩
theorem Bu.insK {x : Addr} {H H' : Hp} {dx : Addr} {fs : List (Str × V)} (b : Bu x H H') (hx : H x = some (.ins C dx fs)) {a : Addr} {xs : List V} (h : SqL K H a xs) : SqL K H' a xs := by
  rcases h with (h | ⟨o, h⟩) | h
  · exact .inl (.inl (b a _ (fun z => by rw [z, hx] at h; cases h) h))
  · exact .inl (.inr ⟨o, b a _ (fun z => by rw [z, hx] at h; cases h) h⟩)
  · exact .inr h
theorem Bu.insT {x : Addr} {H H' : Hp} {dx : Addr} {fs : List (Str × V)} (b : Bu x H H') (hx : H x = some (.ins C dx fs)) {a : Addr} {xs : List V} (h : SqT K H a xs) : SqT K H' a xs := by
  rcases h with (h | ⟨o, h⟩) | h
  · exact .inl (.inl (b a _ (fun z => by rw [z, hx] at h; cases h) h))
  · exact .inl (.inr ⟨o, b a _ (fun z => by rw [z, hx] at h; cases h) h⟩)
  · exact .inr h
mutual
theorem Dp.ins' {x : Addr} {H H' : Hp} {dx : Addr} {fs : List (Str × V)} (b : Bu x H H') (hx : H x = some (.ins C dx fs)) : ∀ (d : PyData) (v : V), Dp K H v d → Dp K H' v d
  | .none, _, h => by cases h; exact .non
  | .bool b, _, h => by cases h; exact .bl b
  | .int i, _, h => by cases h; exact .int i
  | .str x, _, h => by cases h; exact .str x
  | .list ds, _, h => by
    cases h with
    | lst hs ha => exact .lst (Bu.insK b hx hs) (DpAll.ins' b hx ds _ ha)
  | .tuple ds, _, h => by
    cases h with
    | tup hs ha => exact .tup (Bu.insT b hx hs) (DpAll.ins' b hx ds _ ha)
  | .dict _, _, h => by cases h
theorem DpAll.ins' {x : Addr} {H H' : Hp} {dx : Addr} {fs : List (Str × V)} (b : Bu x H H') (hx : H x = some (.ins C dx fs)) : ∀ (ds : List PyData) (vs : List V), DpAll K H vs ds → DpAll K H' vs ds
  | [], _, h => by cases h; exact .nil
  | d :: ds, _, h => by
    cases h with
    | cons h1 h2 => exact .cons (Dp.ins' b hx d _ h1) (DpAll.ins' b hx ds _ h2)
end
theorem ok_init {f : Addr} {fd : FuncData} (F : Df K "__init__" "Plan.__init__" s_init [] f fd) (B : Blt mg) (G : PlG K mg C AX) (cWR : Ca P w K mg base 5 "want_rounds" (sp_wantrounds K) []) (c1 : Ca P w K mg base 1 "parts_along" (sp_along1 K) []) (cPr : Me P w K mg base 1 C "product_of" (sp_prod K C) []) :
    FnR P w K mg base CX0 6 f (fun vs H Q E => ∃ ws rest, vs = ws ++ rest ∧ ws.length = 1 ∧ rest.length ≤ sizeLine ∧ ∀ p, H p = Option.none → sp_init K C (ws ++ [V.ref p]) (upd H p (.tup rest)) Q E) := by
  refine dfStar (ps := ["self"]) (pv := "rounds") F sc_init (fun kV doc pm an cdv ct => StX.bind_star1 (B := fun us => bindArgs (PySem.W.fnOf "__init__" "Plan.__init__" (defArgs s_init) (defBody s_init) (defScope s_init) .none kV doc pm an cdv ct) ⟨us, []⟩) (fun a => rfl) (fun a r rs => rfl)) (fun cdv A outer s H vs Q E hr h => ?_)
  obtain ⟨x, dx, v, brs, rfl, ex, hd, hok, q⟩ := h
  obtain ⟨a, xs, rfl, hs, ha⟩ := hd.tupE
  have hlen : xs.length = brs.length := by rw [ha.len]; simp [pPass]
  have l1 : 1 ≤ brs.length := by have := hok.1; simpa using this
  have l2 : brs.length ≤ 3 := by have := hok.2.1; simpa using this
  obtain ⟨rs, ers⟩ : ∃ rs, brs.map Prod.snd = rs := ⟨_, rfl⟩
  have lrs : rs.length = brs.length := by rw [← ers]; simp
  rw [ers] at hok
  refine ⟨_, (pss_cons (ps_expr (pe_ca cWR hr (by decide) (by rfl) (pa_cons (pv 1) pa_nil)))
  (pss_cons (ps_fld (pv 0) (pe_lc (own := [("cuts", 2)]) (by rfl) sc_init.nd (pi_seq (pv 1)) (blkOk_by (own := [("cuts", 2)]) (N := ["self", "rounds", "cuts", "columns", "rows"]) (sc := defScope s_init) (by decide +kernel)) (fun _ _ _ _ _ => (pg_name (i := 2) sc_init.nd rfl (Or.inl rfl))) (fun _ _ _ _ _ => pts_nil) (fun _ _ _ _ _ => (pe_callTy call_list_of' (by rfl) B.list bt_list (pa_cons (pv 2) pa_nil)))) rfl)
  (pss_cons (ps_fld (pv 0) (pe_lc (own := [("cuts", 2)]) (by rfl) sc_init.nd (pi_list (pe_fld (pv 0) rfl)) (blkOk_by (own := [("cuts", 2)]) (N := ["self", "rounds", "cuts", "columns", "rows"]) (sc := defScope s_init) (by decide +kernel)) (fun _ _ _ _ _ => (pg_name (i := 2) sc_init.nd rfl (Or.inl rfl))) (fun _ _ _ _ _ => pts_nil) (fun _ _ _ _ _ => (pe_tup (pa_cons (pe_ca c1 hr (by decide) (by rfl) (pa_cons (pv 2) (pa_cons (pe_globS G.east (by rfl)) pa_nil))) (pa_cons (pe_ca c1 hr (by decide) (by rfl) (pa_cons (pv 2) (pa_cons (pe_globS G.north (by rfl)) pa_nil))) pa_nil))))) rfl)
  (pss_cons (ps_asg (pe_me cPr hr (by decide) (pv 0) (pa_cons (pe_callB call_len_seq' (by rfl) B.len bt_len (pa_cons (pv 1) pa_nil)) pa_nil)) (pg_tup' 2 (pgs_cons (pg_name (i := 3) sc_init.nd rfl (Or.inl rfl)) (pgs_cons (pg_name (i := 4) sc_init.nd rfl (Or.inl rfl)) pgs_nil))))
  (pss_cons (ps_if (pt_cmpR op_ne (pv 3) (pv 4) (nomark _))
  pss_never
  pss_nil)
  (pss_one (ps_fld (pv 0) (pv 3) rfl))))))), ?_⟩
  refine ⟨_, rfl, _, brs, rfl, hd, ers ▸ hok, fun H1 s1 => ?_⟩
  have hs1 := Same.tup s1 hs
  have ha1 := ha.up s1
  refine ⟨_, rfl, false, a, xs, rfl, hs1, fun D hD => lc_ll (K := K) walk_K (rs.map fun r => r.map pCut) (by simp; omega) (by omega) (fun e he => ?_) hD (fun H' s' => Same.sqk (b := false) s' hs1) ?_ ?_ gName_mono⟩
  · obtain ⟨r, _, rfl⟩ := List.mem_map.mp he
    exact NLs.map _ NL.pCut r
  · rintro i e y H2 _ Q2 hi he s2 ⟨rfl, hy⟩ hq
    refine ⟨rfl, ?_⟩
    obtain ⟨d, hd1, hd2⟩ := (ha1.up s2).get hy
    unfold pPass at hd1
    rw [List.getElem?_map] at hd1
    obtain ⟨c, hc1, rfl⟩ := Option.map_eq_some_iff.mp hd1
    have he' : e = c.2.map pCut := by
      rw [← ers, List.map_map, List.getElem?_map, hc1] at he
      exact (Option.some.inj he).symm
    subst he'
    obtain ⟨b, zs, rfl, hz, hza⟩ := hd2.seqE
    exact ⟨_, rfl, b, zs, rfl, sqK_or hz, fun l hl => hq l zs _ (same_new hl) hl upd_same (hza.up (same_new hl))⟩
  · rintro H2 ys s2 eD hall
    have ex2 := s2 _ _ (s1 _ _ ex)
    refine ⟨_, rfl, x, C, dx, [], rfl, ex2, G.I.cl, G.nR, by decide, ?_⟩
    have hR : Dp K H2 (.ref D) (pRds rs) := by
      refine .lst (SqL.of eD) ?_
      have : rs.map pRnd = (rs.map fun r => r.map pCut).map PyData.list := by rw [List.map_map]; rfl
      rw [this]
      exact hall
    have b3 : Bu x H2 (upd H2 x (.ins C dx [("own_rounds", .ref D)])) := Bu.set
    have hR3 := Dp.ins' b3 ex2 _ _ hR
    have hs3 := Bu.insT b3 ex2 (Same.tup s2 hs1)
    have bb : Bu x H (upd H2 x (.ins C dx [("own_rounds", .ref D)])) := (Bu.of (s1.trans s2) x).trans b3
    show tSeq _ _ _ _ (upd H2 x (.ins C dx [("own_rounds", .ref D)]))
    have ex3 : upd H2 x (.ins C dx [("own_rounds", .ref D)]) x = some (.ins C dx [("own_rounds", .ref D)]) := upd_same
    generalize upd H2 x (.ins C dx [("own_rounds", .ref D)]) = H3 at *
    obtain ⟨_, rsx, eD', hsR, haR⟩ := hR3.lstE
    cases eD'
    have hlR : rsx.length = rs.length := by rw [haR.len, List.length_map]
    refine ⟨_, rfl, x, C, dx, _, .ref D, rfl, ex3, G.I.cl, G.nR, rfl, D, rfl, ⟨_, hsR⟩, fun D2 hD2 => lc_nl (K := K) (walk_list (xs := rsx)) (rs.map fun r => .tuple [.int (Pm.wid r 0), .int (Pm.wid r 1)]) (by simp; omega) (by omega) (NLs.map _ (fun _ => rfl) rs) hD2 (fun H' s' => s'.seq hsR) ?_ ?_ gName_mono⟩
    · rintro i e y H4 _ Q2 hi he s4 ⟨rfl, hy⟩ hq
      refine ⟨rfl, ?_⟩
      obtain ⟨d, hd1, hd2⟩ := (haR.up s4).get hy
      rw [List.getElem?_map] at hd1 he
      obtain ⟨r, hr1, rfl⟩ := Option.map_eq_some_iff.mp hd1
      rw [hr1] at he
      obtain rfl := Option.some.inj he
      have hro := hok.2.2.1 r (List.mem_of_getElem? hr1)
      refine ⟨_, rfl, y, true, r, 0, rfl, by decide, hd2, hro, _, rfl, y, true, r, 1, rfl, by decide, hd2, hro, by show 2 ≤ sizeLine; decide, fun t ht => ?_⟩
      exact hq _ _ (same_new ht) (Dp.tupI (is := [_, _]) (SqT.of upd_same))
    · rintro H4 ys4 s4 eD4 hall4
      have ex4 := s4 _ _ ex3
      refine ⟨_, rfl, x, C, dx, _, rfl, ex4, G.I.cl, G.nP, by show 1 < 1000; decide, ?_⟩
      have hP4 : Dp K H4 (.ref D2) (pParts rs) := .lst (SqL.of eD4) hall4
      have b5 : Bu x H4 (upd H4 x (.ins C dx [("own_rounds", .ref D), ("own_parts", .ref D2)])) := Bu.set
      have hP5 := Dp.ins' b5 ex4 _ _ hP4
      have hR5 := Dp.ins' b5 ex4 _ _ (hR3.up s4)
      have hs5 := Bu.insT b5 ex4 (Same.tup s4 hs3)
      have bb5 := bb.trans ((Bu.of s4 x).trans b5)
      show tSeq _ _ _ _ (upd H4 x (.ins C dx [("own_rounds", .ref D), ("own_parts", .ref D2)]))
      have ex5 : upd H4 x (.ins C dx [("own_rounds", .ref D), ("own_parts", .ref D2)]) x = some (.ins C dx [("own_rounds", .ref D), ("own_parts", .ref D2)]) := upd_same
      generalize upd H4 x (.ins C dx [("own_rounds", .ref D), ("own_parts", .ref D2)]) = H5 at *
      refine ⟨_, rfl, x, dx, _, rfl, ex5, rfl, _, rfl, a, xs, rfl, .inr hs5, x, dx, _, .ref D2, rs, xs.length, rfl, by omega, ex5, rfl, hP5, hok, fun t H6 s6 et => ?_⟩
      refine ⟨t, _, rfl, SqT.of et, rfl, _, _, rfl, _, _, rfl, rfl, ?_⟩
      have bal := hok.bal
      rw [lrs, ← hlen] at bal
      refine ⟨_, rfl, _, rfl, rfl, _, rfl, ?_⟩
      rw [show (!decide (V.int (Pm.cnt rs 0 xs.length) = V.int (Pm.cnt rs 1 xs.length))) = false by rw [bal]; simp]
      refine iteF ?_
      have ex6 := s6 _ _ ex5
      refine ⟨_, rfl, _, rfl, x, C, dx, _, rfl, ex6, G.I.cl, G.nG, by show 2 < 1000; decide, ?_⟩
      have b7 : Bu x H6 (upd H6 x (.ins C dx (plF (.ref D) (.ref D2) (Pm.cnt rs 0 xs.length)))) := Bu.set
      refine q _ (bb5.trans ((Bu.of s6 x).trans b7)) ?_
      rw [ers]
      refine ⟨⟨x, dx, .ref D, .ref D2, rfl, ?_, Dp.ins' b7 ex6 _ _ (hR5.up s6), Dp.ins' b7 ex6 _ _ (hP5.up s6)⟩, hok⟩
      rw [lrs, ← hlen]
      exact upd_same
/-! making a plan -/
def spMk (K : PySem.W.Frag) (C : Addr) : Sp := fun vs H Q E => ∃ ws rest, vs = ws ++ rest ∧ ws.length = 1 ∧ rest.length ≤ sizeLine ∧ ∀ p, H p = Option.none → sp_init K C (ws ++ [V.ref p]) (upd H p (.tup rest)) Q E
theorem mk_plan {H : Hp} {vs : List V} {brs : List (Bool × List Pm.Cut)} {Q : VK} (ha : DpAll K H vs (pPass brs)) (ok : Pm.RdsOk (brs.map Prod.snd)) (q : ∀ u H', Same H H' → PlanAt K C H' u (brs.map Prod.snd) → Q u H') :
    ∀ x dx, H x = none → H dx = none → dx ≠ x → spMk K C (V.ref x :: vs) (upd (upd H dx (.own x)) x (.ins C dx [])) (fun v H2 => v = .non ∧ Q (.ref x) H2) E0 := by
  intro x dx hx hdx hne
  have hlen : vs.length ≤ 3 := by
    have := ok.2.1
    rw [ha.len]
    simpa [pPass] using this
  refine ⟨[.ref x], vs, rfl, rfl, by unfold sizeLine; omega, fun p hp => ?_⟩
  have s1 : Same H (upd (upd H dx (.own x)) x (.ins C dx [])) := same_make hx hdx hne
  have s2 : ∀ o, Same H (upd (upd (upd H dx (.own x)) x (.ins C dx [])) p o) := fun o => s1.trans (same_new hp)
  have hpx : x ≠ p := fun z => by rw [← z, upd_same] at hp; cases hp
  refine ⟨x, dx, .ref p, brs, rfl, by rw [upd_ne hpx, upd_same], .tup (SqT.of upd_same) (ha.up (s2 _)), ok, fun H' b pa => ⟨rfl, q _ _ (fun c o e => ?_) pa⟩⟩
  exact b c o (fun z => by rw [z, hx] at e; cases e) (s2 _ c o e)
end
end T
set_option Elab.async false
set_option maxRecDepth 100000
set_option maxHeartbeats 4000000
namespace T
open PySem L2 Mv
abbrev s_plen : Stmt := inClass (top 44) 16
theorem sc_plen : FnScope ["self"] ["self"] (defScope s_plen) := ⟨rfl, rfl, rfl, by decide +kernel, rfl, by decide +kernel, by decide +kernel⟩
abbrev s_peq : Stmt := inClass (top 44) 17
theorem sc_peq : FnScope ["self", "other"] ["self", "other"] (defScope s_peq) := ⟨rfl, rfl, rfl, by decide +kernel, rfl, by decide +kernel, by decide +kernel⟩
abbrev s_wantplan : Stmt := top 45
theorem sc_wantplan : FnScope ["value"] ["value"] (defScope s_wantplan) := ⟨rfl, rfl, rfl, by decide +kernel, rfl, by decide +kernel, by decide +kernel⟩
abbrev s_wantphase : Stmt := top 46
theorem sc_wantphase : FnScope ["plan", "value"] ["plan", "value"] (defScope s_wantphase) := ⟨rfl, rfl, rfl, by decide +kernel, rfl, by decide +kernel, by decide +kernel⟩
abbrev s_parts : Stmt := inClass (top 44) 11
theorem sc_parts : FnScope ["self", "phase"] ["self", "phase"] (defScope s_parts) := ⟨rfl, rfl, rfl, by decide +kernel, rfl, by decide +kernel, by decide +kernel⟩
abbrev s_signs : Stmt := inClass (top 44) 10
theorem sc_signs : FnScope ["self", "phase", "columns", "rows"] ["self", "phase"] (defScope s_signs) := ⟨rfl, rfl, rfl, by decide +kernel, rfl, by decide +kernel, by decide +kernel⟩
abbrev s_phaseat : Stmt := top 2
theorem sc_phaseat : FnScope ["plan", "position"] ["plan", "position"] (defScope s_phaseat) := ⟨rfl, rfl, rfl, by decide +kernel, rfl, by decide +kernel, by decide +kernel⟩
section
variable {P : Program} {w : World} {K : PySem.W.Frag} {mg : Str → Option Value} {base : Heap} {C AX : Addr}
/-! names -/
def dNm (ns : List Nat) : PyData := .tuple (ns.map fun (n : Nat) => PyData.int n)
def vNm (ns : List Nat) : List V := ns.map fun (n : Nat) => V.int n
theorem dNm_eq (ns : List Nat) : dNm ns = .tuple ((ns.map Int.ofNat).map .int) := by unfold dNm; rw [List.map_map]; rfl
theorem vNm_eq (ns : List Nat) : vNm ns = (ns.map Int.ofNat).map V.int := by unfold vNm; rw [List.map_map]; rfl
theorem nmE {H : Hp} {v : V} {ns : List Nat} (h : Dp K H v (dNm ns)) : ∃ a, v = .ref a ∧ SqT K H a (vNm ns) := by
  rw [dNm_eq] at h
  rw [vNm_eq]
  exact h.tupIE
theorem nmI {H : Hp} {a : Addr} {ns : List Nat} (h : SqT K H a (vNm ns)) : Dp K H (.ref a) (dNm ns) := by
  rw [vNm_eq] at h
  rw [dNm_eq]
  exact Dp.tupI h
theorem NL.nm (ns : List Nat) : NL (dNm ns) = true := by rw [dNm_eq]; exact NL.ints _
/-- a name of the rounds rs -/
def NmOk (rs : List (List Pm.Cut)) (ns : List Nat) : Prop := ∀ k, k < ns.length → ns.getD k 0 < Pm.S rs k
/-! __len__, __eq__ -/
def sp_plen (K : PySem.W.Frag) (C : Addr) : Sp := fun vs H Q _ => ∃ (v : V) (rs : List (List Pm.Cut)), vs = [v] ∧ PlanAt K C H v rs ∧ Q (.int (rs.length : Nat)) H
theorem c_plen {K : PySem.W.Frag} {C : Addr} {v : V} {rs : List (List Pm.Cut)} {H : Hp} {Q : VK} {E : XK} (h0 : PlanAt K C H v rs) (q : Q (.int (rs.length : Nat)) H) : sp_plen K C [v] H Q E := ⟨_, _, rfl, h0, q⟩
theorem ok_plen {f : Addr} {fd : FuncData} (F : Df K "__len__" "Plan.__len__" s_plen [] f fd) (B : Blt mg) (G : PlG K mg C AX) : FnOk P w K mg base CX0 1 f fd ["self"] (sp_plen K C) := by
  refine dfOk F sc_plen (fun vs H Q E h => ?_) (fun cdv A outer s H vs Q E hr h => ?_)
  · obtain ⟨v, rs, rfl, _⟩ := h
    rfl
  · obtain ⟨v, rs, rfl, hp, q⟩ := h
    obtain ⟨a, dx, R, Pt, rfl, ea, hR, hP⟩ := hp.ex
    obtain ⟨b, xs, rfl, hs, ha⟩ := hR.lstE
    have hlen : xs.length = rs.length := by rw [ha.len, List.length_map]
    refine ⟨_, (pss_one (ps_ret (pe_callB call_len_seq' (by rfl) B.len bt_len (pa_cons (pe_fld (pv 0) rfl) pa_nil)))), ?_⟩
    refine ⟨_, rfl, a, C, dx, _, _, rfl, ea, G.I.cl, G.nR, rfl, b, xs, rfl, .inl hs, ?_⟩
    rw [hlen]
    exact q
/-- what len(plan) reads -/
theorem len_plan {H : Hp} {v : V} {rs : List (List Pm.Cut)} {Q : VK} (hp : PlanAt K C H v rs) (q : Q (.int (rs.length : Nat)) H) : rLenO C (sp_plen K C) [v] H Q := by
  obtain ⟨a, dx, R, Pt, rfl, ea, _⟩ := hp.ex
  have := hp.ok.2.1
  exact ⟨a, dx, _, rfl, ea, _, rs, rfl, hp, _, rfl, by omega, by omega, q⟩
theorem eqv_cut {c d : Pm.Cut} (hc : Pm.CutOk c) (hd : Pm.CutOk d) : PyData.eqv (pCut c) (pCut d) = decide (c = d) := by
  obtain ⟨a, p⟩ := c
  obtain ⟨b, q⟩ := d
  have h1 : a = 0 ∨ a = 1 := by have := hc.1; simp at this; omega
  have h2 : b = 0 ∨ b = 1 := by have := hd.1; simp at this; omega
  have hn : ∀ x y : Nat, ((x : Int) == (y : Int)) = decide (x = y) := fun x y => by
    rw [Bool.eq_iff_iff]; simp only [beq_iff_eq, decide_eq_true_eq]; omega
  have ne1 : (("east" : Str) == ("north" : Str)) = false := by decide
  have ne2 : (("north" : Str) == ("east" : Str)) = false := by decide
  simp only [pCut, PyData.eqv, PyData.eqvAll, hn, Bool.and_true]
  rcases h1 with rfl | rfl <;> rcases h2 with rfl | rfl <;> simp [axn, ne1, ne2, Prod.ext_iff]
theorem eqv_map {α : Type} [DecidableEq α] (f : α → PyData) : ∀ (xs ys : List α), (∀ x ∈ xs, ∀ y ∈ ys, PyData.eqv (f x) (f y) = decide (x = y)) → PyData.eqvAll (xs.map f) (ys.map f) = decide (xs = ys)
  | [], [], _ => rfl
  | [], y :: ys, _ => by simp [PyData.eqvAll]
  | x :: xs, [], _ => by simp [PyData.eqvAll]
  | x :: xs, y :: ys, h => by
    simp only [List.map_cons, PyData.eqvAll]
    rw [h x (List.mem_cons_self ..) y (List.mem_cons_self ..), eqv_map f xs ys fun a ha b hb => h a (List.mem_cons_of_mem _ ha) b (List.mem_cons_of_mem _ hb)]
    rw [Bool.eq_iff_iff]
    simp
theorem eqv_rds {rs qs : List (List Pm.Cut)} (h1 : Pm.RdsOk rs) (h2 : Pm.RdsOk qs) : PyData.eqv (pRds rs) (pRds qs) = decide (rs = qs) := by
  unfold pRds
  rw [PyData.eqv]
  refine eqv_map pRnd rs qs fun r hr q hq => ?_
  unfold pRnd
  rw [PyData.eqv]
  exact eqv_map pCut r q fun c hc d hd => eqv_cut ((h1.2.2.1 r hr).2.2.1 c hc) ((h2.2.2.1 q hq).2.2.1 d hd)
theorem canLay_all {ds : List PyData} : (∀ d ∈ ds, d.canLay0 = true) → PyData.canLayAll0 ds = true := by
  induction ds with
  | nil => intro _; rfl
  | cons d ds ih =>
    intro h
    have h1 := h d (List.mem_cons_self ..)
    have h2 := ih fun x hx => h x (List.mem_cons_of_mem _ hx)
    simp [PyData.canLayAll0, h1, h2]
theorem depth_all {n : Nat} : ∀ {ds : List PyData}, (∀ d ∈ ds, d.depth ≤ n) → PyData.depthAll ds ≤ n
  | [], _ => by simp [PyData.depthAll]
  | d :: ds, h => by
    have h1 := h d (List.mem_cons_self ..)
    have h2 := depth_all (ds := ds) fun x hx => h x (List.mem_cons_of_mem _ hx)
    simp only [PyData.depthAll]
    omega
theorem shaped_cut (c : Pm.Cut) : (pCut c).canLay0 = true ∧ (pCut c).depth ≤ 1 := by
  obtain ⟨a, p⟩ := c
  constructor
  · unfold pCut axn
    simp only
    split
    · simp only [PyData.canLay0, PyData.canLayAll0, Bool.and_true]
      decide +kernel
    · simp only [PyData.canLay0, PyData.canLayAll0, Bool.and_true]
      decide +kernel
  · unfold pCut axn
    simp only
    split <;> simp [PyData.depth, PyData.depthAll]
theorem shaped_rds (rs : List (List Pm.Cut)) : SeqAt.shaped (pRds rs) = true := by
  have h1 : ∀ d ∈ rs.map pRnd, d.canLay0 = true ∧ d.depth ≤ 2 := fun d hd => by
    obtain ⟨r, _, rfl⟩ := List.mem_map.mp hd
    have h2 : ∀ e ∈ r.map pCut, e.canLay0 = true ∧ e.depth ≤ 1 := fun e he => by
      obtain ⟨c, _, rfl⟩ := List.mem_map.mp he
      exact shaped_cut c
    unfold pRnd
    constructor
    · rw [PyData.canLay0]
      exact canLay_all fun e he => (h2 e he).1
    · rw [PyData.depth]
      exact Nat.succ_le_succ (depth_all fun e he => (h2 e he).2)
  refine shaped_of ?_ ?_
  · unfold pRds
    rw [PyData.canLay0]
    exact canLay_all fun e he => (h1 e he).1
  · unfold pRds
    rw [PyData.depth]
    have := depth_all (n := 2) fun e he => (h1 e he).2
    omega
def sp_peq (K : PySem.W.Frag) (C : Addr) : Sp := fun vs H Q _ => ∃ (v u : V) (rs qs : List (List Pm.Cut)), vs = [v, u] ∧ PlanAt K C H v rs ∧ PlanAt K C H u qs ∧ Q (.bl (decide (rs = qs))) H
theorem c_peq {K : PySem.W.Frag} {C : Addr} {v u : V} {rs qs : List (List Pm.Cut)} {H : Hp} {Q : VK} {E : XK} (h0 : PlanAt K C H v rs) (h1 : PlanAt K C H u qs) (q : Q (.bl (decide (rs = qs))) H) : sp_peq K C [v, u] H Q E := ⟨_, _, _, _, rfl, h0, h1, q⟩
theorem ok_peq {f : Addr} {fd : FuncData} (F : Df K "__eq__" "Plan.__eq__" s_peq [] f fd) (B : Blt mg) (G : PlG K mg C AX) : FnOk P w K mg base CX0 1 f fd ["self", "other"] (sp_peq K C) := by
  refine dfOk F sc_peq (fun vs H Q E h => ?_) (fun cdv A outer s H vs Q E hr h => ?_)
  · obtain ⟨v, u, rs, qs, rfl, _⟩ := h
    rfl
  · obtain ⟨v, u, rs, qs, rfl, hp, hq, q⟩ := h
    obtain ⟨a, dx, R, Pt, rfl, ea, hR, hP⟩ := hp.ex
    obtain ⟨b, dy, R', Pt', rfl, eb, hR', hP'⟩ := hq.ex
    refine ⟨_, (pss_one (ps_ret (pe_and (pe_callB call_isi' (by rfl) B.isinstance bt_isinstance (pa_cons (pv 1) (pa_cons (pe_glob (by rfl) G.mgC (v := .ref C) rfl) pa_nil))) (pe_one (pe_cmpR (op_eqD' hr.units) (pe_fld (pv 0) rfl) (pe_fld (pv 1) rfl) (nomark _)))))), ?_⟩
    refine ⟨_, rfl, _, _, .ref C, .ref C, true, rfl, .own C, G.I.ty eb, G.I.me, true, rfl, iteT ?_⟩
    refine ⟨_, rfl, a, C, dx, _, _, rfl, ea, G.I.cl, G.nR, rfl, _, rfl, b, C, dy, _, _, rfl, eb, G.I.cl, G.nR, rfl, _, _, hR, hR', shaped_rds rs, shaped_rds qs, ?_⟩
    rw [eqv_rds hp.ok hq.ok]
    exact q
/-! want_plan, want_phase, parts, signs -/
def sp_wantplan (K : PySem.W.Frag) (C : Addr) : Sp := fun vs H Q _ => ∃ (v : V) (rs : List (List Pm.Cut)), vs = [v] ∧ PlanAt K C H v rs ∧ Q .non H
theorem c_wantplan {K : PySem.W.Frag} {C : Addr} {v : V} {rs : List (List Pm.Cut)} {H : Hp} {Q : VK} {E : XK} (h0 : PlanAt K C H v rs) (q : Q .non H) : sp_wantplan K C [v] H Q E := ⟨_, _, rfl, h0, q⟩
theorem ok_wantplan {f : Addr} {fd : FuncData} (F : Df K "want_plan" "want_plan" s_wantplan [] f fd) (B : Blt mg) (G : PlG K mg C AX) : FnOk P w K mg base CX0 1 f fd ["value"] (sp_wantplan K C) := by
  refine dfOk F sc_wantplan (fun vs H Q E h => ?_) (fun cdv A outer s H vs Q E hr h => ?_)
  · obtain ⟨v, rs, rfl, _⟩ := h
    rfl
  · obtain ⟨v, rs, rfl, hp, q⟩ := h
    obtain ⟨a, dx, R, Pt, rfl, ea, hR, hP⟩ := hp.ex
    refine ⟨_, (pss_one (ps_if (pt_not (pt_val (pe_callB call_isi' (by rfl) B.isinstance bt_isinstance (pa_cons (pv 0) (pa_cons (pe_glob (by rfl) G.mgC (v := .ref C) rfl) pa_nil)))))
  pss_never
  pss_nil)), ?_⟩
    refine ⟨_, rfl, _, _, .ref C, .ref C, true, rfl, .own C, G.I.ty ea, G.I.me, true, rfl, iteF q⟩
def sp_wantphase (K : PySem.W.Frag) (C : Addr) : Sp := fun vs H Q _ => ∃ (v : V) (rs : List (List Pm.Cut)) (ph : Nat), vs = [v, .int ph] ∧ PlanAt K C H v rs ∧ ph < rs.length ∧ Q .non H
theorem c_wantphase {K : PySem.W.Frag} {C : Addr} {v : V} {rs : List (List Pm.Cut)} {ph : Nat} {H : Hp} {Q : VK} {E : XK} (h0 : PlanAt K C H v rs) (h1 : ph < rs.length) (q : Q .non H) : sp_wantphase K C [v, .int ph] H Q E := ⟨_, _, _, rfl, h0, h1, q⟩
theorem ok_wantphase {f : Addr} {fd : FuncData} (F : Df K "want_phase" "want_phase" s_wantphase [] f fd) (B : Blt mg) (cCo : Ca P w K mg base 2 "is_count" (sp_count K) []) (cLen : Op2 P w K mg base 1 C "__len__" (sp_plen K C)) : FnOk P w K mg base CX0 3 f fd ["plan", "value"] (sp_wantphase K C) := by
  refine dfOk F sc_wantphase (fun vs H Q E h => ?_) (fun cdv A outer s H vs Q E hr h => ?_)
  · obtain ⟨v, rs, ph, rfl, _⟩ := h
    rfl
  · obtain ⟨v, rs, ph, rfl, hp, hph, q⟩ := h
    refine ⟨_, (pss_one (ps_if (PW.pt (pw_or (pt_not (pt_val (pe_ca cCo hr (by decide) (by rfl) (pa_cons (pv 1) pa_nil)))) (pw_or1 (pt_cmpR op_ge (pv 1) (pe_callB (call_lenO' cLen hr (by decide)) (by rfl) B.len bt_len (pa_cons (pv 0) pa_nil)) (nomark _)))))
  pss_never
  pss_nil)), ?_⟩
    refine ⟨_, rfl, tnil (count_int (by omega) ⟨_, rfl, iteF ?_⟩)⟩
    refine ⟨_, rfl, _, rfl, tnil (len_plan hp ⟨_, _, rfl, rfl, _, rfl, ?_⟩)⟩
    rw [decide_eq_false (show ¬ ((rs.length : Nat) : Int) ≤ (ph : Int) by omega)]
    exact iteF q
theorem rs_get {rs : List (List Pm.Cut)} {ph : Nat} (h : ph < rs.length) : rs[ph]? = some (Pm.rnd rs ph) := by
  have := Pm.rnd_get (by omega : 1 ≤ rs.length) ph
  rwa [Nat.mod_eq_of_lt h] at this
def sp_parts (K : PySem.W.Frag) (C : Addr) : Sp := fun vs H Q _ => ∃ (v : V) (rs : List (List Pm.Cut)) (ph : Nat), vs = [v, .int ph] ∧ PlanAt K C H v rs ∧ ph < rs.length ∧ ∀ t, SqT K H t [.int (Pm.W rs 0 ph), .int (Pm.W rs 1 ph)] → Q (.ref t) H
theorem c_parts {K : PySem.W.Frag} {C : Addr} {v : V} {rs : List (List Pm.Cut)} {ph : Nat} {H : Hp} {Q : VK} {E : XK} (h0 : PlanAt K C H v rs) (h1 : ph < rs.length) (q : ∀ t, SqT K H t [.int (Pm.W rs 0 ph), .int (Pm.W rs 1 ph)] → Q (.ref t) H) : sp_parts K C [v, .int ph] H Q E := ⟨_, _, _, rfl, h0, h1, q⟩
theorem ok_parts {f : Addr} {fd : FuncData} (F : Df K "parts" "Plan.parts" s_parts [] f fd) (G : PlG K mg C AX) (cWP : Ca P w K mg base 3 "want_phase" (sp_wantphase K C) []) : FnOk P w K mg base CX0 4 f fd ["self", "phase"] (sp_parts K C) := by
  refine dfOk F sc_parts (fun vs H Q E h => ?_) (fun cdv A outer s H vs Q E hr h => ?_)
  · obtain ⟨v, rs, ph, rfl, _⟩ := h
    rfl
  · obtain ⟨v, rs, ph, rfl, hp, hph, q⟩ := h
    obtain ⟨a, dx, R, Pt, rfl, ea, hR, hP⟩ := hp.ex
    obtain ⟨b, xs, rfl, hs, ha⟩ := hP.lstE
    obtain ⟨x, hx, hdx⟩ := ha.got (i := ph) (by rw [List.getElem?_map, rs_get hph]; rfl)
    obtain ⟨t, rfl, ht⟩ := pair_at hdx
    refine ⟨_, (pss_cons (ps_expr (pe_ca cWP hr (by decide) (by rfl) (pa_cons (pv 0) (pa_cons (pv 1) pa_nil))))
  (pss_one (ps_ret (pe_ix ix_list' (pe_fld (pv 0) rfl) (pv 1) (fun _ _ => rfl))))), ?_⟩
    refine ⟨_, rfl, _, rfl, _, rs, ph, rfl, hp, hph, ?_⟩
    exact ⟨_, rfl, a, C, dx, _, _, rfl, ea, G.I.cl, G.nP, rfl, _, rfl, b, xs, _, .ref t, rfl, rfl, hs, atI_nat hx, q t ht⟩
/-- what plan.m reads of the object -/
theorem plan_obj {H : Hp} {v : V} {rs : List (List Pm.Cut)} (hp : PlanAt K C H v rs) : ∃ a dx fs, v = .ref a ∧ H a = some (.ins C dx fs) ∧ ∀ m : Str, m ≠ "own_rounds" → m ≠ "own_parts" → m ≠ "own_growth" → fs.lookup m = none := by
  obtain ⟨a, dx, R, Pt, rfl, ea, _⟩ := hp.ex
  refine ⟨a, dx, _, rfl, ea, fun m h1 h2 h3 => ?_⟩
  have z : ∀ {x : Str}, m ≠ x → (m == x) = false := fun h => by simpa using h
  unfold plF
  simp only [List.lookup, z h1, z h2, z h3]
def sp_signs (K : PySem.W.Frag) (C : Addr) : Sp := fun vs H Q _ => ∃ (v : V) (rs : List (List Pm.Cut)) (ph : Nat), vs = [v, .int ph] ∧ PlanAt K C H v rs ∧ ph < rs.length ∧ Q (.int (Pm.S rs ph : Nat)) H
theorem c_signs {K : PySem.W.Frag} {C : Addr} {v : V} {rs : List (List Pm.Cut)} {ph : Nat} {H : Hp} {Q : VK} {E : XK} (h0 : PlanAt K C H v rs) (h1 : ph < rs.length) (q : Q (.int (Pm.S rs ph : Nat)) H) : sp_signs K C [v, .int ph] H Q E := ⟨_, _, _, rfl, h0, h1, q⟩
theorem ok_signs {f : Addr} {fd : FuncData} (F : Df K "signs" "Plan.signs" s_signs [] f fd) (cPa : Me P w K mg base 4 C "parts" (sp_parts K C) []) : FnOk P w K mg base CX0 5 f fd ["self", "phase"] (sp_signs K C) := by
  refine dfOk F sc_signs (fun vs H Q E h => ?_) (fun cdv A outer s H vs Q E hr h => ?_)
  · obtain ⟨v, rs, ph, rfl, _⟩ := h
    rfl
  · obtain ⟨v, rs, ph, rfl, hp, hph, q⟩ := h
    obtain ⟨a, dx, fs, rfl, ea, hl⟩ := plan_obj hp
    refine ⟨_, (pss_cons (ps_asg (pe_me cPa hr (by decide) (pv 0) (pa_cons (pv 1) pa_nil)) (pg_tup' 2 (pgs_cons (pg_name (i := 2) sc_signs.nd rfl (Or.inl rfl)) (pgs_cons (pg_name (i := 3) sc_signs.nd rfl (Or.inl rfl)) pgs_nil))))
  (pss_one (ps_ret (pe_op op_mul (pv 2) (pv 3))))), ?_⟩
    have w := hp.ok.W32 ph
    refine ⟨_, rfl, a, dx, fs, rfl, ea, hl _ (by decide) (by decide) (by decide), _, rfl, _, rs, ph, rfl, hp, hph, fun t ht => ?_⟩
    refine ⟨t, _, rfl, ht, rfl, _, _, rfl, _, _, rfl, rfl, ?_⟩
    refine ⟨_, rfl, _, rfl, _, _, rfl, rfl, .inl ⟨by omega, by omega⟩, ?_⟩
    rw [hp.ok.SW ph, Int.natCast_mul] at q
    exact q
/-! phase_at, pair_of -/
def sp_phaseat (K : PySem.W.Frag) (C : Addr) : Sp := fun vs H Q _ => ∃ (v : V) (rs : List (List Pm.Cut)) (k : Nat), vs = [v, .int k] ∧ PlanAt K C H v rs ∧ Q (.int (k % rs.length : Nat)) H
theorem c_phaseat {K : PySem.W.Frag} {C : Addr} {v : V} {rs : List (List Pm.Cut)} {k : Nat} {H : Hp} {Q : VK} {E : XK} (h0 : PlanAt K C H v rs) (q : Q (.int (k % rs.length : Nat)) H) : sp_phaseat K C [v, .int k] H Q E := ⟨_, _, _, rfl, h0, q⟩
theorem ok_phaseat {f : Addr} {fd : FuncData} (F : Df K "phase_at" "phase_at" s_phaseat [] f fd) (B : Blt mg) (cLen : Op2 P w K mg base 1 C "__len__" (sp_plen K C)) : FnOk P w K mg base CX0 3 f fd ["plan", "position"] (sp_phaseat K C) := by
  refine dfOk F sc_phaseat (fun vs H Q E h => ?_) (fun cdv A outer s H vs Q E hr h => ?_)
  · obtain ⟨v, rs, k, rfl, _⟩ := h
    rfl
  · obtain ⟨v, rs, k, rfl, hp, q⟩ := h
    have l1 := hp.ok.1
    refine ⟨_, (pss_one (ps_ret (pe_op op_mod (pv 1) (pe_callB (call_lenO' cLen hr (by decide)) (by rfl) B.len bt_len (pa_cons (pv 0) pa_nil))))), ?_⟩
    refine ⟨_, rfl, _, rfl, tnil (len_plan hp ⟨_, _, rfl, rfl, by show (0 : Int) < (rs.length : Nat); omega, ?_⟩)⟩
    rw [Int.natCast_emod] at q
    exact q
theorem rnd_mod {rs : List (List Pm.Cut)} (k : Nat) : Pm.rnd rs (k % rs.length) = Pm.rnd rs k := by
  unfold Pm.rnd
  rw [Nat.mod_mod]
end
end T
set_option Elab.async false
set_option maxRecDepth 100000
set_option maxHeartbeats 4000000
namespace T
open PySem L2 Mv
abbrev s_hasform : Stmt := top 48
theorem sc_hasform : FnScope ["plan", "value", "at", "sign"] ["plan", "value"] (defScope s_hasform) := ⟨rfl, rfl, rfl, by decide +kernel, rfl, by decide +kernel, by decide +kernel⟩
abbrev s_wantname : Stmt := top 49
theorem sc_wantname : FnScope ["plan", "value"] ["plan", "value"] (defScope s_wantname) := ⟨rfl, rfl, rfl, by decide +kernel, rfl, by decide +kernel, by decide +kernel⟩
section
variable {P : Program} {w : World} {K : PySem.W.Frag} {mg : Str → Option Value} {base : Heap} {C AX : Addr}
/-! slices and == of names -/
theorem vNm_len (ns : List Nat) : (vNm ns).length = ns.length := by simp [vNm]
theorem vNm_get {ns : List Nat} {i : Nat} {x : V} (h : (vNm ns)[i]? = some x) : i < ns.length ∧ x = .int (ns.getD i 0 : Nat) := by
  have hi : i < ns.length := by
    have := (List.getElem?_eq_some_iff.mp h).1
    rwa [vNm_len] at this
  refine ⟨hi, ?_⟩
  replace h : (ns.map fun (n : Nat) => V.int n)[i]? = some x := h
  rw [List.getElem?_map, List.getElem?_eq_getElem hi] at h
  rw [List.getD_eq_getElem?_getD, List.getElem?_eq_getElem hi]
  exact (Option.some.inj h).symm
theorem vNm_at {ns : List Nat} {i : Nat} (hi : i < ns.length) : (vNm ns)[i]? = some (.int (ns.getD i 0 : Nat)) := by
  show (ns.map fun (n : Nat) => V.int n)[i]? = _
  rw [List.getElem?_map, List.getElem?_eq_getElem hi, List.getD_eq_getElem?_getD, List.getElem?_eq_getElem hi]
  rfl
theorem vNm_take (ns : List Nat) (k : Nat) : (vNm ns).take k = vNm (ns.take k) := by simp [vNm, List.map_take]
theorem vNm_drop (ns : List Nat) (k : Nat) : (vNm ns).drop k = vNm (ns.drop k) := by simp [vNm, List.map_drop]
theorem sl_to {H : Hp} {a : Addr} {ns : List Nat} {k : Nat} {Q : VK} (h : SqT K H a (vNm ns)) (q : ∀ t H', Same H H' → SqT K H' t (vNm (ns.take k)) → Q (.ref t) H') : rSlA K (.ref a) none (some (k : Int)) H Q := by
  refine ⟨a, _, rfl, h, fun hw => ?_, fun _ p hp => ?_⟩
  · rw [HT.sIx_nat, vNm_len] at hw
    refine q a H (Same.refl _) ?_
    rw [List.take_of_length_le (by omega)]
    exact h
  · refine q p _ (same_new hp) (SqT.of ?_)
    rw [upd_same]
    unfold cutV
    rw [HT.sIx_nat, HT.sIx_none, List.drop_zero, vNm_len, Nat.sub_zero, vNm_take]
    congr 3
    rcases Nat.le_total k ns.length with z | z
    · rw [Nat.min_eq_left z]
    · rw [Nat.min_eq_right z, List.take_length, List.take_of_length_le z]
theorem sl_from {H : Hp} {a : Addr} {ns : List Nat} {k : Nat} {Q : VK} (h : SqT K H a (vNm ns)) (q : ∀ t H', Same H H' → SqT K H' t (vNm (ns.drop k)) → Q (.ref t) H') : rSlA K (.ref a) (some (k : Int)) none H Q := by
  refine ⟨a, _, rfl, h, fun hw => ?_, fun _ p hp => ?_⟩
  · rw [HT.sIx_nat, vNm_len] at hw
    refine q a H (Same.refl _) ?_
    have : k = 0 ∨ ns.length = 0 := by omega
    rcases this with rfl | z
    · exact h
    · rw [List.length_eq_zero_iff.mp z] at h ⊢
      simpa using h
  · refine q p _ (same_new hp) (SqT.of ?_)
    rw [upd_same]
    unfold cutV
    rw [HT.sIx_nat, HT.sIx_none, vNm_len, vNm_drop]
    congr 2
    rcases Nat.le_total k ns.length with z | z
    · rw [Nat.min_eq_left z, List.take_of_length_le (by simp [vNm])]
    · rw [Nat.min_eq_right z, Nat.sub_self, List.take_zero, List.drop_eq_nil_of_le z]
      rfl
theorem eqv_nm (a b : List Nat) : PyData.eqv (dNm a) (dNm b) = decide (a = b) := by
  unfold dNm
  rw [PyData.eqv]
  refine eqv_map _ a b fun x _ y _ => ?_
  rw [PyData.eqv, Bool.eq_iff_iff]
  simp only [beq_iff_eq, decide_eq_true_eq]
  omega
theorem shaped_nm (a : List Nat) : SeqAt.shaped (dNm a) = true := by
  have h : ∀ d ∈ a.map (fun (n : Nat) => PyData.int n), d.canLay0 = true ∧ d.depth ≤ 0 := fun d hd => by
    obtain ⟨n, _, rfl⟩ := List.mem_map.mp hd
    exact ⟨by simp [PyData.canLay0], by simp [PyData.depth]⟩
  refine shaped_of ?_ ?_
  · unfold dNm
    rw [PyData.canLay0]
    exact canLay_all fun e he => (h e he).1
  · unfold dNm
    rw [PyData.depth]
    have := depth_all (n := 0) fun e he => (h e he).2
    omega
/-- x == y of names -/
theorem eq_nm {H : Hp} {v u : V} {a b : List Nat} {Q : VK} (h1 : Dp K H v (dNm a)) (h2 : Dp K H u (dNm b)) (q : Q (.bl (decide (a = b))) H) : rEqD K v u H Q :=
  ⟨_, _, h1, h2, shaped_nm a, shaped_nm b, by rw [eqv_nm]; exact q⟩
theorem NmOk.take {rs : List (List Pm.Cut)} {ns : List Nat} (h : NmOk rs ns) (k : Nat) : NmOk rs (ns.take k) := fun i hi => by
  rw [List.length_take] at hi
  have := h i (by omega)
  rwa [List.getD_eq_getElem?_getD, List.getElem?_take_of_lt (by omega), ← List.getD_eq_getElem?_getD]
theorem NmOk.nil (rs : List (List Pm.Cut)) : NmOk rs [] := fun i hi => by simp at hi
/-! has_name_form, want_name -/
def sp_hasform (K : PySem.W.Frag) (C : Addr) : Sp := fun vs H Q _ => ∃ (v u : V) (rs : List (List Pm.Cut)) (ns : List Nat), vs = [v, u] ∧ PlanAt K C H v rs ∧ Dp K H u (dNm ns) ∧ NmOk rs ns ∧ ns.length ≤ 50000 ∧ ∀ H', Same H H' → Q (.bl true) H'
theorem c_hasform {K : PySem.W.Frag} {C : Addr} {v u : V} {rs : List (List Pm.Cut)} {ns : List Nat} {H : Hp} {Q : VK} {E : XK} (h0 : PlanAt K C H v rs) (h1 : Dp K H u (dNm ns)) (h2 : NmOk rs ns) (h3 : ns.length ≤ 50000) (q : ∀ H', Same H H' → Q (.bl true) H') : sp_hasform K C [v, u] H Q E := ⟨_, _, _, _, rfl, h0, h1, h2, h3, q⟩
theorem ok_hasform {f : Addr} {fd : FuncData} (F : Df K "has_name_form" "has_name_form" s_hasform [] f fd) (B : Blt mg) (cCo : Ca P w K mg base 2 "is_count" (sp_count K) []) (cPh : Ca P w K mg base 3 "phase_at" (sp_phaseat K C) []) (cSi : Me P w K mg base 5 C "signs" (sp_signs K C) []) :
    FnOk P w K mg base CX0 6 f fd ["plan", "value"] (sp_hasform K C) := by
  refine dfOk F sc_hasform (fun vs H Q E h => ?_) (fun cdv A outer s H vs Q E hr h => ?_)
  · obtain ⟨v, u, rs, ns, rfl, _⟩ := h
    rfl
  · obtain ⟨v, u, rs, ns, rfl, hp, hu, hok, hz, q⟩ := h
    obtain ⟨b, rfl, hs⟩ := nmE hu
    obtain ⟨a, dx, fs, rfl, ea, hl⟩ := plan_obj hp
    have l1 := hp.ok.1
    have hlen := vNm_len ns
    refine ⟨_, (pss_cons (ps_if (pt_not (pt_val (pe_callB call_isi' (by rfl) B.isinstance bt_isinstance (pa_cons (pv 1) (pa_cons (pe_bltn (v := .ty "tuple") (by rfl) B.tuple bt_tuple rfl) pa_nil)))))
  (pss_one (ps_ret pe_bl))
  pss_nil)
  (pss_one (ps_ret (pe_callB (cr_all rfl) (by rfl) B.all bt_all (pa_cons (pe_lc (own := [("at", 2), ("sign", 3)]) (by rfl) sc_hasform.nd (pi_enumA (by rfl) B.enumerate (pa_cons (pv 1) pa_nil)) (blkOk_by (own := [("at", 2), ("sign", 3)]) (N := ["plan", "value", "at", "sign"]) (sc := defScope s_hasform) (by decide +kernel)) (fun _ _ _ _ _ => (pg_tup' 2 (pgs_cons (pg_name (i := 2) sc_hasform.nd rfl (Or.inl rfl)) (pgs_cons (pg_name (i := 3) sc_hasform.nd rfl (Or.inl rfl)) pgs_nil)))) (fun _ _ _ _ _ => pts_nil) (fun _ _ _ _ _ => (pe_and (pe_ca cCo hr (by decide) (by rfl) (pa_cons (pv 3) pa_nil)) (pe_one (pe_cmpR op_lt (pv 3) (pe_me cSi hr (by decide) (pv 0) (pa_cons (pe_ca cPh hr (by decide) (by rfl) (pa_cons (pv 0) (pa_cons (pv 2) pa_nil))) pa_nil)) (nomark _)))))) pa_nil))))), ?_⟩
    refine ⟨_, rfl, _, _, _, _, true, rfl, .ty _, tyT hs, kit_ty (by decide +kernel), true, rfl, iteF ?_⟩
    refine ⟨_, rfl, false, b, _, rfl, hs, fun D hD => lc_nl (K := K) (walk_enumK (b := false) (xs := vNm ns)) (List.replicate (vNm ns).length (.bool true)) (by simp) (by omega) (NLs.of fun d hd => by rw [List.eq_of_mem_replicate hd]; rfl) hD (fun H' s' => Same.tup s' hs) ?_ ?_ gTup2_mono⟩
    · rintro i e x H1 H2 Q2 hi he s1 ⟨T, y, z, rfl, hT, rfl, hy, hz⟩ hq
      obtain rfl := Option.some.inj hy
      obtain ⟨hi', rfl⟩ := vNm_get hz
      obtain rfl : e = .bool true := List.eq_of_mem_replicate (List.mem_of_getElem? he)
      have sT := fun o => s1.trans (same_new (o := o) hT)
      have hph : i % rs.length < rs.length := Nat.mod_lt i l1
      have hsg := hok i hi'
      have hsg' : ns.getD i 0 < Pm.S rs (i % rs.length) := by unfold Pm.S; rw [rnd_mod]; exact hsg
      refine ⟨T, _, rfl, SqT.of upd_same, rfl, _, _, rfl, _, _, rfl, rfl, rfl, ?_⟩
      refine ⟨_, rfl, tnil (count_int (by omega) ⟨_, rfl, iteT ?_⟩)⟩
      refine ⟨_, rfl, _, rfl, a, dx, fs, rfl, sT _ _ _ ea, hl _ (by decide) (by decide) (by decide), _, rfl, _, rfl, _, rs, i, rfl, hp.same (sT _), _, rs, _, rfl, hp.same (sT _), hph, _, _, rfl, rfl, ?_⟩
      show Q2 (.bl (decide ((ns.getD i 0 : Nat) < ((Pm.S rs (i % rs.length) : Nat) : Int)))) _
      rw [decide_eq_true (show ((ns.getD i 0 : Nat) : Int) < ((Pm.S rs (i % rs.length) : Nat) : Int) by omega)]
      exact hq _ _ (same_new hT) (.bl true)
    · rintro H2 ys s2 eD hall
      have hys : ys = (List.replicate (vNm ns).length true).map V.bl := DpAll.boolsE (by rw [List.map_replicate]; exact hall)
      refine ⟨D, List.replicate (vNm ns).length true, rfl, SqL.of (by rw [eD, hys]), ?_⟩
      have e : (List.replicate (vNm ns).length true).all id = true := by simp
      rw [e]
      exact q _ s2
def sp_wantname (K : PySem.W.Frag) (C : Addr) : Sp := fun vs H Q _ => ∃ (v u : V) (rs : List (List Pm.Cut)) (ns : List Nat), vs = [v, u] ∧ PlanAt K C H v rs ∧ Dp K H u (dNm ns) ∧ NmOk rs ns ∧ ns.length ≤ 50000 ∧ ∀ H', Same H H' → Q .non H'
theorem c_wantname {K : PySem.W.Frag} {C : Addr} {v u : V} {rs : List (List Pm.Cut)} {ns : List Nat} {H : Hp} {Q : VK} {E : XK} (h0 : PlanAt K C H v rs) (h1 : Dp K H u (dNm ns)) (h2 : NmOk rs ns) (h3 : ns.length ≤ 50000) (q : ∀ H', Same H H' → Q .non H') : sp_wantname K C [v, u] H Q E := ⟨_, _, _, _, rfl, h0, h1, h2, h3, q⟩
theorem ok_wantname {f : Addr} {fd : FuncData} (F : Df K "want_name" "want_name" s_wantname [] f fd) (cHf : Ca P w K mg base 6 "has_name_form" (sp_hasform K C) []) : FnOk P w K mg base CX0 7 f fd ["plan", "value"] (sp_wantname K C) := by
  refine dfOk F sc_wantname (fun vs H Q E h => ?_) (fun cdv A outer s H vs Q E hr h => ?_)
  · obtain ⟨v, u, rs, ns, rfl, _⟩ := h
    rfl
  · obtain ⟨v, u, rs, ns, rfl, hp, hu, hok, hz, q⟩ := h
    refine ⟨_, (pss_one (ps_if (pt_not (pt_val (pe_ca cHf hr (by decide) (by rfl) (pa_cons (pv 0) (pa_cons (pv 1) pa_nil)))))
  pss_never
  pss_nil)), ?_⟩
    exact ⟨_, rfl, _, rfl, v, u, rs, ns, rfl, hp, hu, hok, hz, fun H1 s1 => ⟨_, rfl, iteF (q _ s1)⟩⟩
/-! want_two, begins_with, common -/
/-- how far two rows go together -/
def cpl : List Nat → List Nat → Nat
  | a :: as, b :: bs => if a = b then cpl as bs + 1 else 0
  | _, _ => 0
theorem cpl_le : ∀ a b : List Nat, cpl a b ≤ a.length ∧ cpl a b ≤ b.length
  | [], _ => by simp [cpl]
  | _ :: _, [] => by simp [cpl]
  | x :: a, y :: b => by
    have := cpl_le a b
    simp only [cpl, List.length_cons]
    split <;> omega
theorem cpl_eq : ∀ (a b : List Nat) (k : Nat), k < cpl a b → a.getD k 0 = b.getD k 0
  | [], _, k, h => by simp [cpl] at h
  | _ :: _, [], k, h => by simp [cpl] at h
  | x :: a, y :: b, k, h => by
    simp only [cpl] at h
    split at h
    · cases k with
      | zero => simpa
      | succ k => simpa using cpl_eq a b k (by omega)
    · omega
theorem cpl_ne : ∀ (a b : List Nat), cpl a b < a.length → cpl a b < b.length → a.getD (cpl a b) 0 ≠ b.getD (cpl a b) 0
  | [], _, h, _ => by simp [cpl] at h
  | _ :: _, [], _, h => by simp [cpl] at h
  | x :: a, y :: b, h1, h2 => by
    simp only [cpl] at h1 h2 ⊢
    split
    · rename_i e
      rw [if_pos e] at h1 h2
      simp only [List.length_cons] at h1 h2
      simpa using cpl_ne a b (by omega) (by omega)
    · rename_i e
      simpa
end
end T
set_option Elab.async false
set_option maxRecDepth 100000
set_option maxHeartbeats 4000000
namespace Mv
open PySem PySem.Spec PyProof.Rows L2
/-- a pot: two counts -/
structure Pot (H : Hp) (p : Addr) : Prop where
  ex : ∃ x y : Int, H p = some (.lst [.int x, .int y]) ∧ 0 ≤ x ∧ 0 ≤ y ∧ y < 2147483648
theorem Pot.new {H : Hp} {p q : Addr} {o : HO} (h : Pot H p) (hq : H q = none) : Pot (upd H q o) p := by
  obtain ⟨x, y, e, r⟩ := h.ex
  exact ⟨x, y, by rw [upd_ne (ne_of_none e hq)]; exact e, r⟩
theorem Pot.ne {H : Hp} {p q : Addr} (h : Pot H p) (hq : H q = none) : q ≠ p := by
  obtain ⟨x, y, e, _⟩ := h.ex
  exact (ne_of_none e hq).symm
theorem Pot.same {H H' : Hp} {p : Addr} (h : Pot H p) (s : Same H H') : Pot H' p := by
  obtain ⟨x, y, e, r⟩ := h.ex
  exact ⟨x, y, s _ _ e, r⟩
theorem Pot.lst {H : Hp} {p : Addr} (h : Pot H p) : ∃ ys, H p = some (.lst ys) := by
  obtain ⟨x, y, e, _⟩ := h.ex
  exact ⟨_, e⟩
theorem _root_.L2.Bu.free {p q : Addr} {H H' : Hp} (b : Bu p H H') (hp : q ≠ p) (h : H' q = none) : H q = none := by
  cases e : H q with
  | none => rfl
  | some o => rw [b q o hp e] at h; cases h
theorem _root_.L2.Bu.seqL {K : PySem.W.Frag} {p l : Addr} {H H' : Hp} {xs : List V} (b : Bu p H H') (hl : l ≠ p) (h : SqL K H l xs) : SqL K H' l xs := by
  rcases h with (h | ⟨o, h⟩) | h
  · exact .inl (.inl (b _ _ hl h))
  · exact .inl (.inr ⟨o, b _ _ hl h⟩)
  · exact .inr h
theorem small_pow {n : Nat} (h : n ≤ 1000) : n < 2 ^ 8000 := Nat.lt_of_le_of_lt h (Nat.lt_of_lt_of_le (by decide : 1000 < 2 ^ 10) (Nat.pow_le_pow_right (by decide) (by decide)))
theorem log_small {n : Nat} (h : n ≤ 1000000000000000000) : n.log2 < 9000 := by
  rcases Nat.eq_zero_or_pos n with z | z
  · subst z; decide
  · exact (Nat.log2_lt (by omega)).mpr (Nat.lt_of_le_of_lt h (Nat.lt_of_lt_of_le (by decide : 1000000000000000000 < 2 ^ 60) (Nat.pow_le_pow_right (by decide) (by decide))))
/-! the promises of pot, draw and pick -/
def sp_pot (K : PySem.W.Frag) : Sp := fun vs H Q _ => ∃ (a : Addr) (ns : List Int) (k : Nat), vs = [.ref a, .int k] ∧ SqL K H a (ns.map V.int) ∧ k < 100 ∧
  ∀ p, H p = none → ∀ x y : Int, 0 ≤ x → 0 ≤ y → y < 2147483648 → Q (.ref p) (upd H p (.lst [.int x, .int y]))
/-- a draw below n -/
def sp_draw : Sp := fun vs H Q _ => ∃ (p : Addr) (n : Int), vs = [.ref p, .int n] ∧ Pot H p ∧ 0 < n ∧ n.natAbs ≤ 1000000000000000000 ∧ ∀ (d : Nat) (H' : Hp), (d : Int) < n → Pot H' p → Bu p H H' → Q (.int d) H'
def sp_pick (K : PySem.W.Frag) : Sp := fun vs H Q _ => ∃ (p l : Addr) (xs : List V), vs = [.ref p, .ref l] ∧ Pot H p ∧ l ≠ p ∧ SqL K H l xs ∧ xs ≠ [] ∧ xs.length ≤ 1000 ∧ ∀ (v : V) (H' : Hp), v ∈ xs → Pot H' p → Bu p H H' → Q v H'
end Mv
set_option Elab.async false
set_option maxRecDepth 100000
set_option maxHeartbeats 4000000
namespace Mv
open PySem PySem.Spec PyProof.Rows L2
/-- C(*e), C a class with a positional promise -/
def tMakeS (K : PySem.W.Frag) (C : Addr) (sp : Sp) (te : TE) : TE := fun σ H Q => te σ H fun y H1 => ∃ a xs, y = V.ref a ∧ (SqT K H1 a xs ∨ SqL K H1 a xs) ∧ ∀ x dx, H1 x = Option.none → H1 dx = Option.none → dx ≠ x →
  sp (V.ref x :: xs) (upd (upd H1 dx (.own x)) x (.ins C dx [])) (fun v H2 => v = .non ∧ Q (.ref x) H2) E0
section
variable {X : Cx} {k j : Nat} {C : Addr} {x : Str} {sp : Sp} {p pos sp_ : Pos} {e : Expr} {te : TE}
theorem pe_marS (c : MaR X.prog X.w X.K X.mg X.base k x C sp) (hr : Room j X.A) (hk : k + 1 ≤ j) (hg : Gl X x) (he : PE X e te) (hd : (x == ("__debug__" : Str)) = false := by decide)
    (hst : starEach [.Starred e sp_] X.env = [(true, eval e X.env)] := by rfl) :
    PE X (.Call (.Name x p) [.Starred e sp_] [] pos) (tMakeS X.K C sp te) := by
  obtain ⟨f, M, F, hm⟩ := c.ex
  refine ⟨fun pins s σ H Q I h => ?_⟩
  refine wpAny_Call_Name_kw (ld_glob I hg hm ?_ hd)
  refine PySem.W.callWith_S (h₀ := X.base) I.ok.mod.kin M.kp (thn (he.run pins s σ H _ I h) fun v s1 ⟨y, H1, I1, ry, a, xs, ey, hxs, q⟩ => ?_) hst
  subst ey
  obtain rfl : v = Value.ref a := ry
  exact StX.star_any I1 hxs fun us s2 I2 rv => ⟨I2.kIn, StX.run_makeR M F (hr.mono hk) pass0 I2 rv q⟩
end
end Mv
set_option Elab.async false
set_option maxRecDepth 100000
set_option maxHeartbeats 4000000
namespace HT
open PySem PySem.Spec PyProof.Rows
section
variable {prog : Program} {w : World} {A : Around} {E : Value → Shared → Prop} {s : Shared}
/-- t[::-1] of a tuple -/
theorem getItem_tuple_rev {t sl : Addr} {items : Array Value} {vl vu vs : Value} {Q : Value → Shared → Prop} (ht : IsTup s.heap t items) (hs : s.heap.IsSliceOf sl vl vu vs) (pl : IsPart vl none) (pu : IsPart vu none) (ps : IsPart vs (some (-1)))
    (h : Q (.ref s.heap.objs.size) { s with heap := s.heap.push { cls := .type "tuple", data := .seq items.toList.reverse.toArray } })
    (hsz : items.size ≤ sizeLine) : wpAny (model prog w) A (getItem (.ref t) (.ref sl)) Q E s := by
  have htake : sizeOk (.seq items.toList.reverse.toArray) := by
    show items.toList.reverse.toArray.size ≤ sizeLine
    simpa using hsz
  obtain ⟨os, hos, hcs, hds⟩ := id hs
  have hTs : s.TypeIs (.ref sl) "slice" := ⟨os, hos, hcs⟩
  unfold getItem
  try with_reducible refine wpAny_holding ?_
  first | refine wpAny_bind (wpAny_pure ?_) | skip
  refine wpAny_bind (wpAny_sequenceKey ht.typeIs (by decide) ?_)
  refine wpAny_bind (wpAny_callSpecial?_slot (name := Str.ofString "__getitem__") ht.typeIs PyProof.Rows.slot_tuple_getitem
    (wpAny_call_entry PyProof.Rows.slot_tuple_getitem ht.typeIs entry_tuple_getitem ?_ (args_tuple_getitem _ _)))
  show wpAny _ _ (Builtin.Tuple.tupleItemsOf (.ref t) >>= _) _ _ s
  refine wpAny_bind (tupleItemsOf_ ht ?_)
  refine wpAny_bind (wpAny_typeOf hTs ?_)
  rw [if_pos (by decide)]
  have ap : ∀ {Q : Int × Int × Nat → Shared → Prop} {E : Value → Shared → Prop} {A : Around}, Q (((items.size : Nat) : Int) - 1, -1, items.size) s → wpAny (model prog w) A (Builtin.Slice.sliceApplied (.ref sl) (pure (items.size : Int))) Q E s := by
    intro Q E A h
    unfold Builtin.Slice.sliceApplied Builtin.Slice.sliceFields
    refine wpAny_bind (wpAny_bind (wpAny_field hos hds (x := vl) rfl (wpAny_bind (wpAny_field hos hds (x := vu) rfl (wpAny_bind (wpAny_field hos hds (x := vs) rfl (wpAny_pure ?_)))))))
    refine wpAny_bind (slicePart_ ps ?_)
    show wpAny _ _ (if ((-1 : Int) == 0) = true then _ else _) _ _ s
    rw [if_neg (by decide)]
    refine wpAny_bind (slicePart_ pl (wpAny_bind (slicePart_ pu (wpAny_bind (wpAny_pure ?_)))))
    show wpAny _ _ (pure (((items.size : Nat) : Int) - 1, (-1 : Int), Builtin.Slice.slicePlaces (((items.size : Nat) : Int) - 1) (-1) (-1))) _ _ s
    have e : Builtin.Slice.slicePlaces (((items.size : Nat) : Int) - 1) (-1) (-1) = items.size := by
      unfold Builtin.Slice.slicePlaces
      rw [if_neg (by decide)]
      by_cases h0 : ((items.size : Nat) : Int) - 1 > -1
      · rw [if_pos h0, show (- -1 : Int) = 1 by decide, Int.ediv_one]
        omega
      · rw [if_neg h0]
        omega
    rw [e]
    exact wpAny_pure h
  refine wpAny_bind (ap ?_)
  show wpAny _ _ (if ((((items.size : Nat) : Int) - 1) == 0 && (-1 : Int) == 1 && items.size == items.size) = true then _ else _) _ _ s
  rw [if_neg (by simp)]
  have pk : ((List.range items.size).filterMap fun (k : Nat) => items[(((items.size : Nat) : Int) - 1 + (k : Int) * (-1)).toNat]?).toArray = items.toList.reverse.toArray := by
    have := PySem.W.krv_pick items
    unfold slicePick at this
    rw [← this, PySem.W.krv_bounds]
    show _ = ((sliceRange ((items.size : Int) - 1) (-1) (-1)).filterMap (items[·]?)).toArray
    rw [PySem.W.krv_sliceRange, List.filterMap_map]
    congr 1
    have cg : ∀ (l : List Nat) (f g : Nat → Option Value), (∀ k ∈ l, f k = g k) → l.filterMap f = l.filterMap g := by
      intro l f g h
      induction l with
      | nil => rfl
      | cons a l ih => rw [List.filterMap_cons, List.filterMap_cons, h a (List.mem_cons_self ..), ih fun k hk => h k (List.mem_cons_of_mem _ hk)]
    refine cg _ _ _ fun k hk => ?_
    have := List.mem_range.mp hk
    show items[_]? = items[items.size - 1 - k]?
    congr 1
    omega
  rw [pk]
  first
    | exact wpAny_bind (m := Builtin.Tuple.tupleExact _) (wpAny_newObj_type (wpAny_pure ⟨_, rfl, wpAny_pure h⟩) htake)
    | exact wpAny_bind (m := Builtin.Tuple.tupleExact _) (wpAny_newObj_type (wpAny_bind (wpAny_pure (wpAny_pure ⟨_, rfl, wpAny_pure h⟩))) htake)
    | exact wpAny_bind (wpAny_bind (m := Builtin.Tuple.tupleExact _) (wpAny_newObj_type (wpAny_pure (wpAny_pure ⟨_, rfl, wpAny_pure h⟩)) htake))
    | exact wpAny_bind (wpAny_bind (m := Builtin.Tuple.tupleExact _) (wpAny_newObj_type (wpAny_pure ⟨_, rfl, wpAny_pure h⟩) htake))
end
end HT
namespace Mv
open PySem PySem.Spec PyProof.Rows L2
/-- t[::-1] of a tuple: a new tuple -/
def tRevT (K : PySem.W.Frag) (te : TE) : TE := fun σ H Q => te σ H fun x H1 => ∃ a xs, x = .ref a ∧ SqT K H1 a xs ∧ ∀ p, H1 p = none → Q (.ref p) (upd H1 p (.tup xs.reverse))
theorem pe_revT {X : Cx} {e : Expr} {te : TE} {k : Nat} {p1 p2 p3 pos : Pos} (he : PE X e te) : PE X (.Subscript e (.Slice none none (some (.UnaryOp .USub (.Constant (.int 1) k p1) p2)) p3) pos) (tRevT X.K te) := by
  refine ⟨fun pins s σ H Q I h => ?_⟩
  refine Subscript_ (thn (he.run pins s σ H _ I h) fun v s1 ⟨x, H1, I1, r1, q1⟩ => ?_)
  obtain ⟨a, xs, ex, hx, q⟩ := q1
  subst ex
  cases r1
  have hst : PO X (some (.UnaryOp .USub (.Constant (.int 1) k p1) p2)) (tPart (tUn (rU fun i => .int (-i)) (tC (.int 1)))) := po_some (pe_un un_neg pe_int)
  refine wpAny_Slice (thn (po_none.run pins s1 σ H1 (fun o H2 => o = none ∧ H2 = H1) I1 ⟨rfl, rfl⟩) fun vl s2 ⟨l, H2, I2, pl, el, e2⟩ => ?_)
  subst el e2
  refine thn (po_none.run pins s2 σ H2 (fun o H3 => o = none ∧ H3 = H2) I2 ⟨rfl, rfl⟩) fun vu s3 ⟨u, H3, I3, pu, eu, e3⟩ => ?_
  subst eu e3
  refine thn (hst.run pins s3 σ H3 (fun o H4 => o = some (-1) ∧ H4 = H3) I3 ⟨1, rfl, -1, rfl, rfl, rfl⟩) fun vs s4 ⟨o, H4, I4, ps, eo, e4⟩ => ?_
  subst eo e4
  have I5 : Inv X pins σ H4 { s4 with heap := s4.heap.push { cls := .type "slice", data := .fields #[vl, vu, vs] } } := I4.kept (t' := s4.toks) fun b ob q => Heap.get?_push_of_some _ q
  obtain ⟨its, r, ht, hz⟩ := I5.tuple hx
  have hlen := r.length
  show wpAny (model X.prog X.w) X.A (subscriptTail e (.Slice none none (some (.UnaryOp .USub (.Constant (.int 1) k p1) p2)) p3) (.ref a) (.ref s4.heap.objs.size)) (EP X pins σ Q) X.xe { s4 with heap := s4.heap.push { cls := .type "slice", data := .fields #[vl, vu, vs] } }
  refine tail_any (ops := [.ref a, .ref s4.heap.objs.size]) ht.typeIs (PyProof.Rows.slot_tuple_getitem.lookup) ?_ (by with_unfolding_all rfl)
  refine HT.getItem_tuple_rev ht (Heap.IsSliceOf.new _ vl vu vs) pl pu ps ?_ (by rw [List.size_toArray]; omega)
  refine ⟨.ref _, _, I5.laid (t' := s4.toks) (o := .tup xs.reverse) (fun b ob q => Heap.get?_push_of_some _ q) (Nat.le_refl _) ?_, rfl, q _ (I5.hok.fresh (Nat.le_refl _))⟩
  refine ⟨by rw [List.length_reverse]; exact hz, _, r.reverse, ?_⟩
  exact IsTup.new _ _
end Mv
set_option Elab.async false
set_option maxRecDepth 100000
set_option maxHeartbeats 4000000
namespace Mv
open PySem PySem.Spec PyProof.Rows L2
/-- a def that an operator of the class at C finds -/
structure Op3 (P : Program) (w : World) (K : PySem.W.Frag) (mg : Str → Option Value) (base : Heap) (k : Nat) (C : Addr) (m : Str) (sp : Sp) : Prop where
  ex : ∃ (g : Addr) (fd : FuncData) (ps : List Str), FnOk P w K mg base CX0 k g fd ps sp ∧ Binds K fd ps [] ∧ PySem.W.findIn K (.ref C) m = some (some (.ref g)) ∧ PySem.W.isFn K (.ref g) = true ∧ PySem.W.fnIn K g = true
  sf : PySem.W.selfFirst K C = true
  ns : PySem.W.noSeq K C = true
section
variable {X : Cx} {k : Nat} {C : Addr} {sp : Sp} {m : Str}
/-- x op= y, x an instance with its own method -/
def rInst (C : Addr) (sp : Sp) : R2 := fun x y H Q => ∃ a dx fs, x = .ref a ∧ H a = some (.ins C dx fs) ∧ sp [x, y] H Q E0
theorem ip_own {op : Operator} (c : Op3 X.prog X.w X.K X.mg X.base k C m sp) (hr : Room k X.A) (hm : PySem.dunderI op.info.2 = m := by decide +kernel) : PIp X op (rInst C sp) := by
  obtain ⟨g, fd, ps, F, hb, hs, hf, _⟩ := c.ex
  intro pins s σ H x y v u Q I rx ry h
  obtain ⟨a, dx, fs, rfl, ea, q⟩ := h
  obtain rfl : v = Value.ref a := rx
  obtain ⟨mA, O, _⟩ := ins_get I.hok ea
  obtain ⟨od, J, _⟩ := O.look
  obtain ⟨mm, hF⟩ := I.fr
  subst hm
  refine PySem.W.ksp_inplace hF I.ok.mod.kin J c.sf hs hf ?_
  refine wpAny_mono (run_at (vs := [.ref a, y]) F hr I.ok.frames hb I (.cons rfl (.cons ry .nil)) q) (fun w s' z => ?_) fun _ _ x => x
  obtain ⟨z', H', I', rz, qz⟩ := z
  exact SlX.cmpback rz ⟨z', H', I', rz, qz⟩
/-- x op y of two instances of one class -/
def rBinO (K : PySem.W.Frag) (C : Addr) (sp : Sp) : R2 := fun x y H Q => ∃ a dx fs, x = .ref a ∧ H a = some (.ins C dx fs) ∧ TyX K H y (.ref C) ∧ sp [x, y] H Q E0
theorem op_binO {op : Operator} (c : Op3 X.prog X.w X.K X.mg X.base k C m sp) (hr : Room k X.A) (hm : PySem.dunder op.info.2 = m := by decide +kernel) : OpR X (binaryOp op) (rBinO X.K C sp) := by
  obtain ⟨g, fd, ps, F, hb, hs, hf, _⟩ := c.ex
  intro pins s σ H x y v u Q I rx ry h
  obtain ⟨a, dx, fs, rfl, ea, ty, q⟩ := h
  obtain rfl : v = Value.ref a := rx
  obtain ⟨mA, O, _⟩ := ins_get I.hok ea
  obtain ⟨od, J, _⟩ := O.look
  obtain ⟨mm, hF⟩ := I.fr
  obtain ⟨P, kx, hP, _⟩ := kit_of I ry ty
  subst hm
  refine PySem.W.binop_K hF I.ok.mod.kin J (kx.ty _ _ I.kIn hP) c.sf hs hf ?_
  refine wpAny_mono (run_at (vs := [.ref a, y]) F hr I.ok.frames hb I (.cons rfl (.cons ry .nil)) q) (fun w s' z => ?_) fun _ _ x => x
  obtain ⟨z', H', I', rz, qz⟩ := z
  exact SlX.cmpback rz ⟨z', H', I', rz, qz⟩
/-- x op i, i an int -/
def rBinI (C : Addr) (sp : Sp) : R2 := fun x y H Q => ∃ a dx fs i, x = .ref a ∧ y = .int i ∧ H a = some (.ins C dx fs) ∧ sp [x, y] H Q E0
theorem op_binI {op : Operator} {fo ro rc : Option Value} (c : Op3 X.prog X.w X.K X.mg X.base k C m sp) (hr : Room k X.A) (hr2 : PySem.W.findIn X.K (.ref C) (PySem.dunderR op.info.2) = some rc) (hp : rc = none ∨ ∃ g : Addr, rc = some (.ref g))
    (h1 : PySem.W.findIn X.K (.type "int") (PySem.dunder op.info.2) = some fo) (h2 : PySem.W.findIn X.K (.type "int") (PySem.dunderR op.info.2) = some ro) (hsub : PySem.W.subIn X.K (.type "int") (.ref C) = some false) (hm : PySem.dunder op.info.2 = m := by decide +kernel) : OpR X (binaryOp op) (rBinI C sp) := by
  obtain ⟨g, fd, ps, F, hb, hs, hf, _⟩ := c.ex
  intro pins s σ H x y v u Q I rx ry h
  obtain ⟨a, dx, fs, i, rfl, rfl, ea, q⟩ := h
  obtain rfl : v = Value.ref a := rx
  obtain ⟨mA, O, _⟩ := ins_get I.hok ea
  obtain ⟨od, J, _⟩ := O.look
  obtain ⟨mm, hF⟩ := I.fr
  have ry' := ry
  obtain ⟨tk, rfl⟩ := ry'
  subst hm
  refine PySem.W.ksp_binT (T := "int") hF I.ok.mod.kin J rfl c.sf hs hf hr2 hp h1 h2 hsub ?_
  refine wpAny_mono (run_at (vs := [.ref a, .int i]) F hr I.ok.frames hb I (.cons rfl (.cons ry .nil)) q) (fun w s' z => ?_) fun _ _ x => x
  obtain ⟨z', H', I', rz, qz⟩ := z
  exact SlX.cmpback rz ⟨z', H', I', rz, qz⟩
/-- - x -/
def rNegO (C : Addr) (sp : Sp) : V → Hp → VK → Prop := fun x H Q => ∃ a dx fs, x = .ref a ∧ H a = some (.ins C dx fs) ∧ sp [x] H Q E0
theorem un_negO (c : Op3 X.prog X.w X.K X.mg X.base k C "__neg__" sp) (hr : Room k X.A) : UnR X (unaryOp .USub) (rNegO C sp) := by
  obtain ⟨g, fd, ps, F, hb, hs, hf, _⟩ := c.ex
  intro pins s σ H x v Q I rx h
  obtain ⟨a, dx, fs, rfl, ea, q⟩ := h
  obtain rfl : v = Value.ref a := rx
  obtain ⟨mA, O, _⟩ := ins_get I.hok ea
  obtain ⟨od, J, _⟩ := O.look
  obtain ⟨mm, hF⟩ := I.fr
  refine PySem.W.ksp_neg hF I.ok.mod.kin J hs hf ?_
  exact run_at (vs := [.ref a]) F hr I.ok.frames hb I (.cons rfl .nil) q
/-- x[i] by an own __getitem__ -/
theorem pe_ixO {a b : Expr} {ta tb : TE} {pos : Pos} (c : Op3 X.prog X.w X.K X.mg X.base k C "__getitem__" sp) (hr : Room (k + 1) X.A) (ha : PE X a ta) (hb : PE X b tb)
    (hsl : ∀ (x : Addr) (u : Value), subscripted b true (.ref x) u = runValue (.builtin "lifetime.subscript" ⟨[.ref x, u], []⟩) := by intros; with_unfolding_all rfl) : PE X (.Subscript a b pos) (tOp (rInst C sp) ta tb) := by
  obtain ⟨g, fd, ps, F, hbn, hs, hf, hfn⟩ := c.ex
  refine ⟨fun pins s σ H Q I h => ?_⟩
  refine Subscript_ (binT ha hb I h fun v u s2 x y H2 I2 rx ry q => ?_)
  obtain ⟨p, dx, fs, rfl, ea, q⟩ := q
  obtain rfl : v = Value.ref p := rx
  obtain ⟨mA, O, _⟩ := ins_get I2.hok ea
  obtain ⟨od, J, _⟩ := O.look
  obtain ⟨mm, hF⟩ := I2.fr
  refine PySem.W.sub_K hF I2.ok.mod.kin J hs hfn hf ?_ (hsl p u)
  exact run_at (vs := [.ref p, y]) F hr.in1 I2.ok.frames hbn I2 (.cons rfl (.cons ry .nil)) q
/-- x[i] = v by an own __setitem__ -/
theorem set_own (c : Op3 X.prog X.w X.K X.mg X.base k C "__setitem__" sp) (hr : Room k X.A) : PSet X (fun o i v H Q => ∃ a dx fs, o = .ref a ∧ H a = some (.ins C dx fs) ∧ sp [o, i, v] H (fun _ H' => Q H') E0) := by
  obtain ⟨g, fd, ps, F, hb, hs, hf, _⟩ := c.ex
  intro pins s σ H o i v ov iv u Q I ro ri rv h
  obtain ⟨a, dx, fs, rfl, ea, q⟩ := h
  obtain rfl : ov = Value.ref a := ro
  obtain ⟨mA, O, _⟩ := ins_get I.hok ea
  obtain ⟨od, J, _⟩ := O.look
  obtain ⟨mm, hF⟩ := I.fr
  refine PySem.W.ksp_setItem hF I.ok.mod.kin J c.ns hs hf ?_
  refine wpAny_mono (run_at (vs := [.ref a, i, v]) F hr I.ok.frames hb I (.cons rfl (.cons ri (.cons rv .nil))) q) (fun w s' z => ?_) fun _ _ x => x
  obtain ⟨z', H', I', rz, qz⟩ := z
  exact ⟨H', I', qz⟩
end
section
variable {X : Cx} {P : Program} {w : World} {K : PySem.W.Frag} {mg : Str → Option Value} {base : Heap} {k j : Nat} {C : Addr} {sp : Sp} {m : Str}
theorem ip_own' {op : Operator} (c : Op3 P w K mg base k C m sp) (hr : Room j X.A) (hk : k ≤ j) (hm : PySem.dunderI op.info.2 = m := by decide +kernel) (e : Over X P w K mg base := by exact ⟨rfl, rfl, rfl, rfl, rfl⟩) : PIp X op (rInst C sp) := by
  obtain ⟨rfl, rfl, rfl, rfl, rfl⟩ := e
  exact ip_own c (hr.mono hk) hm
theorem op_binO' {op : Operator} (c : Op3 P w K mg base k C m sp) (hr : Room j X.A) (hk : k ≤ j) (hm : PySem.dunder op.info.2 = m := by decide +kernel) (e : Over X P w K mg base := by exact ⟨rfl, rfl, rfl, rfl, rfl⟩) : OpR X (binaryOp op) (rBinO K C sp) := by
  obtain ⟨rfl, rfl, rfl, rfl, rfl⟩ := e
  exact op_binO c (hr.mono hk) hm
theorem un_negO' (c : Op3 P w K mg base k C "__neg__" sp) (hr : Room j X.A) (hk : k ≤ j) (e : Over X P w K mg base := by exact ⟨rfl, rfl, rfl, rfl, rfl⟩) : UnR X (unaryOp .USub) (rNegO C sp) := by
  obtain ⟨rfl, rfl, rfl, rfl, rfl⟩ := e
  exact un_negO c (hr.mono hk)
theorem pe_ixO' {a b : Expr} {ta tb : TE} {pos : Pos} (c : Op3 P w K mg base k C "__getitem__" sp) (hr : Room j X.A) (hk : k + 1 ≤ j) (ha : PE X a ta) (hb : PE X b tb)
    (hsl : ∀ (x : Addr) (u : Value), subscripted b true (.ref x) u = runValue (.builtin "lifetime.subscript" ⟨[.ref x, u], []⟩) := by intros; with_unfolding_all rfl) (e : Over X P w K mg base := by exact ⟨rfl, rfl, rfl, rfl, rfl⟩) : PE X (.Subscript a b pos) (tOp (rInst C sp) ta tb) := by
  obtain ⟨rfl, rfl, rfl, rfl, rfl⟩ := e
  exact pe_ixO c (hr.mono hk) ha hb hsl
theorem set_own' (c : Op3 P w K mg base k C "__setitem__" sp) (hr : Room j X.A) (hk : k ≤ j) (e : Over X P w K mg base := by exact ⟨rfl, rfl, rfl, rfl, rfl⟩) : PSet X (fun o i v H Q => ∃ a dx fs, o = .ref a ∧ H a = some (.ins C dx fs) ∧ sp [o, i, v] H (fun _ H' => Q H') E0) := by
  obtain ⟨rfl, rfl, rfl, rfl, rfl⟩ := e
  exact set_own c (hr.mono hk)
end
end Mv
set_option Elab.async false
set_option maxRecDepth 100000
set_option maxHeartbeats 4000000
/-! Readings step by step, led by the goal's head: each go_x takes one combinator away. Facts are carried to a later heap by the up_x. -/
namespace Mv
open PySem PySem.Spec PyProof.Rows L2
section
variable {X : Cx} {K : PySem.W.Frag}
theorem op_catA' (e : X.K = K := by (conv => lhs; whnf)) : OpR X (binaryOp .Add) (rCatA K) := by
  subst e
  exact op_catA
theorem sl_list' (e : X.K = K := by (conv => lhs; whnf)) : SlR X (rSlL K) := by
  subst e
  exact sl_list
theorem pe_fld' {a : Expr} {f : Str} {pos : Pos} {ta : TE} (he : PE X a ta) (hb : attributeBase a f X.env (eval a X.env) = eval a X.env) (e : X.K = K := by (conv => lhs; whnf)) : PE X (.Attribute a f pos) (tFld K ta f) := by
  subst e
  exact pe_fld he hb
theorem cr_all' (hc : X.calm = true) (e : X.K = K := by (conv => lhs; whnf)) : CallR X (.builtin "all") (rAll K) := by
  subst e
  exact cr_all hc
theorem cr_any' (hc : X.calm = true) (e : X.K = K := by (conv => lhs; whnf)) : CallR X (.builtin "any") (rAny K) := by
  subst e
  exact cr_any hc
end
/-- a value that is a bool, an int -/
def AsB (Q : Bool → Hp → Prop) : VK := fun x H => ∃ c, x = .bl c ∧ Q c H
def AsI (Q : Int → Hp → Prop) : VK := fun x H => ∃ i, x = .int i ∧ Q i H
def Par2 (i j : Nat) (n : L2.St → Hp → Prop) (σ : L2.St) : List V → Hp → Prop := fun vs H1 => ∃ v w, vs = [v, w] ∧ n ((σ.set i (some v)).set j (some w)) H1
/-- a new tuple, a new list -/
def NewT (Q : VK) : List V → Hp → Prop := fun xs H1 => xs.length ≤ sizeLine ∧ ∀ p, H1 p = none → Q (.ref p) (upd H1 p (.tup xs))
def NewL (Q : VK) : List V → Hp → Prop := fun xs H1 => xs.length ≤ sizeLine ∧ ∀ p, H1 p = none → Q (.ref p) (upd H1 p (.lst xs))
def MeR (C : Addr) (m : Str) (sp : Sp) (dvs : List V) (E : XK) (t : TA) (σ : L2.St) (Q : VK) : VK := fun x H1 => ∃ a dx fs, x = .ref a ∧ H1 a = some (.ins C dx fs) ∧ fs.lookup m = none ∧ t σ H1 fun vs H2 => sp (x :: (vs ++ dvs)) H2 Q E
def PrR (C : Addr) (sp : Sp) (dvs : List V) (E : XK) (Q : VK) : VK := fun x H1 => ∃ a dx fs, x = .ref a ∧ H1 a = some (.ins C dx fs) ∧ sp (.ref a :: dvs) H1 Q E
def FlR (K : PySem.W.Frag) (f : Str) (Q : VK) : VK := fun x H1 => ∃ a C dx fs v, x = .ref a ∧ H1 a = some (.ins C dx fs) ∧ Cls K C ∧ NoAttr K C f ∧ fs.lookup f = some v ∧ Q v H1
theorem cutF (xs : List V) (k : Nat) : cutV xs (some (k : Int)) none = xs.drop k := by
  unfold cutV
  rw [HT.sIx_nat, HT.sIx_none]
  rcases Nat.le_total k xs.length with z | z
  · rw [Nat.min_eq_left z, List.take_of_length_le (by simp)]
  · rw [Nat.min_eq_right z, Nat.sub_self, List.take_zero, List.drop_eq_nil_of_le z]
theorem cutT (xs : List V) (k : Nat) : cutV xs none (some (k : Int)) = xs.take k := by
  unfold cutV
  rw [HT.sIx_nat, HT.sIx_none, List.drop_zero, Nat.sub_zero]
  rcases Nat.le_total k xs.length with z | z
  · rw [Nat.min_eq_left z]
  · rw [Nat.min_eq_right z, List.take_length, List.take_of_length_le z]
section
variable {K : PySem.W.Frag} {C : Addr} {f m : Str} {σ σ' : L2.St} {H H' : Hp} {Q : VK} {QB : Bool → Hp → Prop} {QL : List V → Hp → Prop} {QS n b c : L2.St → Hp → Prop} {v x y w : V} {vs xs ys dvs : List V} {ta tb tc te : TE} {t tr : TA} {tt tu : TT} {ts tu' : TS} {g : TG} {r r' : R2} {sp : Sp} {E : XK} {a p q : Addr}
theorem go_var {i : Nat} (h : σ[i]? = some (some v)) (q : Q v H) : tVar i σ H Q := ⟨v, h, q⟩
theorem go_start {N : List Str} {D : Ends} (e : start N vs = σ) (q : ts D σ H) : ts D (start N vs) H := e ▸ q
theorem go_c (q : Q v H) : tC v σ H Q := q
theorem go_cN {n : Nat} (q : Q (.int ((@OfNat.ofNat Nat n (instOfNatNat n) : Nat) : Int)) H) : tC (.int (@OfNat.ofNat Int n (@instOfNat n))) σ H Q := q
theorem go_op (q : ta σ H fun x H1 => tb σ H1 fun y H2 => r x y H2 Q) : tOp r ta tb σ H Q := q
theorem go_un {r : V → Hp → VK → Prop} (q : ta σ H fun x H1 => r x H1 Q) : tUn r ta σ H Q := q
theorem go_nil (q : QL [] H) : tNil σ H QL := q
theorem go_cons (q : ta σ H fun x H1 => tr σ H1 fun xs H2 => QL (x :: xs) H2) : tCons ta tr σ H QL := q
theorem go_cb {r : List V → Hp → VK → Prop} (q : t σ H fun vs H1 => r vs H1 Q) : tCB r t σ H Q := q
theorem go_call0 (q : t σ H fun vs H1 => sp vs H1 Q E) : tCall sp [] E t σ H Q := by
  show t σ H fun vs H1 => sp (vs ++ []) H1 Q E
  simpa only [List.append_nil] using q
theorem go_call (q : t σ H fun vs H1 => sp (vs ++ dvs) H1 Q E) : tCall sp dvs E t σ H Q := q
theorem go_kn {n m : Nat} {gV : List V → List V → List V} (q : t σ H fun zs H2 => zs.length = m ∧ sp (gV vs zs) H2 Q E0) : tCallKn n m sp gV vs t σ H Q := q
theorem go_meth (q : ta σ H (MeR C m sp dvs E t σ Q)) : tMeth C m sp dvs E ta t σ H Q := q
theorem go_prop (q : ta σ H (PrR C sp dvs E Q)) : tProp C sp dvs E ta σ H Q := q
theorem go_mer {dx : Addr} {fs : List (Str × V)} (h : H a = some (.ins C dx fs)) (hm : fs.lookup m = none) (q : t σ H fun vs H2 => sp (.ref a :: vs) H2 Q E) : MeR C m sp [] E t σ Q (.ref a) H := by
  refine ⟨a, dx, fs, rfl, h, hm, ?_⟩
  simpa only [List.append_nil] using q
theorem go_prr {dx : Addr} {fs : List (Str × V)} (h : H a = some (.ins C dx fs)) (q : sp [.ref a] H Q E) : PrR C sp [] E Q (.ref a) H := ⟨a, dx, fs, rfl, h, q⟩
theorem go_fld (q : ta σ H (FlR K f Q)) : tFld K ta f σ H Q := q
theorem go_flr {dx : Addr} {fs : List (Str × V)} (h : H a = some (.ins C dx fs)) (hc : Cls K C) (hn : NoAttr K C f) (hl : fs.lookup f = some v) (q : Q v H) : FlR K f Q (.ref a) H := ⟨a, C, dx, fs, v, rfl, h, hc, hn, hl, q⟩
theorem go_tup (q : t σ H (NewT Q)) : tTup t σ H Q := q
theorem go_lst (q : t σ H (NewL Q)) : tLst t σ H Q := q
theorem go_newt (hz : xs.length ≤ sizeLine) (q : ∀ p H', H p = none → Same H H' → H' p = some (.tup xs) → Q (.ref p) H') : NewT Q xs H := ⟨hz, fun p hp => q p _ hp (same_new hp) upd_same⟩
theorem go_newl (hz : xs.length ≤ sizeLine) (q : ∀ p H', H p = none → Same H H' → H' p = some (.lst xs) → Q (.ref p) H') : NewL Q xs H := ⟨hz, fun p hp => q p _ hp (same_new hp) upd_same⟩
theorem go_tb (q : ta σ H (AsB QB)) : tB ta σ H QB := q
theorem go_test (q : ta σ H (AsB QB)) : tTest ta σ H QB := q
theorem go_asb {k : Bool} (q : QB k H) : AsB QB (.bl k) H := ⟨k, rfl, q⟩
theorem go_asi {QI : Int → Hp → Prop} {i : Int} (q : QI i H) : AsI QI (.int i) H := ⟨i, rfl, q⟩
theorem go_and (q : tt σ H fun k H1 => if k = true then tu σ H1 QB else QB false H1) : tAnd tt tu σ H QB := q
theorem go_or (q : tt σ H fun k H1 => if k = true then QB true H1 else tu σ H1 QB) : tOr tt tu σ H QB := q
theorem go_not (q : tt σ H fun k H1 => QB (!k) H1) : tNot tt σ H QB := q
theorem go_andv (q : ta σ H (AsB fun k H1 => if k = true then tb σ H1 Q else Q (.bl false) H1)) : tAndV ta tb σ H Q := q
theorem go_orv (q : ta σ H (AsB fun k H1 => if k = true then Q (.bl true) H1 else tb σ H1 Q)) : tOrV ta tb σ H Q := q
theorem go_notv (q : ta σ H (AsB fun k H1 => Q (.bl (!k)) H1)) : tNotV ta σ H Q := q
theorem go_ife (q : tt σ H fun k H1 => if k = true then ta σ H1 Q else tb σ H1 Q) : tIf tt ta tb σ H Q := q
theorem go_chain (q : ta σ H fun x H1 => tb σ H1 fun y H2 => r x y H2 (AsB fun k H3 => if k = true then tc σ H3 fun w' H4 => r' y w' H4 Q else Q (.bl false) H3)) : tChain r r' ta tb tc σ H Q := q
theorem go_seq {rt : VK} (q : ts ⟨tu' ⟨n, rt, b, c⟩, rt, b, c⟩ σ H) : tSeq ts tu' ⟨n, rt, b, c⟩ σ H := q
theorem go_next {rt : VK} (q : n σ H) : tNext ⟨n, rt, b, c⟩ σ H := q
theorem go_drop {rt : VK} (q : te σ H fun _ H1 => n σ H1) : tDrop te ⟨n, rt, b, c⟩ σ H := q
theorem go_ret {rt : VK} (q : te σ H rt) : tRet te ⟨n, rt, b, c⟩ σ H := q
theorem go_retn {rt : VK} (q : rt .non H) : tRetN ⟨n, rt, b, c⟩ σ H := q
theorem go_ifs {D : Ends} (q : tt σ H fun k H1 => if k = true then ts D σ H1 else tu' D σ H1) : tIfS tt ts tu' D σ H := q
theorem go_asg {rt : VK} (q : te σ H fun x H1 => g x σ H1 n) : tAsg te g ⟨n, rt, b, c⟩ σ H := q
theorem go_gname {i : Nat} (e : σ.set i (some v) = σ') (q : QS σ' H) : gName i v σ H QS := by subst e; exact q
theorem go_par {i j : Nat} {rt : VK} (q : t σ H (Par2 i j n σ)) : tPar i j t ⟨n, rt, b, c⟩ σ H := q
theorem go_par2 {i j : Nat} (e : (σ.set i (some v)).set j (some w) = σ') (q : n σ' H) : Par2 i j n σ [v, w] H := by subst e; exact ⟨v, w, rfl, q⟩
theorem go_gtup {k : Nat} {gs : TGs} (h : SqT K H a xs) (hl : xs.length = k) (q : gs xs σ H QS) : gTup K k gs (.ref a) σ H QS := ⟨a, xs, rfl, h, hl, q⟩
theorem go_gnil (q : QS σ H) : gNil [] σ H QS := ⟨rfl, q⟩
theorem go_gcons {gs : TGs} (q : g v σ H fun σ' H' => gs vs σ' H' QS) : gCons g gs (v :: vs) σ H QS := ⟨v, vs, rfl, q⟩
/-! tests whose answer is known -/
theorem go_if1 {A B : Prop} (h : A) : if true = true then A else B := iteT h
theorem go_if0 {A B : Prop} (h : B) : if false = true then A else B := iteF h
theorem go_ift {c A B : Prop} [Decidable c] (hc : c) (h : A) : if decide c = true then A else B := by rw [decide_eq_true hc]; exact iteT h
theorem go_iff {c A B : Prop} [Decidable c] (hc : ¬ c) (h : B) : if decide c = true then A else B := by rw [decide_eq_false hc]; exact iteF h
theorem go_ifnt {c A B : Prop} [Decidable c] (hc : c) (h : B) : if (!decide c) = true then A else B := by rw [decide_eq_true hc]; exact iteF h
theorem go_ifnf {c A B : Prop} [Decidable c] (hc : ¬ c) (h : A) : if (!decide c) = true then A else B := by rw [decide_eq_false hc]; exact iteT h
theorem go_ifn1 {A B : Prop} (h : B) : if (!true) = true then A else B := iteF h
theorem go_ifn0 {A B : Prop} (h : A) : if (!false) = true then A else B := iteT h
/-! operators -/
variable {i j : Int} {m' n' : Nat}
theorem go_addN (q : Q (.int ((m' + n' : Nat) : Int)) H) : rI0 (fun i j => .int (i + j)) (.int (m' : Int)) (.int (n' : Int)) H Q := ⟨_, _, rfl, rfl, by rw [Int.natCast_add] at q; exact q⟩
theorem go_ltN (q : Q (.bl (decide (m' < n'))) H) : rI0 (fun i j => .bl (decide (i < j))) (.int (m' : Int)) (.int (n' : Int)) H Q := ⟨_, _, rfl, rfl, by show Q (.bl (decide ((m' : Int) < (n' : Int)))) H; rw [decide_eq_decide.mpr (Int.ofNat_lt (n := m') (m := n'))]; exact q⟩
theorem go_leN (q : Q (.bl (decide (m' ≤ n'))) H) : rI0 (fun i j => .bl (decide (i ≤ j))) (.int (m' : Int)) (.int (n' : Int)) H Q := ⟨_, _, rfl, rfl, by show Q (.bl (decide ((m' : Int) ≤ (n' : Int)))) H; rw [decide_eq_decide.mpr (Int.ofNat_le (m := m') (n := n'))]; exact q⟩
theorem go_gtN (q : Q (.bl (decide (n' < m'))) H) : rI0 (fun i j => .bl (decide (j < i))) (.int (m' : Int)) (.int (n' : Int)) H Q := ⟨_, _, rfl, rfl, by show Q (.bl (decide ((n' : Int) < (m' : Int)))) H; rw [decide_eq_decide.mpr (Int.ofNat_lt (n := n') (m := m'))]; exact q⟩
theorem go_geN (q : Q (.bl (decide (n' ≤ m'))) H) : rI0 (fun i j => .bl (decide (j ≤ i))) (.int (m' : Int)) (.int (n' : Int)) H Q := ⟨_, _, rfl, rfl, by show Q (.bl (decide ((n' : Int) ≤ (m' : Int)))) H; rw [decide_eq_decide.mpr (Int.ofNat_le (m := n') (n := m'))]; exact q⟩
theorem go_rI0 {g : Int → Int → V} (q : Q (g i j) H) : rI0 g (.int i) (.int j) H Q := ⟨i, j, rfl, rfl, q⟩
theorem go_mulN (h : m' < 2 ^ 63 ∨ n' < 2 ^ 63) (q : Q (.int ((m' * n' : Nat) : Int)) H) : rI CMul (fun i j => .int (i * j)) (.int (m' : Int)) (.int (n' : Int)) H Q :=
  ⟨_, _, rfl, rfl, by rcases h with h | h; exact .inl ⟨by omega, by omega⟩; exact .inr ⟨by omega, by omega⟩, by rw [Int.natCast_mul] at q; exact q⟩
theorem go_modN (h : 0 < n') (q : Q (.int ((m' % n' : Nat) : Int)) H) : rI (fun _ j => 0 < j) (fun i j => .int (i % j)) (.int (m' : Int)) (.int (n' : Int)) H Q :=
  ⟨_, _, rfl, rfl, by show (0 : Int) < (n' : Int); omega, by rw [Int.natCast_emod] at q; exact q⟩
theorem go_divN (h : 0 < n' ∧ n' < 1073741824) (q : Q (.int ((m' / n' : Nat) : Int)) H) : rI CDiv (fun i j => .int (i / j)) (.int (m' : Int)) (.int (n' : Int)) H Q :=
  ⟨_, _, rfl, rfl, ⟨by omega, by omega⟩, by rw [Int.natCast_ediv] at q; exact q⟩
theorem go_subN (h : n' ≤ m') (q : Q (.int ((m' - n' : Nat) : Int)) H) : rI0 (fun i j => .int (i - j)) (.int (m' : Int)) (.int (n' : Int)) H Q := ⟨_, _, rfl, rfl, by rw [Int.ofNat_sub h] at q; exact q⟩
theorem go_rI {Cd : Int → Int → Prop} {g : Int → Int → V} (h : Cd i j) (q : Q (g i j) H) : rI Cd g (.int i) (.int j) H Q := ⟨i, j, rfl, rfl, h, q⟩
theorem go_rU {g : Int → V} (q : Q (g i) H) : rU g (.int i) H Q := ⟨i, rfl, q⟩
theorem go_eqN (q : Q (.bl (decide (m' = n'))) H) : rEq (.int (m' : Int)) (.int (n' : Int)) H Q := ⟨rfl, by rw [decide_eq_decide.mpr (show V.int (m' : Int) = V.int (n' : Int) ↔ m' = n' by rw [V.int.injEq]; exact Int.ofNat_inj)]; exact q⟩
theorem go_neN (q : Q (.bl (!decide (m' = n'))) H) : rNe (.int (m' : Int)) (.int (n' : Int)) H Q := ⟨rfl, by rw [decide_eq_decide.mpr (show V.int (m' : Int) = V.int (n' : Int) ↔ m' = n' by rw [V.int.injEq]; exact Int.ofNat_inj)]; exact q⟩
theorem go_eqI (q : Q (.bl (decide (i = j))) H) : rEq (.int i) (.int j) H Q := ⟨rfl, by rw [decide_eq_decide.mpr (show V.int i = V.int j ↔ i = j by rw [V.int.injEq])]; exact q⟩
theorem go_neI (q : Q (.bl (!decide (i = j))) H) : rNe (.int i) (.int j) H Q := ⟨rfl, by rw [decide_eq_decide.mpr (show V.int i = V.int j ↔ i = j by rw [V.int.injEq])]; exact q⟩
theorem go_ixt (h : SqT K H p xs) (e : atI xs i = some v) (q : Q v H) : rIxT K (.ref p) (.int i) H Q := ⟨p, xs, i, v, rfl, rfl, h, e, q⟩
theorem go_ixl (h : SqL K H p xs) (e : atI xs i = some v) (q : Q v H) : rIxL K (.ref p) (.int i) H Q := ⟨p, xs, i, v, rfl, rfl, h, e, q⟩
theorem go_lent (h : SqT K H p xs) (q : Q (.int (xs.length : Int)) H) : rLenSeq K [.ref p] H Q := ⟨p, xs, rfl, .inr h, q⟩
theorem go_lenl (h : SqL K H p xs) (q : Q (.int (xs.length : Int)) H) : rLenSeq K [.ref p] H Q := ⟨p, xs, rfl, .inl h, q⟩
theorem go_lstof (h : SqL K H p xs ∨ SqT K H p xs) (q : ∀ l H', H l = none → Same H H' → H' l = some (.lst xs) → Q (.ref l) H') : rListOf K [.ref p] H Q := ⟨p, xs, rfl, h, fun l hl => q l _ hl (same_new hl) upd_same⟩
theorem go_tupofl (h : SqL K H p xs) (q : ∀ l H', H l = none → Same H H' → H' l = some (.tup xs) → Q (.ref l) H') : rTupOf K [.ref p] H Q := ⟨p, xs, rfl, .inl ⟨h, fun l hl => q l _ hl (same_new hl) upd_same⟩⟩
theorem go_eqD {d e : PyData} (h1 : Dp K H x d) (h2 : Dp K H y e) (s1 : SeqAt.shaped d = true) (s2 : SeqAt.shaped e = true) (q : Q (.bl (PyData.eqv d e)) H) : rEqD K x y H Q := ⟨d, e, h1, h2, s1, s2, q⟩
theorem go_neD {d e : PyData} (h1 : Dp K H x d) (h2 : Dp K H y e) (s1 : SeqAt.shaped d = true) (s2 : SeqAt.shaped e = true) (q : Q (.bl (!PyData.eqv d e)) H) : rNeD K x y H Q := ⟨d, e, h1, h2, s1, s2, q⟩
theorem go_sl {rs : V → Option Int → Option Int → Hp → VK → Prop} {tl th : TO} (q : te σ H fun x H1 => tl σ H1 fun l H2 => th σ H2 fun u H3 => rs x l u H3 Q) : tSl rs te tl th σ H Q := q
theorem go_part {QO : Option Int → Hp → Prop} (q : te σ H (AsI fun i H1 => QO (some i) H1)) : tPart te σ H QO := q
theorem go_nopart {QO : Option Int → Hp → Prop} (q : QO none H) : tNoPart σ H QO := q
theorem go_sllT {k : Nat} (h : SqL K H a xs) (q : ∀ p H', H p = none → Same H H' → H' p = some (.lst (xs.take k)) → Q (.ref p) H') : rSlL K (.ref a) none (some (k : Int)) H Q := ⟨a, xs, rfl, h, fun p hp => q p _ hp (same_new hp) (by rw [upd_same, cutT])⟩
theorem go_sllD {k : Nat} (h : SqL K H a xs) (q : ∀ p H', H p = none → Same H H' → H' p = some (.lst (xs.drop k)) → Q (.ref p) H') : rSlL K (.ref a) (some (k : Int)) none H Q := ⟨a, xs, rfl, h, fun p hp => q p _ hp (same_new hp) (by rw [upd_same, cutF])⟩
theorem go_cat {ys : List V} {l l' : Addr} (h1 : H l = some (.lst xs)) (h2 : H l' = some (.lst ys)) (hz : xs.length + ys.length ≤ sizeLine) (q : ∀ p H', H p = none → Same H H' → H' p = some (.lst (xs ++ ys)) → Q (.ref p) H') : rCat (.ref l) (.ref l') H Q := ⟨l, l', xs, ys, rfl, rfl, h1, h2, hz, fun p hp => q p _ hp (same_new hp) upd_same⟩
theorem go_all {bs : List Bool} (h : SqL K H a (bs.map V.bl)) (q : Q (.bl (bs.all id)) H) : rAll K [.ref a] H Q := ⟨a, bs, rfl, h, q⟩
theorem go_any {bs : List Bool} (h : SqL K H a (bs.map V.bl)) (q : Q (.bl (bs.any id)) H) : rAny K [.ref a] H Q := ⟨a, bs, rfl, h, q⟩
/-! to a later heap -/
variable {d : PyData} {ds : List PyData} {o : HO}
theorem up_dp (s : Same H H') (h : Dp K H v d) : Dp K H' v d := h.up s
theorem up_dpa (s : Same H H') (h : DpAll K H vs ds) : DpAll K H' vs ds := h.up s
theorem up_sqt (s : Same H H') (h : SqT K H a xs) : SqT K H' a xs := Same.tup s h
theorem up_sql (s : Same H H') (h : SqL K H a xs) : SqL K H' a xs := s.seq h
theorem up_get (s : Same H H') (h : H a = some o) : H' a = some o := s _ _ h
theorem up_pot (s : Same H H') (h : Pot H a) : Pot H' a := h.same s
theorem bu_dp (s : Bu p H H') (hp : Pot H p) (hn : NL d = true) (h : Dp K H v d) : Dp K H' v d := by
  obtain ⟨ys, e⟩ := hp.lst
  exact h.bu hn s e
theorem bu_sqt (s : Bu p H H') (hp : Pot H p) (h : SqT K H a xs) : SqT K H' a xs := by
  obtain ⟨ys, e⟩ := hp.lst
  exact s.sqt e h
theorem bu_sql (s : Bu p H H') (hp : a ≠ p) (h : SqL K H a xs) : SqL K H' a xs := s.seqL hp h
theorem bu_get (s : Bu p H H') (hp : a ≠ p) (h : H a = some o) : H' a = some o := s _ _ hp h
theorem bu_gett (s : Bu p H H') (hp : Pot H p) (h : H a = some (.tup xs)) : H' a = some (.tup xs) := s _ _ (fun e => by obtain ⟨ys, z⟩ := hp.lst; rw [e, z] at h; cases h) h
theorem bu_geti {dx : Addr} {fs : List (Str × V)} (s : Bu p H H') (hp : Pot H p) (h : H a = some (.ins C dx fs)) : H' a = some (.ins C dx fs) := s _ _ (fun e => by obtain ⟨ys, z⟩ := hp.lst; rw [e, z] at h; cases h) h
theorem pot_ne (hq : H q = none) (h : Pot H p) : q ≠ p := h.ne hq
theorem up_same {H0 : Hp} (s : Same H H') (h : Same H0 H) : Same H0 H' := h.trans s
theorem up_bu {H0 : Hp} (s : Same H H') (h : Bu p H0 H) : Bu p H0 H' := h.trans (Bu.of s p)
theorem bu_bu {H0 : Hp} (s : Bu p H H') (h : Bu p H0 H) : Bu p H0 H' := h.trans s
/-! data -/
theorem d_tup (h : H a = some (.tup vs)) (hs : DpAll K H vs ds) : Dp K H (.ref a) (.tuple ds) := .tup (SqT.of h) hs
theorem d_lst (h : H a = some (.lst vs)) (hs : DpAll K H vs ds) : Dp K H (.ref a) (.list ds) := .lst (SqL.of h) hs
/-! draw and pick -/
theorem c_drawN {k : Nat} (h0 : Pot H p) (h1 : 0 < k) (h2 : k ≤ 1000000000000000000) (q : ∀ (d : Nat) (H' : Hp), d < k → Pot H' p → Bu p H H' → Q (.int d) H') : sp_draw [.ref p, .int (k : Int)] H Q E :=
  ⟨_, _, rfl, h0, by omega, by omega, fun d H' hd => q d H' (by omega)⟩
theorem c_pick {l : Addr} (h0 : Pot H p) (h1 : l ≠ p) (h2 : SqL K H l xs) (h3 : xs ≠ []) (h4 : xs.length ≤ 1000) (q : ∀ (v : V) (H' : Hp), v ∈ xs → Pot H' p → Bu p H H' → Q v H') : sp_pick K [.ref p, .ref l] H Q E := ⟨_, _, _, rfl, h0, h1, h2, h3, h4, q⟩
end
end Mv
set_option Elab.async false
set_option maxRecDepth 100000
set_option maxHeartbeats 4000000
/-! Loops and comprehensions for the steps of mvo. -/
namespace Mv
open PySem PySem.Spec PyProof.Rows L2
def ForR (g : TG) (tb : TS) (D : Ends) (σ : L2.St) : It → Hp → Prop := fun J H1 => ∃ W : Nat → Nat → L2.St → Hp → Prop, (∃ m, W 0 m σ H1) ∧ ∀ i m σ H, W i m σ H →
  (J.stop i H ∧ D.nx σ H) ∨ (J.go i H ∧ ∃ N : L2.St → Hp → Prop, (∀ σ' H', N σ' H' → ∃ m', m' < m ∧ W (i + 1) m' σ' H') ∧ ∀ x H', J.yld i H x H' → g x σ H' fun σ2 H2 => tb { D with nx := N, ct := N, bk := D.nx } σ2 H2)
def LcR (g : TG) (tt : TT) (te : TE) (vs : List Nat) (σ : L2.St) (Q : VK) : It → Hp → Prop := fun J H1 => ∀ D, H1 D = none → ∃ W : Nat → Nat → Hp → Prop, (∃ m, W 0 m (upd H1 D (.lst []))) ∧ ∀ i m H, W i m H →
  (J.stop i H ∧ Q (.ref D) H) ∨ (J.go i H ∧ ∃ Nx : Hp → Prop, (∀ H', Nx H' → ∃ m', m' < m ∧ W (i + 1) m' H') ∧ ∀ x H', J.yld i H x H' → g x (wipe σ vs) H' fun σ2 H2 => wipe σ2 vs = wipe σ vs ∧ tt σ2 H2 fun b H3 =>
    if b = true then te σ2 H3 fun y H4 => ∃ acc, H4 D = some (.lst acc) ∧ acc.length < sizeLine ∧ Nx (upd H4 D (.lst (acc ++ [y]))) else Nx H3)
def Rg1 (R : It → Hp → Prop) : List V → Hp → Prop := fun vs H1 => ∃ j : Int, vs = [.int j] ∧ -(2 ^ 62) ≤ j ∧ j < 2 ^ 62 ∧ R (Itr 0 j.toNat) H1
def Rg2 (R : It → Hp → Prop) : List V → Hp → Prop := fun vs H1 => ∃ i j : Int, vs = [.int i, .int j] ∧ (-(2 ^ 62) ≤ i ∧ i < 2 ^ 62 ∧ -(2 ^ 62) ≤ j ∧ j < 2 ^ 62) ∧ R (Itr i (j - i).toNat) H1
def LsR (K : PySem.W.Frag) (R : It → Hp → Prop) : VK := fun x H1 => ∃ a, x = .ref a ∧ (∃ xs, SqL K H1 a xs) ∧ R (Itl K a) H1
def TpR (K : PySem.W.Frag) (R : It → Hp → Prop) : VK := fun x H1 => ∃ a, x = .ref a ∧ (∃ xs, SqT K H1 a xs) ∧ R (Itt K a) H1
def ZpR (K : PySem.W.Frag) (R : It → Hp → Prop) : List V → Hp → Prop := fun vs H1 => ∃ a b xs ys, vs = [.ref a, .ref b] ∧ ((SqL K H1 a xs ∧ SqL K H1 b ys ∧ R (Itz K a b) H1) ∨ (SqT K H1 a xs ∧ SqT K H1 b ys ∧ R (RZ.ItzT K a b) H1))
def EnR (K : PySem.W.Frag) (R : It → Hp → Prop) : List V → Hp → Prop := fun vs H1 => ∃ b a xs, vs = [.ref a] ∧ SqK b K H1 a xs ∧ R (IteK b K a) H1
section
variable {K : PySem.W.Frag} {σ σ' : L2.St} {H H' : Hp} {Q : VK} {n b c : L2.St → Hp → Prop} {rt : VK} {x : V} {vs : List Nat} {xs ys : List V} {te : TE} {ta : TA} {tt : TT} {tb : TS} {g : TG} {wi : TI} {a a' p : Addr} {R : It → Hp → Prop}
theorem go_for (q : wi σ H (ForR g tb ⟨n, rt, b, c⟩ σ)) : tFor wi g tb ⟨n, rt, b, c⟩ σ H := q
theorem go_lc (q : wi σ H (LcR g tt te vs σ Q)) : tLc wi g tt te vs σ H Q := q
theorem go_irng1 (q : ta σ H (Rg1 R)) : iRng1 ta σ H R := q
theorem go_irng2 (q : ta σ H (Rg2 R)) : iRng2 ta σ H R := q
theorem go_ilist (q : te σ H (LsR K R)) : iList K te σ H R := q
theorem go_itup (q : te σ H (TpR K R)) : iTup K te σ H R := q
theorem go_izip (q : ta σ H (ZpR K R)) : RZ.iZipA K ta σ H R := q
theorem go_ienum (q : ta σ H (EnR K R)) : iEnumA K ta σ H R := q
theorem go_rg1 {k : Nat} (h : k < 2 ^ 62) (q : R (Itr 0 k) H) : Rg1 R [.int (k : Int)] H := ⟨k, rfl, by omega, by omega, by rw [Int.toNat_natCast]; exact q⟩
theorem go_rg2 {k j : Nat} (h : k < 2 ^ 62) (h2 : j < 2 ^ 62) (q : R (Itr (k : Int) (j - k)) H) : Rg2 R [.int (k : Int), .int (j : Int)] H := ⟨k, j, rfl, ⟨by omega, by omega, by omega, by omega⟩, by rw [show ((j : Int) - (k : Int)).toNat = j - k by omega]; exact q⟩
theorem go_lsr (h : SqL K H a xs) (q : R (Itl K a) H) : LsR K R (.ref a) H := ⟨a, rfl, ⟨_, h⟩, q⟩
theorem go_tpr (h : SqT K H a xs) (q : R (Itt K a) H) : TpR K R (.ref a) H := ⟨a, rfl, ⟨_, h⟩, q⟩
theorem go_zpr (h : SqL K H a xs) (h2 : SqL K H a' ys) (q : R (Itz K a a') H) : ZpR K R [.ref a, .ref a'] H := ⟨a, a', xs, ys, rfl, .inl ⟨h, h2, q⟩⟩
theorem go_zprT (h : SqT K H a xs) (h2 : SqT K H a' ys) (q : R (RZ.ItzT K a a') H) : ZpR K R [.ref a, .ref a'] H := ⟨a, a', xs, ys, rfl, .inr ⟨h, h2, q⟩⟩
theorem go_enrL (h : SqL K H a xs) (q : R (IteK true K a) H) : EnR K R [.ref a] H := ⟨true, a, xs, rfl, h, q⟩
theorem go_enrT (h : SqT K H a xs) (q : R (IteK false K a) H) : EnR K R [.ref a] H := ⟨false, a, xs, rfl, h, q⟩
theorem go_catA {ys : List V} (h1 : SqT K H a xs) (h2 : SqT K H a' ys) (hz : xs.length + ys.length ≤ sizeLine) (q : ∀ p H', Same H H' → SqT K H' p (xs ++ ys) → Q (.ref p) H') : rCatA K (.ref a) (.ref a') H Q := by
  refine ⟨a, a', xs, ys, rfl, rfl, h1, h2, hz, fun e => ?_, fun _ e => ?_, fun _ _ p hp => q p _ (same_new hp) (SqT.of upd_same)⟩
  · subst e; exact q a' H (Same.refl _) h2
  · subst e; exact q a H (Same.refl _) (by rw [List.append_nil]; exact h1)
theorem go_slaT {k : Nat} (h : SqT K H a xs) (q : ∀ p H', Same H H' → SqT K H' p (xs.take k) → Q (.ref p) H') : rSlA K (.ref a) none (some (k : Int)) H Q := by
  refine ⟨a, xs, rfl, h, fun e => q a H (Same.refl _) ?_, fun _ p hp => q p _ (same_new hp) (SqT.of (by rw [upd_same, cutT]))⟩
  rw [HT.sIx_nat] at e
  rw [List.take_of_length_le (by omega)]
  exact h
theorem go_slaD {k : Nat} (h : SqT K H a xs) (q : ∀ p H', Same H H' → SqT K H' p (xs.drop k) → Q (.ref p) H') : rSlA K (.ref a) (some (k : Int)) none H Q := by
  refine ⟨a, xs, rfl, h, fun e => q a H (Same.refl _) ?_, fun _ p hp => q p _ (same_new hp) (SqT.of (by rw [upd_same, cutF]))⟩
  rw [HT.sIx_nat] at e
  by_cases z : k = 0
  · subst z; exact h
  · have : xs = [] := List.eq_nil_of_length_eq_zero (by omega)
    subst this
    simpa using h
/-! for -/
theorem forRange {k : Nat} (Pv : Nat → L2.St → Hp → Prop) (h0 : Pv 0 σ H) (hs : ∀ (i : Nat) σ H, i < k → Pv i σ H → g (.int (i : Int)) σ H fun σ2 H2 => tb ⟨Pv (i + 1), rt, n, Pv (i + 1)⟩ σ2 H2) (hd : ∀ σ H, Pv k σ H → n σ H) : ForR g tb ⟨n, rt, b, c⟩ σ (Itr 0 k) H :=
  for_it (D := ⟨n, rt, b, c⟩) walk_range Pv h0 (fun _ _ _ _ _ => trivial) (fun i x σ H H' hi hp hy => by
    obtain ⟨rfl, rfl⟩ := hy
    have := hs i σ H' hi hp
    rw [← Int.zero_add (i : Int)] at this
    exact this) hd
theorem forRange2 {k : Nat} {lo : Nat} (Pv : Nat → L2.St → Hp → Prop) (h0 : Pv 0 σ H) (hs : ∀ (i : Nat) σ H, i < k → Pv i σ H → g (.int ((lo + i : Nat) : Int)) σ H fun σ2 H2 => tb ⟨Pv (i + 1), rt, n, Pv (i + 1)⟩ σ2 H2) (hd : ∀ σ H, Pv k σ H → n σ H) : ForR g tb ⟨n, rt, b, c⟩ σ (Itr (lo : Int) k) H :=
  for_it (D := ⟨n, rt, b, c⟩) walk_range Pv h0 (fun _ _ _ _ _ => trivial) (fun i x σ H H' hi hp hy => by
    obtain ⟨rfl, rfl⟩ := hy
    have := hs i σ H' hi hp
    rw [Int.natCast_add] at this
    exact this) hd
theorem forList (Pv : Nat → L2.St → Hp → Prop) (h0 : Pv 0 σ H) (hG : ∀ i σ H, Pv i σ H → SqL K H a xs) (hs : ∀ (i : Nat) x σ H, i < xs.length → xs[i]? = some x → Pv i σ H → g x σ H fun σ2 H2 => tb ⟨Pv (i + 1), rt, n, Pv (i + 1)⟩ σ2 H2) (hd : ∀ σ H, Pv xs.length σ H → n σ H) :
    ForR g tb ⟨n, rt, b, c⟩ σ (Itl K a) H :=
  for_it (D := ⟨n, rt, b, c⟩) walk_list Pv h0 (fun i σ H _ h => hG i σ H h) (fun i x σ H H' hi hp hy => by
    obtain ⟨rfl, hx⟩ := hy
    exact hs i x σ H' hi hx hp) hd
theorem forTup (Pv : Nat → L2.St → Hp → Prop) (h0 : Pv 0 σ H) (hG : ∀ i σ H, Pv i σ H → SqT K H a xs) (hs : ∀ (i : Nat) x σ H, i < xs.length → xs[i]? = some x → Pv i σ H → g x σ H fun σ2 H2 => tb ⟨Pv (i + 1), rt, n, Pv (i + 1)⟩ σ2 H2) (hd : ∀ σ H, Pv xs.length σ H → n σ H) :
    ForR g tb ⟨n, rt, b, c⟩ σ (Itt K a) H :=
  for_it (D := ⟨n, rt, b, c⟩) walk_tup Pv h0 (fun i σ H _ h => hG i σ H h) (fun i x σ H H' hi hp hy => by
    obtain ⟨rfl, hx⟩ := hy
    exact hs i x σ H' hi hx hp) hd
theorem forZip {k : Nat} (hk : k = min xs.length ys.length) (Pv : Nat → L2.St → Hp → Prop) (h0 : Pv 0 σ H) (hG : ∀ i σ H, Pv i σ H → SqL K H a xs ∧ SqL K H a' ys)
    (hs : ∀ (i : Nat) x y T σ H H', i < k → xs[i]? = some x → ys[i]? = some y → Pv i σ H → H T = none → Same H H' → H' T = some (.tup [x, y]) → g (.ref T) σ H' fun σ2 H2 => tb ⟨Pv (i + 1), rt, n, Pv (i + 1)⟩ σ2 H2) (hd : ∀ σ H, Pv k σ H → n σ H) :
    ForR g tb ⟨n, rt, b, c⟩ σ (Itz K a a') H :=
  for_it (D := ⟨n, rt, b, c⟩) (walk_zip hk) Pv h0 (fun i σ H _ h => hG i σ H h) (fun i x σ H H' hi hp hy => by
    obtain ⟨T, x', y', rfl, hT, rfl, hx, hy⟩ := hy
    exact hs i x' y' T σ H _ hi hx hy hp hT (same_new hT) upd_same) hd
/-! while -/
def WhK (Pv : Nat → L2.St → Hp → Prop) (m : Nat) (tb : TS) (n : L2.St → Hp → Prop) (rt : VK) (σ : L2.St) : Bool → Hp → Prop := fun b H1 => if b = true then ∃ N : L2.St → Hp → Prop, (∀ σ' H', N σ' H' → ∃ m', m' < m ∧ Pv m' σ' H') ∧ tb ⟨N, rt, n, N⟩ σ H1 else n σ H1
theorem whileN (Pv : Nat → L2.St → Hp → Prop) (m0 : Nat) (h0 : Pv m0 σ H) (hs : ∀ m σ H, Pv m σ H → tt σ H (WhK Pv m tb n rt σ)) : tWhile tt tb ⟨n, rt, b, c⟩ σ H := ⟨Pv, ⟨m0, h0⟩, hs⟩
theorem wh_t {Pv : Nat → L2.St → Hp → Prop} {m : Nat} (q : tb ⟨fun s h => ∃ m', m' < m ∧ Pv m' s h, rt, n, fun s h => ∃ m', m' < m ∧ Pv m' s h⟩ σ H) : WhK Pv m tb n rt σ true H := by
  unfold WhK
  rw [if_pos rfl]
  exact ⟨_, fun _ _ h => h, q⟩
theorem wh_f {Pv : Nat → L2.St → Hp → Prop} {m : Nat} (q : n σ H) : WhK Pv m tb n rt σ false H := by
  unfold WhK
  rw [if_neg (by decide)]
  exact q
theorem go_rep {k : Nat} {v : V} (h : H a = some (.lst [v])) (hk : k ≤ 100000) (q : ∀ p H', H p = none → Same H H' → H' p = some (.lst (List.replicate k v)) → Q (.ref p) H') : rRep (.ref a) (.int (k : Int)) H Q := by
  refine ⟨a, k, [v], rfl, rfl, h, by omega, by omega, by simp; unfold sizeLine; omega, fun p hp => q p _ hp (same_new hp) ?_⟩
  rw [upd_same]
  simp
/-! comprehensions of data without lists; nothing old changes -/
theorem lcGen {J : It} {k : Nat} {G : Hp → Prop} {Y : Nat → Hp → V → Hp → Prop} (w : Walk J k G Y) (f : Nat → PyData) (hz : k ≤ 100000) (hl : ∀ i, i < k → NL (f i) = true) (hG : ∀ H', Same H H' → G H')
    (hs : ∀ (i : Nat) (x : V) (H1 H2 : Hp) (Q' : VK), i < k → Same H H1 → Y i H1 x H2 → (∀ y H4, Same H1 H4 → Dp K H4 y (f i) → Q' y H4) → g x (wipe σ vs) H2 fun σ2 H3 => wipe σ2 vs = wipe σ vs ∧ te σ2 H3 Q')
    (hd : ∀ D H' ys, H D = none → Same H H' → H' D = some (.lst ys) → DpAll K H' ys ((List.range k).map f) → Q (.ref D) H') (hg : ∀ x σ' H' (P Q : L2.St → Hp → Prop), (∀ σ2 H2, P σ2 H2 → Q σ2 H2) → g x σ' H' P → g x σ' H' Q) : LcR g tYes te vs σ Q J H := by
  intro D hD
  refine lc_nl (K := K) w ((List.range k).map f) (by simp) hz (NLs.of fun d hd => ?_) hD hG ?_ ?_ hg
  · obtain ⟨i, hi, rfl⟩ := List.mem_map.mp hd
    exact hl i (List.mem_range.mp hi)
  · rintro i e x H1 H2 Q' hi he s1 hy hq
    rw [List.getElem?_map, List.getElem?_range hi] at he
    obtain rfl := Option.some.inj he
    exact hs i x H1 H2 Q' hi s1 hy hq
  · rintro H1 ys s1 eD hall
    exact hd D H1 ys hD s1 eD hall
theorem lcRange {k j : Nat} (f : Nat → PyData) (hz : k ≤ 100000) (hl : ∀ i, i < k → NL (f i) = true) (hw : ∀ x, wipe ((wipe σ vs).set j (some x)) vs = wipe σ vs)
    (hs : ∀ (i : Nat) (H1 : Hp) (Q' : VK), i < k → Same H H1 → (∀ y H4, Same H1 H4 → Dp K H4 y (f i) → Q' y H4) → te ((wipe σ vs).set j (some (.int (i : Int)))) H1 Q')
    (hd : ∀ D H' ys, H D = none → Same H H' → H' D = some (.lst ys) → DpAll K H' ys ((List.range k).map f) → Q (.ref D) H') : LcR (gName j) tYes te vs σ Q (Itr 0 k) H :=
  lcGen walk_range f hz hl (fun _ _ => trivial) (fun i x H1 H2 Q' hi s1 hy hq => by
    obtain ⟨rfl, rfl⟩ := hy
    refine ⟨hw _, ?_⟩
    have := hs i _ Q' hi s1 hq
    rw [← Int.zero_add (i : Int)] at this
    exact this) hd gName_mono
theorem lcList {j : Nat} (f : Nat → PyData) (ha : SqL K H a xs) (hz : xs.length ≤ 100000) (hl : ∀ i, i < xs.length → NL (f i) = true) (hw : ∀ x, wipe ((wipe σ vs).set j (some x)) vs = wipe σ vs)
    (hs : ∀ (i : Nat) (x : V) (H1 : Hp) (Q' : VK), i < xs.length → xs[i]? = some x → Same H H1 → (∀ y H4, Same H1 H4 → Dp K H4 y (f i) → Q' y H4) → te ((wipe σ vs).set j (some x)) H1 Q')
    (hd : ∀ D H' ys, H D = none → Same H H' → H' D = some (.lst ys) → DpAll K H' ys ((List.range xs.length).map f) → Q (.ref D) H') : LcR (gName j) tYes te vs σ Q (Itl K a) H :=
  lcGen walk_list f hz hl (fun _ s => s.seq ha) (fun i x H1 H2 Q' hi s1 hy hq => by
    obtain ⟨rfl, hx⟩ := hy
    exact ⟨hw _, hs i x _ Q' hi hx s1 hq⟩) hd gName_mono
theorem lcTup {j : Nat} (f : Nat → PyData) (ha : SqT K H a xs) (hz : xs.length ≤ 100000) (hl : ∀ i, i < xs.length → NL (f i) = true) (hw : ∀ x, wipe ((wipe σ vs).set j (some x)) vs = wipe σ vs)
    (hs : ∀ (i : Nat) (x : V) (H1 : Hp) (Q' : VK), i < xs.length → xs[i]? = some x → Same H H1 → (∀ y H4, Same H1 H4 → Dp K H4 y (f i) → Q' y H4) → te ((wipe σ vs).set j (some x)) H1 Q')
    (hd : ∀ D H' ys, H D = none → Same H H' → H' D = some (.lst ys) → DpAll K H' ys ((List.range xs.length).map f) → Q (.ref D) H') : LcR (gName j) tYes te vs σ Q (Itt K a) H :=
  lcGen walk_tup f hz hl (fun _ s => Same.tup s ha) (fun i x H1 H2 Q' hi s1 hy hq => by
    obtain ⟨rfl, hx⟩ := hy
    exact ⟨hw _, hs i x _ Q' hi hx s1 hq⟩) hd gName_mono
/-- all [..] where each is true: the list of trues -/
theorem trues {k : Nat} {ys : List V} (h : DpAll K H ys ((List.range k).map fun _ => PyData.bool true)) : ys = (List.replicate k true).map V.bl :=
  DpAll.boolsE (K := K) (H := H) (by rw [List.map_const', List.length_range] at h; rw [List.map_replicate]; exact h)
theorem trues_all (k : Nat) : (List.replicate k true).all id = true := by simp
theorem DpAll.nth {ys : List V} {k i : Nat} {f : Nat → PyData} (h : DpAll K H ys ((List.range k).map f)) (hi : i < k) : ∃ y, ys[i]? = some y ∧ Dp K H y (f i) := h.got (by rw [List.getElem?_map, List.getElem?_range hi]; rfl)
/-! with draws: all but the pot is kept; what is made is data that is Pd -/
theorem Pot.upd {D : Addr} {o : HO} (h : Pot H p) (hD : D ≠ p) : Pot (upd H D o) p := by
  obtain ⟨x, y, e, r⟩ := h.ex
  exact ⟨x, y, by rw [upd_ne (Ne.symm hD)]; exact e, r⟩
theorem lcBu {k j : Nat} (Pd : Nat → PyData → Prop) (hp : Pot H p) (hz : k ≤ 100000) (hw : ∀ x, wipe ((wipe σ vs).set j (some x)) vs = wipe σ vs)
    (hs : ∀ (i : Nat) (H1 : Hp) (Q' : VK), i < k → Pot H1 p → Bu p H H1 → (∀ y d H4, Bu p H1 H4 → Pot H4 p → NL d = true → Pd i d → Dp K H4 y d → Q' y H4) → te ((wipe σ vs).set j (some (.int (i : Int)))) H1 Q')
    (hd : ∀ D H' ys ds, H D = none → D ≠ p → Bu p H H' → Pot H' p → H' D = some (.lst ys) → ds.length = k → (∀ (i : Nat) d, ds[i]? = some d → NL d = true ∧ Pd i d) → DpAll K H' ys ds → Q (.ref D) H') : LcR (gName j) tYes te vs σ Q (Itr 0 k) H := by
  intro D hD
  have hne : D ≠ p := hp.ne hD
  refine lc_it walk_range (fun i H' => Bu p H H' ∧ Pot H' p ∧ ∃ ys ds, H' D = some (.lst ys) ∧ ds.length = i ∧ (∀ (i : Nat) d, ds[i]? = some d → NL d = true ∧ Pd i d) ∧ DpAll K H' ys ds) ⟨Bu.new hD, hp.upd hne, [], [], upd_same, rfl, fun i d h => by simp at h, .nil⟩ (fun _ _ _ _ => trivial) ?_ ?_
  · rintro i x H1 H2 hi ⟨b1, p1, ys, ds, eD, hlen, hds, hall⟩ ⟨rfl, rfl⟩
    refine ⟨hw _, ?_⟩
    show te ((wipe σ vs).set j (some (.int ((0 : Int) + (i : Int))))) _ _
    rw [Int.zero_add]
    refine hs i _ _ hi p1 b1 fun y d H4 b4 p4 hnl hpd hdp => ?_
    have e4 := b4 _ _ hne eD
    obtain ⟨zs, ez⟩ := p1.lst
    have nl : NLs ds = true := NLs.of fun d hd => by
      obtain ⟨i, hi⟩ := List.getElem?_of_mem hd
      exact (hds i d hi).1
    refine ⟨ys, e4, ?_, ?_, p4.upd hne, ys ++ [y], ds ++ [d], upd_same, by simp [hlen], ?_, ?_⟩
    · rw [hall.len, hlen]; unfold sizeLine; omega
    · intro b o nb e
      rw [upd_ne (ne_of_none e hD)]
      exact (b1.trans b4) b o nb e
    · intro i' d' h'
      rcases Nat.lt_trichotomy i' ds.length with z | z | z
      · rw [List.getElem?_append_left z] at h'
        exact hds i' d' h'
      · subst z
        rw [List.getElem?_append_right (Nat.le_refl _), Nat.sub_self] at h'
        obtain rfl := Option.some.inj h'
        rw [hlen]
        exact ⟨hnl, hpd⟩
      · rw [List.getElem?_eq_none (by simp; omega)] at h'
        cases h'
    · exact ((hall.bu nl b4 ez).bu nl Bu.set e4).app (.cons (hdp.bu hnl Bu.set e4) .nil)
  · rintro H1 ⟨b1, p1, ys, ds, eD, hlen, hds, hall⟩
    exact hd D H1 ys ds hD hne b1 p1 eD hlen hds hall
theorem lcBuL {j : Nat} (Pd : Nat → PyData → Prop) (hp : Pot H p) (ha : H a = some (.lst xs)) (hap : a ≠ p) (hz : xs.length ≤ 100000) (hw : ∀ x, wipe ((wipe σ vs).set j (some x)) vs = wipe σ vs)
    (hs : ∀ (i : Nat) (x : V) (H1 : Hp) (Q' : VK), i < xs.length → xs[i]? = some x → Pot H1 p → Bu p H H1 → (∀ y d H4, Bu p H1 H4 → Pot H4 p → NL d = true → Pd i d → Dp K H4 y d → Q' y H4) → te ((wipe σ vs).set j (some x)) H1 Q')
    (hd : ∀ D H' ys ds, H D = none → D ≠ p → Bu p H H' → Pot H' p → H' D = some (.lst ys) → ds.length = xs.length → (∀ (i : Nat) d, ds[i]? = some d → NL d = true ∧ Pd i d) → DpAll K H' ys ds → Q (.ref D) H') : LcR (gName j) tYes te vs σ Q (Itl K a) H := by
  intro D hD
  have hne : D ≠ p := hp.ne hD
  refine lc_it walk_list (fun i H' => Bu p H H' ∧ Pot H' p ∧ ∃ ys ds, H' D = some (.lst ys) ∧ ds.length = i ∧ (∀ (i : Nat) d, ds[i]? = some d → NL d = true ∧ Pd i d) ∧ DpAll K H' ys ds) ⟨Bu.new hD, hp.upd hne, [], [], upd_same, rfl, fun i d h => by simp at h, .nil⟩ (fun i H' _ h => SqL.of (h.1 _ _ hap ha)) ?_ ?_
  · rintro i x H1 H2 hi ⟨b1, p1, ys, ds, eD, hlen, hds, hall⟩ ⟨rfl, hx⟩
    refine ⟨hw _, ?_⟩
    show te ((wipe σ vs).set j (some x)) _ _
    refine hs i x _ _ hi hx p1 b1 fun y d H4 b4 p4 hnl hpd hdp => ?_
    have e4 := b4 _ _ hne eD
    obtain ⟨zs, ez⟩ := p1.lst
    have nl : NLs ds = true := NLs.of fun d hd => by
      obtain ⟨i, hi⟩ := List.getElem?_of_mem hd
      exact (hds i d hi).1
    refine ⟨ys, e4, ?_, ?_, p4.upd hne, ys ++ [y], ds ++ [d], upd_same, by simp [hlen], ?_, ?_⟩
    · rw [hall.len, hlen]; unfold sizeLine; omega
    · intro b o nb e
      rw [upd_ne (ne_of_none e hD)]
      exact (b1.trans b4) b o nb e
    · intro i' d' h'
      rcases Nat.lt_trichotomy i' ds.length with z | z | z
      · rw [List.getElem?_append_left z] at h'
        exact hds i' d' h'
      · subst z
        rw [List.getElem?_append_right (Nat.le_refl _), Nat.sub_self] at h'
        obtain rfl := Option.some.inj h'
        rw [hlen]
        exact ⟨hnl, hpd⟩
      · rw [List.getElem?_eq_none (by simp; omega)] at h'
        cases h'
    · exact ((hall.bu nl b4 ez).bu nl Bu.set e4).app (.cons (hdp.bu hnl Bu.set e4) .nil)
  · rintro H1 ⟨b1, p1, ys, ds, eD, hlen, hds, hall⟩
    exact hd D H1 ys ds hD hne b1 p1 eD hlen hds hall
end
end Mv
set_option Elab.async false
set_option maxRecDepth 100000
set_option maxHeartbeats 4000000
/-! An instance that changes: its fields are stored, all else is kept. -/
namespace Mv
open PySem PySem.Spec PyProof.Rows L2
/-- the instance at a, of k fields, changes; all else is kept -/
def Mi (a : Addr) (k : Nat) (H H' : Hp) : Prop := (∃ C dx fs, H a = some (.ins C dx fs) ∧ fs.length = k) ∧ Bu a H H'
def SfR (K : PySem.W.Frag) (f : Str) (y : V) (n : L2.St → Hp → Prop) (σ : L2.St) : VK := fun x H2 => ∃ a C dx fs, x = .ref a ∧ H2 a = some (.ins C dx fs) ∧ Cls K C ∧ NoAttr K C f ∧ fs.length < 1000 ∧ n σ (upd H2 a (.ins C dx (putF f y fs)))
section
variable {K : PySem.W.Frag} {σ : L2.St} {H H' : Hp} {Q : VK} {n b c : L2.St → Hp → Prop} {rt : VK} {x y v : V} {xs ys : List V} {ta tv te : TE} {a p q C dx : Addr} {f : Str} {fs fs' : List (Str × V)} {k : Nat} {d : PyData} {ds : List PyData} {vs : List V}
theorem ps_fld' {X : Cx} {o value : Expr} {pos pos' : Pos} (ha : PE X o ta) (hv : PE X value tv) (hs : swapsWith value (some (.Attribute o f pos')) pos.line X.env = pure false) (e : X.K = K := by (conv => lhs; whnf)) : PS X (.Assign [.Attribute o f pos'] value pos) (sFld K ta tv f) := by
  subst e
  exact ps_fld ha hv hs
theorem go_sfld (q : tv σ H fun y H1 => ta σ H1 (SfR K f y n σ)) : sFld K ta tv f ⟨n, rt, b, c⟩ σ H := q
theorem go_sfr (h : H a = some (.ins C dx fs)) (hc : Cls K C) (hn : NoAttr K C f) (hl : fs.length < 1000) (e : putF f y fs = fs') (q : ∀ H', Mi a fs.length H H' → H' a = some (.ins C dx fs') → n σ H') : SfR K f y n σ (.ref a) H :=
  ⟨a, C, dx, fs, rfl, h, hc, hn, hl, by subst e; exact q _ ⟨⟨C, dx, fs, h, rfl⟩, Bu.set⟩ upd_same⟩
theorem mi_sqt (s : Mi a k H H') (h : SqT K H p xs) : SqT K H' p xs := by
  obtain ⟨⟨C, dx, fs, e, _⟩, b⟩ := s
  rcases h with (h | ⟨o, h⟩) | h
  · exact .inl (.inl (b p _ (fun z => by rw [z, e] at h; cases h) h))
  · exact .inl (.inr ⟨o, b p _ (fun z => by rw [z, e] at h; cases h) h⟩)
  · exact .inr h
theorem mi_sql (s : Mi a k H H') (h : SqL K H p xs) : SqL K H' p xs := by
  obtain ⟨⟨C, dx, fs, e, _⟩, b⟩ := s
  rcases h with (h | ⟨o, h⟩) | h
  · exact .inl (.inl (b p _ (fun z => by rw [z, e] at h; cases h) h))
  · exact .inl (.inr ⟨o, b p _ (fun z => by rw [z, e] at h; cases h) h⟩)
  · exact .inr h
theorem mi_gett (s : Mi a k H H') (h : H p = some (.tup xs)) : H' p = some (.tup xs) := by
  obtain ⟨⟨C, dx, fs, e, _⟩, b⟩ := s
  exact b p _ (fun z => by rw [z, e] at h; cases h) h
theorem mi_getl (s : Mi a k H H') (h : H p = some (.lst xs)) : H' p = some (.lst xs) := by
  obtain ⟨⟨C, dx, fs, e, _⟩, b⟩ := s
  exact b p _ (fun z => by rw [z, e] at h; cases h) h
theorem mi_pot (s : Mi a k H H') (h : Pot H p) : Pot H' p := by
  obtain ⟨x, y, e, r⟩ := h.ex
  exact ⟨x, y, mi_getl s e, r⟩
mutual
theorem mi_dp' (s : Mi a k H H') : ∀ (d : PyData) (v : V), Dp K H v d → Dp K H' v d
  | .none, _, h => by cases h; exact .non
  | .bool b, _, h => by cases h; exact .bl b
  | .int i, _, h => by cases h; exact .int i
  | .str x, _, h => by cases h; exact .str x
  | .list ds, _, h => by
    cases h with
    | lst hs ha => exact .lst (mi_sql s hs) (mi_dpa' s ds _ ha)
  | .tuple ds, _, h => by
    cases h with
    | tup hs ha => exact .tup (mi_sqt s hs) (mi_dpa' s ds _ ha)
  | .dict _, _, h => by cases h
theorem mi_dpa' (s : Mi a k H H') : ∀ (ds : List PyData) (vs : List V), DpAll K H vs ds → DpAll K H' vs ds
  | [], _, h => by cases h; exact .nil
  | d :: ds, _, h => by
    cases h with
    | cons h1 h2 => exact .cons (mi_dp' s d _ h1) (mi_dpa' s ds _ h2)
end
theorem mi_dp (s : Mi a k H H') (h : Dp K H v d) : Dp K H' v d := mi_dp' s d v h
theorem mi_dpa (s : Mi a k H H') (h : DpAll K H vs ds) : DpAll K H' vs ds := mi_dpa' s ds vs h
theorem mi_same (s : Same H H') (h : H a = some (.ins C dx fs)) : Mi a fs.length H H' := ⟨⟨C, dx, fs, h, rfl⟩, Bu.of s a⟩
theorem mi_refl (h : H a = some (.ins C dx fs)) (hk : fs.length = k) : Mi a k H H := ⟨⟨C, dx, fs, h, hk⟩, Bu.refl _ _⟩
/-- Mi, then nothing old changes; and so on -/
theorem Mi.up {H0 : Hp} (h : Mi a k H0 H) (s : Same H H') : Mi a k H0 H' := ⟨h.1, h.2.trans (Bu.of s a)⟩
theorem up_mi {H0 : Hp} (s : Same H H') (h : Mi a k H0 H) : Mi a k H0 H' := h.up s
theorem mi_mi {H0 : Hp} {j : Nat} (s : Mi a j H H') (h : Mi a k H0 H) : Mi a k H0 H' := ⟨h.1, h.2.trans s.2⟩
theorem mi_bu {H0 : Hp} (s : Mi a k H H') (h : Bu a H0 H) : Bu a H0 H' := h.trans s.2
end
end Mv
set_option Elab.async false
set_option maxRecDepth 100000
set_option maxHeartbeats 4000000
/-! Keyword calls in another sequence, repr, is, powers: for the steps of mvo. -/
namespace Mv
open PySem PySem.Spec PyProof.Rows L2
def kSw2 {α : Type} (vs zs : List α) : List α := match vs, zs with
  | [], [a, b] => [b, a]
  | vs, zs => vs ++ zs
def kRev3 {α : Type} (vs zs : List α) : List α := match vs, zs with
  | [], [a, b, c] => [c, b, a]
  | vs, zs => vs ++ zs
def kId {α : Type} (vs zs : List α) : List α := vs ++ zs
theorem kSw2_rel {vs zs : List V} {us ws : List Value} (h1 : Vals vs us) (h2 : Vals zs ws) : Vals (kSw2 vs zs) (kSw2 us ws) := by
  cases h1 with
  | cons a b => exact Vals.append (Paired.cons a b) h2
  | nil =>
    cases h2 with
    | nil => exact .nil
    | cons a h =>
      cases h with
      | nil => exact .cons a .nil
      | cons b h =>
        cases h with
        | nil => exact .cons b (.cons a .nil)
        | cons c h => exact .cons a (.cons b (.cons c h))
theorem kRev3_rel {vs zs : List V} {us ws : List Value} (h1 : Vals vs us) (h2 : Vals zs ws) : Vals (kRev3 vs zs) (kRev3 us ws) := by
  cases h1 with
  | cons a b => exact Vals.append (Paired.cons a b) h2
  | nil =>
    cases h2 with
    | nil => exact .nil
    | cons a h =>
      cases h with
      | nil => exact .cons a .nil
      | cons b h =>
        cases h with
        | nil => exact .cons a (.cons b .nil)
        | cons c h =>
          cases h with
          | nil => exact .cons c (.cons b (.cons a .nil))
          | cons d h => exact .cons a (.cons b (.cons c (.cons d h)))
theorem kId_rel {vs zs : List V} {us ws : List Value} (h1 : Vals vs us) (h2 : Vals zs ws) : Vals (kId vs zs) (kId us ws) := h1.append h2
def KnR (m : Nat) (sp : Sp) (gV : List V → List V → List V) (pre : List V) (Q : VK) : List V → Hp → Prop := fun zs H2 => zs.length = m ∧ sp (gV pre zs) H2 Q E0
section
variable {K : PySem.W.Frag} {σ : L2.St} {H H' : Hp} {Q : VK} {x y v : V} {vs zs pre : List V} {t : TA} {ta : TE} {a C dx : Addr} {fs : List (Str × V)} {sp : Sp} {gV : List V → List V → List V} {n m : Nat} {ds : List PyData} {nm : Str}
theorem go_knr0 (q : t σ H (KnR m sp gV pre Q)) : tCallKn n m sp gV pre t σ H Q := q
theorem go_knr (hl : zs.length = m) (e : gV pre zs = vs) (q : sp vs H Q E0) : KnR m sp gV pre Q zs H := ⟨hl, by rw [e]; exact q⟩
def MkR (C : Addr) (nm : Str) (n : Nat) (sp : Sp) (gV : List V → List V → List V) (tk : TA) (σ : L2.St) (Q : VK) : VK := fun x H1 => ∃ a dx fs, x = .ref a ∧ H1 a = some (.ins C dx fs) ∧ fs.lookup nm = none ∧ tk σ H1 fun zs H2 => zs.length = n ∧ sp (gV [x] zs) H2 Q E0
theorem go_mkn (q : ta σ H (MkR C nm n sp gV t σ Q)) : tMethKn C nm n sp gV ta t σ H Q := q
theorem go_mkr (h : H a = some (.ins C dx fs)) (hm : fs.lookup nm = none) (q : t σ H (KnR n sp gV [.ref a] Q)) : MkR C nm n sp gV t σ Q (.ref a) H := ⟨a, dx, fs, rfl, h, hm, q⟩
theorem go_isiD (h : Dp K H v (.tuple ds)) (q : Q (.bl true) H) : rIsi K [v, .ty "tuple"] H Q := by
  obtain ⟨b, xs, rfl, hs, _⟩ := h.tupE
  exact ⟨_, _, _, _, true, rfl, .ty _, tyT hs, kit_ty (by decide +kernel), q⟩
theorem go_lenD (h : Dp K H v (.tuple ds)) (q : Q (.int (ds.length : Int)) H) : rLenSeq K [v] H Q := by
  obtain ⟨b, xs, rfl, hs, ha⟩ := h.tupE
  exact ⟨b, xs, rfl, .inr hs, by rw [ha.len]; exact q⟩
theorem go_isB {a b : Bool} (q : Q (.bl (decide (a = b))) H) : rIsB (.bl a) (.bl b) H Q := ⟨a, b, rfl, rfl, q⟩
theorem go_notB {a b : Bool} (q : Q (.bl (!decide (a = b))) H) : rNotB (.bl a) (.bl b) H Q := ⟨a, b, rfl, rfl, q⟩
theorem go_eqS {a b : Str} (q : Q (.bl (decide (a = b))) H) : rEq (.str a) (.str b) H Q := ⟨rfl, by rw [decide_eq_decide.mpr (show V.str a = V.str b ↔ a = b by rw [V.str.injEq])]; exact q⟩
theorem go_neS {a b : Str} (q : Q (.bl (!decide (a = b))) H) : rNe (.str a) (.str b) H Q := ⟨rfl, by rw [decide_eq_decide.mpr (show V.str a = V.str b ↔ a = b by rw [V.str.injEq])]; exact q⟩
theorem go_eqB {a b : Bool} (q : Q (.bl (decide (a = b))) H) : rEq (.bl a) (.bl b) H Q := ⟨rfl, by rw [decide_eq_decide.mpr (show V.bl a = V.bl b ↔ a = b by rw [V.bl.injEq])]; exact q⟩
theorem go_powN {m' n' : Nat} (h : n' ≤ 1000000 ∧ m' < 2 ^ 63) (q : Q (.int ((m' ^ n' : Nat) : Int)) H) : rI CPow (fun i j => .int (i ^ j.toNat)) (.int (m' : Int)) (.int (n' : Int)) H Q :=
  ⟨_, _, rfl, rfl, ⟨by omega, by omega, by rw [Int.natAbs_natCast]; omega⟩, by show Q (.int ((m' : Int) ^ ((n' : Int).toNat))) H; rw [Int.toNat_natCast]; rw [Int.natCast_pow] at q; exact q⟩
theorem call_reprD' {X : Cx} {k : Nat} (ga : GA X.A) (hr : Room k X.A) (e : X.K = K := by (conv => lhs; whnf)) : CallR X (.builtin "repr") (rReprD K) := by
  subst e
  exact call_reprD ga hr
theorem go_reprD {d : PyData} (h : Dp K H (.ref a) d) (hs : d.showable = true ∧ d.hasDict = false ∧ d.depth ≤ 60 ∧ d.shown.length ≤ sizeLine) (q : Q (.str d.shown) H) : rReprD K [.ref a] H Q := ⟨a, d, rfl, h, hs.1, hs.2.1, hs.2.2.1, hs.2.2.2, q⟩
theorem go_reprT (h : Dp K H v (.tuple ds)) (hs : (PyData.tuple ds).showable = true ∧ (PyData.tuple ds).hasDict = false ∧ (PyData.tuple ds).depth ≤ 60 ∧ (PyData.tuple ds).shown.length ≤ sizeLine) (q : Q (.str (PyData.tuple ds).shown) H) : rReprD K [v] H Q := by
  obtain ⟨b, xs, rfl, _⟩ := h.tupE
  exact go_reprD h hs q
theorem pe_revT' {X : Cx} {e : Expr} {te : TE} {k : Nat} {p1 p2 p3 pos : Pos} (he : PE X e te) (eK : X.K = K := by (conv => lhs; whnf)) : PE X (.Subscript e (.Slice none none (some (.UnaryOp .USub (.Constant (.int 1) k p1) p2)) p3) pos) (tRevT K te) := by
  subst eK
  exact pe_revT he
def RvT (K : PySem.W.Frag) (Q : VK) : VK := fun x H1 => ∃ a xs, x = .ref a ∧ SqT K H1 a xs ∧ ∀ p, H1 p = none → Q (.ref p) (upd H1 p (.tup xs.reverse))
theorem go_revt (q : ta σ H (RvT K Q)) : tRevT K ta σ H Q := q
theorem go_rvt {xs ys : List V} (h : SqT K H a xs) (e : xs.reverse = ys) (q : ∀ p H', H p = none → Same H H' → H' p = some (.tup ys) → Q (.ref p) H') : RvT K Q (.ref a) H := ⟨a, xs, rfl, h, fun p hp => q p _ hp (same_new hp) (by rw [upd_same, e])⟩
theorem pg_unl' {X : Cx} {es : List Expr} {k : Nat} {pos : Pos} {tg : TGs} (n : Nat) (h : PGs X es tg) (eK : X.K = K := by (conv => lhs; whnf)) (hc : X.calm = true := by rfl)
    (hn : (assignEach es X.env).length = n := by rfl) (hst : (assignEach es X.env).findIdx? (·.1) = none := by rfl) : PG X (.Tuple es k pos) (gUnl K n tg) := by
  subst eK
  exact pg_unl hc h hn hst
theorem go_gunl {k : Nat} {gs : TGs} {xs : List V} {QS : L2.St → Hp → Prop} (h : SqL K H a xs) (hl : xs.length = k) (q : gs xs σ H QS) : gUnl K k gs (.ref a) σ H QS := ⟨a, xs, rfl, h, hl, q⟩
theorem pi_zipA' {X : Cx} {e1 e2 : Expr} {ta : TA} {p pos tpos : Pos} {elts : List Expr} {kk : Nat} (hg : Gl X "zip") (hm : X.mg "zip" = none) (ha : PA X [e1, e2] ta) (eK : X.K = K := by (conv => lhs; whnf)) (hs : starEach [e1, e2] X.env = (false, eval e1 X.env) :: starEach [e2] X.env := by rfl) (hpl : (backTo pos (starEach [e2] X.env)).any (·.1) = false := by rfl) : PI X (.Tuple elts kk tpos) (.Call (.Name "zip" p) [e1, e2] [] pos) (RZ.iZipA K ta) := by
  subst eK
  exact RZ.pi_zipA hg hm ha hs hpl
/-- C(..) -/
def MakR (C : Addr) (sp : Sp) (dvs : List V) (E : XK) (Q : VK) : List V → Hp → Prop := fun vs H1 => ∀ x dx, H1 x = none → H1 dx = none → dx ≠ x → sp (.ref x :: (vs ++ dvs)) (upd (upd H1 dx (.own x)) x (.ins C dx [])) (fun v H2 => v = .non ∧ Q (.ref x) H2) E
theorem go_make0 {dvs : List V} {E : XK} (q : t σ H (MakR C sp dvs E Q)) : tMake C sp dvs E t σ H Q := q
/-- x op= e -/
def AugK (i : Nat) (σ : L2.St) (n : L2.St → Hp → Prop) : VK := fun z H2 => n (σ.set i (some z)) H2
theorem go_aug {i : Nat} {ti : TIp} {n' b' c' : L2.St → Hp → Prop} {rt : VK} (h : σ[i]? = some (some x)) (q : ta σ H fun y H1 => ti x y H1 (AugK i σ n')) : tAug i ta ti ⟨n', rt, b', c'⟩ σ H := ⟨x, h, q⟩
theorem go_augk {i : Nat} {σ' : L2.St} {n' : L2.St → Hp → Prop} (e : σ.set i (some x) = σ') (q : n' σ' H) : AugK i σ n' x H := by subst e; exact q
def rMn : List V → Hp → VK → Prop := fun xs H Q => ∃ i j, xs = [.int i, .int j] ∧ Q (.int (if j < i then j else i)) H
def rMx : List V → Hp → VK → Prop := fun xs H Q => ∃ i j, xs = [.int i, .int j] ∧ Q (.int (if j > i then j else i)) H
def rIn1 : List V → Hp → VK → Prop := fun xs H Q => (∃ i, xs = [.int i] ∧ Q (.int i) H) ∨ ∃ k, xs = [.bl k] ∧ Q (.int (if k then 1 else 0)) H
def rAb : List V → Hp → VK → Prop := fun xs H Q => ∃ i, xs = [.int i] ∧ Q (.int (if i < 0 then -i else i)) H
def rStI : List V → Hp → VK → Prop := fun xs H Q => ∃ i, xs = [.int i] ∧ i.natAbs.log2 < 1920 ∧ Q (.str (toString i)) H
def rLnS : List V → Hp → VK → Prop := fun xs H Q => ∃ z, xs = [.str z] ∧ z.length ≤ sizeLine ∧ Q (.int z.length) H
def rAdS : R2 := fun x y H Q => ∃ i j, x = .str i ∧ y = .str j ∧ i.length + j.length ≤ sizeLine ∧ Q (.str (i ++ j)) H
def rIsNo : R2 := fun x y H Q => y = .non ∧ Q (.bl (decide (x = .non))) H
def rNotNo : R2 := fun x y H Q => y = .non ∧ Q (.bl (!decide (x = .non))) H
theorem call_min2' {X : Cx} (hc : X.calm = true) : CallR X (.builtin "min") rMn := call_min2 hc
theorem call_max2' {X : Cx} (hc : X.calm = true) : CallR X (.builtin "max") rMx := call_max2 hc
theorem call_int1' {X : Cx} : CallR X (.type "int") rIn1 := call_int1
theorem call_abs' {X : Cx} : CallR X (.builtin "abs") rAb := call_abs
theorem call_str_int' {X : Cx} : CallR X (.type "str") rStI := call_str_int
theorem call_len_str' {X : Cx} : CallR X (.builtin "len") rLnS := call_len_str
theorem op_add_str' {X : Cx} : OpR X (binaryOp .Add) rAdS := op_add_str
theorem op_isN' {X : Cx} : OpR X (compareOp .Is) rIsNo := op_isN
theorem op_notN' {X : Cx} : OpR X (compareOp .IsNot) rNotNo := op_notN
theorem go_min2 {m' n' : Nat} (q : Q (.int ((min m' n' : Nat) : Int)) H) : rMn [V.int (m' : Int), V.int (n' : Int)] H Q := by
  refine ⟨_, _, rfl, ?_⟩
  by_cases h : n' < m'
  · rw [if_pos (by omega)]
    rw [Nat.min_eq_right (by omega)] at q
    exact q
  · rw [if_neg (by omega)]
    rw [Nat.min_eq_left (by omega)] at q
    exact q
theorem go_max2 {m' n' : Nat} (q : Q (.int ((max m' n' : Nat) : Int)) H) : rMx [V.int (m' : Int), V.int (n' : Int)] H Q := by
  refine ⟨_, _, rfl, ?_⟩
  by_cases h : n' > m'
  · rw [if_pos (by omega)]
    rw [Nat.max_eq_right (by omega)] at q
    exact q
  · rw [if_neg (by omega)]
    rw [Nat.max_eq_left (by omega)] at q
    exact q
theorem go_int1 {i : Int} (q : Q (.int i) H) : rIn1 [V.int i] H Q := .inl ⟨i, rfl, q⟩
theorem go_intB {k : Bool} (q : Q (.int (((if k then 1 else 0 : Nat)) : Int)) H) : rIn1 [V.bl k] H Q := .inr ⟨k, rfl, by cases k <;> exact q⟩
theorem go_absN {m' : Nat} (q : Q (.int (m' : Int)) H) : rAb [V.int (m' : Int)] H Q := ⟨_, rfl, by rw [if_neg (by omega)]; exact q⟩
theorem go_isN (q : Q (.bl (decide (x = .non))) H) : rIsNo x .non H Q := ⟨rfl, q⟩
theorem go_notN (q : Q (.bl (!decide (x = .non))) H) : rNotNo x .non H Q := ⟨rfl, q⟩
theorem mi_fr {H0 : Hp} {k : Nat} (s : Mi a k H H') (n : H0 a = none) (h : Same H0 H) : Same H0 H' := fun c o e => s.2 c o (fun z => by rw [z, n] at e; cases e) (h c o e)
theorem free_of {H0 : Hp} (n : H a = none) (s : Same H0 H) : H0 a = none := s.free n
theorem lg_lt {x n : Nat} (h : x < 2 ^ n) (hn : 0 < n) : x.log2 < n := by
  rcases Nat.eq_zero_or_pos x with z | z
  · subst z; exact hn
  · exact (Nat.log2_lt (by omega)).mpr h
/-- a bound for numbers that are shown -/
def bigN : Nat := 10 ^ 400
theorem shw_pair {x y : Nat} (hx : x < bigN) (hy : y < bigN) : (PyData.tuple [.int x, .int y]).showable = true ∧ (PyData.tuple [.int x, .int y]).hasDict = false ∧ (PyData.tuple [.int x, .int y]).depth ≤ 60 ∧ (PyData.tuple [.int x, .int y]).shown.length ≤ sizeLine := by
  unfold bigN at hx hy
  have l : ∀ z : Nat, z < 10 ^ 400 → z.log2 < 1920 := fun z hz => lg_lt (Nat.lt_trans hz (by decide +kernel)) (by decide)
  have s : ∀ z : Nat, z < 10 ^ 400 → (PyData.shown (.int (z : Int))).length ≤ 401 := fun z hz => by
    have e := int_text_length_le10 (a := (z : Int)) (k := 400) (by decide) (by rw [Int.natAbs_natCast]; exact hz)
    show (Str.ofString (toString (z : Int))).length ≤ 401
    rw [PySem.ofString_length]; exact e
  refine ⟨?_, rfl, by simp [PyData.depth, PyData.depthAll], ?_⟩
  · simp only [PyData.showable, PyData.showableAll, Bool.and_true, Bool.and_eq_true, decide_eq_true_eq, Int.natAbs_natCast]
    exact ⟨l x hx, l y hy⟩
  · have := PyData.shown_le 401 (by decide) (.tuple [.int (x : Int), .int (y : Int)]) (by
      simp only [PyData.leavesShort, PyData.leavesShortAll, Bool.and_true, Bool.and_eq_true, decide_eq_true_eq]
      exact ⟨s x hx, s y hy⟩)
    refine Nat.le_trans this ?_
    have w : ∀ z : Nat, z < 10 ^ 400 → PyData.weight (.int (z : Int)) ≤ 1920 := fun z hz => by
      have := l z hz
      simp only [PyData.weight, Int.natAbs_natCast]
      split <;> omega
    have w1 := w x hx
    have w2 := w y hy
    simp only [PyData.weight, PyData.weightAll] at w1 w2 ⊢
    clear hx hy
    unfold sizeLine
    omega
theorem go_reprPr {x y : Nat} (h : Dp K H v (.tuple [.int x, .int y])) (hx : x < bigN) (hy : y < bigN) (q : Q (.str (PyData.tuple [.int x, .int y]).shown) H) : rReprD K [v] H Q := go_reprT h (shw_pair hx hy) q
end
end Mv
set_option Elab.async false
namespace T
open PySem L2 Mv
section
variable {K : PySem.W.Frag} {C a : Addr} {H H' : Hp} {v u : V} {rs qs : List (List Pm.Cut)} {Q : VK} {E : XK} {σ : L2.St} {t : TA} {sp : Sp} {m : Str} {k : Nat}
theorem up_plan (s : Same H H') (h : PlanAt K C H v rs) : PlanAt K C H' v rs := h.same s
theorem mi_plan (s : Mi a k H H') (hk : k ≠ 3) (h : PlanAt K C H v rs) : PlanAt K C H' v rs := by
  obtain ⟨b, dx, R, Pt, e, eb, h1, h2⟩ := h.ex
  refine ⟨⟨b, dx, R, Pt, e, s.2 b _ (fun z => ?_) eb, mi_dp s h1, mi_dp s h2⟩, h.ok⟩
  obtain ⟨⟨C', dx', fs, ea, hl⟩, _⟩ := s
  rw [z, ea] at eb
  cases eb
  exact hk hl.symm
/-- a method of a plan -/
theorem go_mep (h : PlanAt K C H v rs) (m1 : m ≠ "own_rounds") (m2 : m ≠ "own_parts") (m3 : m ≠ "own_growth") (q : t σ H fun vs H2 => sp (v :: vs) H2 Q E) : MeR C m sp [] E t σ Q v H := by
  obtain ⟨a, dx, fs, rfl, ea, hl⟩ := plan_obj h
  exact go_mer ea (hl m m1 m2 m3) q
/-- == of plans -/
theorem go_eqP (I : ClsI K C) (h1 : PlanAt K C H v rs) (h2 : PlanAt K C H u qs) (q : Q (.bl (decide (rs = qs))) H) : rEqO K C (sp_peq K C) v u H Q := by
  obtain ⟨a, dx, fs, rfl, ea, _⟩ := plan_obj h1
  obtain ⟨b, dy, fs', rfl, eb, _⟩ := plan_obj h2
  exact ⟨a, dx, fs, .ref C, rfl, ea, I.ty eb, I.nf, _, _, rs, qs, rfl, h1, h2, q⟩
theorem go_neP (I : ClsI K C) (h1 : PlanAt K C H v rs) (h2 : PlanAt K C H u qs) (q : Q (.bl (!decide (rs = qs))) H) : rNeO K C (sp_peq K C) v u H Q := by
  obtain ⟨a, dx, fs, rfl, ea, _⟩ := plan_obj h1
  obtain ⟨b, dy, fs', rfl, eb, _⟩ := plan_obj h2
  exact ⟨a, dx, fs, .ref C, rfl, ea, I.ty eb, I.nf, _, _, rs, qs, rfl, h1, h2, _, rfl, q⟩
theorem go_lenNm {ns : List Nat} (h : Dp K H v (dNm ns)) (q : Q (.int (ns.length : Int)) H) : rLenSeq K [v] H Q := go_lenD h (by rw [List.length_map]; exact q)
theorem go_isiNm {ns : List Nat} (h : Dp K H v (dNm ns)) (q : Q (.bl true) H) : rIsi K [v, .ty "tuple"] H Q := go_isiD h q
/-- the name can be shown -/
def NmShw (ns : List Nat) : Prop := (dNm ns).showable = true ∧ (dNm ns).hasDict = false ∧ (dNm ns).depth ≤ 60 ∧ (dNm ns).shown.length ≤ sizeLine
theorem go_reprNm {ns : List Nat} (h : Dp K H v (dNm ns)) (hs : NmShw ns) (q : Q (.str (dNm ns).shown) H) : rReprD K [v] H Q := go_reprT h hs q
theorem nd_nm (ns : List Nat) : (dNm ns).hasDict = false := by
  unfold dNm
  rw [PyData.hasDict]
  induction ns with
  | nil => rfl
  | cons n ns ih => rw [List.map_cons, PyData.hasDictAll, ih]; rfl
theorem go_isi {c : Bool} {D : Addr} {tv : Value} (h1 : TyX K H v tv) (h2 : PySem.W.kitOne K tv (.ref D) = some c) (q : Q (.bl c) H) : rIsi K [v, .ref D] H Q := ⟨_, _, _, _, c, rfl, .own D, h1, h2, q⟩
end
end T
set_option Elab.async false
set_option maxRecDepth 100000
set_option maxHeartbeats 4000000
namespace T
open PySem L2 Mv
abbrev s_isname : Stmt := top 51
theorem sc_isname : FnScope ["plan", "value"] ["plan", "value"] (defScope s_isname) := ⟨rfl, rfl, rfl, by decide +kernel, rfl, by decide +kernel, by decide +kernel⟩
abbrev s_children : Stmt := top 53
theorem sc_children : FnScope ["plan", "name", "sign"] ["plan", "name"] (defScope s_children) := ⟨rfl, rfl, rfl, by decide +kernel, rfl, by decide +kernel, by decide +kernel⟩
section
variable {P : Program} {w : World} {K : PySem.W.Frag} {mg : Str → Option Value} {base : Heap} {C AX : Addr}
local macro_rules | `(tactic| tb_rel) => `(tactic| repeat (first
  | with_reducible assumption
  | with_reducible exact Dp.int _
  | with_reducible exact Dp.str _
  | with_reducible exact Dp.bl _
  | with_reducible exact Dp.non
  | (with_reducible apply SqT.of; with_reducible assumption)
  | (with_reducible apply SqL.of; with_reducible assumption)
  | (with_reducible apply up_dp; with_reducible assumption)
  | (with_reducible apply up_sqt; with_reducible assumption)
  | (with_reducible apply up_sql; with_reducible assumption)
  | (with_reducible apply up_get; with_reducible assumption)
  | (with_reducible apply up_pot; with_reducible assumption)
  | with_reducible exact Same.refl _
  | with_reducible exact Bu.refl _ _
  | (with_reducible apply up_same; with_reducible assumption)
  | (with_reducible apply up_bu; with_reducible assumption)
  | (with_reducible apply bu_bu; with_reducible assumption)
  | (with_reducible apply free_of; with_reducible assumption)
  | (with_reducible apply mi_fr; with_reducible assumption; (focus (tb_rel; done)))
  | (with_reducible apply mi_dp; with_reducible assumption)
  | (with_reducible apply mi_sqt; with_reducible assumption)
  | (with_reducible apply mi_sql; with_reducible assumption)
  | (with_reducible apply mi_gett; with_reducible assumption)
  | (with_reducible apply mi_getl; with_reducible assumption)
  | (with_reducible apply mi_pot; with_reducible assumption)
  | (with_reducible apply mi_refl; with_reducible assumption; (focus (with_unfolding_all exact rfl)))
  | (with_reducible apply up_mi; with_reducible assumption)
  | (with_reducible apply mi_mi; with_reducible assumption)
  | (with_reducible apply mi_bu; with_reducible assumption)
  | (with_reducible apply up_plan; with_reducible assumption)
  | (with_reducible apply mi_plan; with_reducible assumption; (focus (lcg_src; done)))
  | (with_reducible apply bu_gett; with_reducible assumption; (focus (tb_rel; done)))
  | (with_reducible apply bu_geti; with_reducible assumption; (focus (tb_rel; done)))
  | (with_reducible apply bu_get; with_reducible assumption; (focus (tlg_ne; done)))
  | (with_reducible apply bu_sqt; with_reducible assumption; (focus (tb_rel; done)))
  | (with_reducible apply bu_sql; with_reducible assumption; (focus (tlg_ne; done)))
  | (with_reducible apply bu_dp; with_reducible assumption; (focus (tb_rel; done)); (focus (lcg_src; done)))
  | fail "up"))
local macro_rules | `(tactic| tlg_ne) => `(tactic| first
  | with_reducible assumption
  | (with_reducible apply pot_ne; with_reducible assumption; (focus (tb_rel; done)))
  | fail "ne")
local macro_rules | `(tactic| lcg_src) => `(tactic| first
  | with_reducible assumption
  | with_unfolding_all exact rfl
  | with_unfolding_all decide
  | with_unfolding_all exact Nat.ne_of_beq_eq_false rfl
  | (apply_assumption; done)
  | omega
  | (simp; done)
  | (simp; omega)
  | fail "sd")
local macro_rules | `(tactic| lcg_sub) => `(tactic| first
  | (unfold sizeLine; omega)
  | (simp only [List.length_cons, List.length_nil, List.length_append, List.length_map, List.length_replicate, List.length_take, List.length_drop]; unfold sizeLine; omega)
  | (simp; unfold sizeLine; omega)
  | fail "sz")
local macro_rules | `(tactic| nest_cls) => `(tactic| first
  | (tb_rel; done)
  | (with_reducible apply nmI; (focus (tb_rel; done)))
  | (with_reducible apply d_tup; (focus (tb_rel; done)); (focus (lsm_bools; done)))
  | (with_reducible apply d_lst; (focus (tb_rel; done)); (focus (lsm_bools; done)))
  | fail "dp")
local macro_rules | `(tactic| lsm_bools) => `(tactic| repeat (first
  | with_reducible exact DpAll.nil
  | with_reducible assumption
  | (with_reducible apply DpAll.cons; (focus (nest_cls; done)))
  | fail "dpa"))
local macro_rules | `(tactic| none_booked) => `(tactic| first | with_unfolding_all exact rfl | (with_reducible apply atI_nat; with_reducible assumption) | fail "ix")
local macro_rules | `(tactic| walk_at "go") => `(tactic| repeat (first
  | (focus (with_reducible refine go_var (v := ?_) ?_ ?_; rotate_left; (focus (with_unfolding_all exact rfl))))
  | with_reducible refine go_seq ?_
  | with_reducible refine go_cN ?_
  | with_reducible refine go_c ?_
  | with_reducible refine go_op ?_
  | with_reducible refine go_nil ?_
  | with_reducible refine go_cons ?_
  | with_reducible refine go_cb ?_
  | with_reducible refine go_call0 ?_
  | with_reducible refine go_asg ?_
  | (focus (with_reducible refine go_gname (σ' := ?_) ?_ ?_; rotate_left; (focus (simp only [List.set_cons_succ, List.set_cons_zero]; exact rfl))))
  | with_reducible refine go_par ?_
  | (focus (with_reducible refine go_par2 (σ' := ?_) ?_ ?_; rotate_left; (focus (simp only [List.set_cons_succ, List.set_cons_zero]; exact rfl))))
  | with_reducible refine go_ifs ?_
  | with_reducible refine go_test ?_
  | with_reducible refine go_tb ?_
  | with_reducible refine go_asb ?_
  | with_reducible refine go_asi ?_
  | with_reducible refine go_ret ?_
  | with_reducible refine go_retn ?_
  | with_reducible refine go_drop ?_
  | with_reducible refine go_next ?_
  | with_reducible refine go_and ?_
  | with_reducible refine go_or ?_
  | with_reducible refine go_not ?_
  | with_reducible refine go_andv ?_
  | with_reducible refine go_orv ?_
  | with_reducible refine go_notv ?_
  | with_reducible refine go_ife ?_
  | with_reducible refine go_chain ?_
  | with_reducible refine go_if1 ?_
  | with_reducible refine go_if0 ?_
  | with_reducible refine go_ifn1 ?_
  | with_reducible refine go_ifn0 ?_
  | (with_reducible apply go_ift; (focus (first | with_reducible rfl | with_reducible assumption | omega)))
  | (with_reducible apply go_ifnt; (focus (first | with_reducible rfl | with_reducible assumption | omega)))
  | (with_reducible apply go_iff; (focus (first | with_reducible assumption | omega)))
  | (with_reducible apply go_ifnf; (focus (first | with_reducible assumption | omega)))
  | with_reducible refine go_un ?_
  | with_reducible refine go_tup ?_
  | with_reducible refine go_lst ?_
  | (with_reducible apply go_newt; (focus (lcg_sub; done)); intros)
  | (with_reducible apply go_newl; (focus (lcg_sub; done)); intros)
  | with_reducible refine go_meth ?_
  | with_reducible refine go_for ?_
  | with_reducible refine go_lc ?_
  | with_reducible refine go_irng1 ?_
  | with_reducible refine go_irng2 ?_
  | with_reducible refine go_ilist ?_
  | with_reducible refine go_itup ?_
  | with_reducible refine go_izip ?_
  | with_reducible refine go_ienum ?_
  | (with_reducible apply go_rg1; (focus (lcg_src; done)))
  | (with_reducible apply go_rg2; (focus (lcg_src; done)); (focus (lcg_src; done)))
  | (with_reducible apply go_lsr; (focus (tb_rel; done)))
  | (with_reducible apply go_tpr; (focus (tb_rel; done)))
  | (with_reducible apply go_zpr; (focus (tb_rel; done)); (focus (tb_rel; done)))
  | (with_reducible apply go_zprT; (focus (tb_rel; done)); (focus (tb_rel; done)))
  | (with_reducible apply go_enrL; (focus (tb_rel; done)))
  | (with_reducible apply go_enrT; (focus (tb_rel; done)))
  | with_reducible refine go_prop ?_
  | with_reducible refine go_knr0 ?_
  | (with_reducible apply go_knr; (focus (with_unfolding_all exact rfl; done)); (focus (simp only [kSw2, kRev3, kId, List.nil_append, List.cons_append]; exact rfl)))
  | with_reducible refine go_mkn ?_
  | (with_reducible apply go_mkr; (focus (tb_rel; done)); (focus (with_unfolding_all exact rfl; done)))
  | with_reducible refine go_fld ?_
  | (with_reducible apply go_flr; (focus (tb_rel; done)); (focus (with_reducible assumption; done)); (focus (with_reducible assumption; done)); (focus (with_unfolding_all exact rfl; done)))
  | (with_reducible apply go_prr; (focus (tb_rel; done)))
  | (with_reducible apply go_mer; (focus (tb_rel; done)); (focus (with_unfolding_all exact rfl; done)))
  | with_reducible refine go_sfld ?_
  | (with_reducible apply go_sfr; (focus (tb_rel; done)); (focus (with_reducible assumption; done)); (focus (with_reducible assumption; done)); (focus (with_unfolding_all exact Nat.le_of_ble_eq_true rfl; done)); (focus (with_unfolding_all exact rfl; done)); intros)
  | with_reducible refine go_revt ?_
  | with_reducible refine go_make0 ?_
  | (focus (with_reducible refine go_aug (x := ?_) ?_ ?_; rotate_left; (focus (with_unfolding_all exact rfl))))
  | (focus (with_reducible refine go_augk (σ' := ?_) ?_ ?_; rotate_left; (focus (simp only [List.set_cons_succ, List.set_cons_zero]; exact rfl))))
  | with_reducible refine go_min2 ?_
  | with_reducible refine go_int1 ?_
  | with_reducible refine go_max2 ?_
  | with_reducible refine go_intB ?_
  | with_reducible refine go_absN ?_
  | with_reducible refine go_isN ?_
  | with_reducible refine go_notN ?_
  | (with_reducible apply go_rvt; (focus (tb_rel; done)); (focus (simp only [List.reverse_cons, List.reverse_nil, List.nil_append, List.cons_append]; exact rfl)); intros)
  | (with_reducible apply go_reprNm; (focus (tb_rel; done)); (focus (with_reducible assumption; done)))
  | (with_reducible apply go_reprPr; (focus (nest_cls; done)); (focus (lcg_src; done)); (focus (lcg_src; done)))
  | with_reducible refine go_sl ?_
  | with_reducible refine go_part ?_
  | with_reducible refine go_nopart ?_
  | (with_reducible apply go_gtup; (focus (tb_rel; done)); (focus (with_unfolding_all exact rfl; done)))
  | (with_reducible apply go_gunl; (focus (tb_rel; done)); (focus (with_unfolding_all exact rfl; done)))
  | with_reducible refine go_gcons ?_
  | with_reducible refine go_gnil ?_
  | with_reducible refine go_addN ?_
  | with_reducible refine go_ltN ?_
  | with_reducible refine go_leN ?_
  | with_reducible refine go_gtN ?_
  | with_reducible refine go_geN ?_
  | (with_reducible apply go_subN; (focus (omega; done)))
  | with_reducible refine go_rI0 ?_
  | (with_reducible apply go_mulN; (focus (omega; done)))
  | (with_reducible apply go_modN; (focus (omega; done)))
  | (with_reducible apply go_divN; (focus (omega; done)))
  | (with_reducible apply go_powN; (focus (with_unfolding_all decide; done)))
  | with_reducible refine go_rU ?_
  | with_reducible refine go_eqN ?_
  | with_reducible refine go_neN ?_
  | with_reducible refine go_isB ?_
  | with_reducible refine go_notB ?_
  | with_reducible refine go_eqS ?_
  | with_reducible refine go_neS ?_
  | with_reducible refine go_eqB ?_
  | with_reducible refine go_eqI ?_
  | with_reducible refine go_neI ?_
  | (with_reducible apply go_ixt; (focus (tb_rel; done)); (focus (none_booked; done)))
  | (with_reducible apply go_ixl; (focus (tb_rel; done)); (focus (none_booked; done)))
  | (with_reducible apply go_lent; (focus (tb_rel; done)))
  | (with_reducible apply go_lenNm; (focus (tb_rel; done)))
  | (with_reducible apply go_isiNm; (focus (tb_rel; done)))
  | (with_reducible apply go_lenl; (focus (tb_rel; done)))
  | (with_reducible apply go_catA; (focus (tb_rel; done)); (focus (tb_rel; done)); (focus (lcg_sub; done)); intros)
  | (with_reducible apply go_slaT; (focus (tb_rel; done)); intros)
  | (with_reducible apply go_slaD; (focus (tb_rel; done)); intros)
  | (with_reducible apply go_rep; (focus (tb_rel; done)); (focus (lcg_src; done)); intros)
  | (with_reducible apply go_tupofl; (focus (tb_rel; done)); intros)
  | (with_reducible apply go_sllT; (focus (tb_rel; done)); intros)
  | (with_reducible apply go_sllD; (focus (tb_rel; done)); intros)
  | (with_reducible apply go_cat; (focus (tb_rel; done)); (focus (tb_rel; done)); (focus (lcg_sub; done)); intros)
  | (with_reducible apply go_mep; (focus (tb_rel; done)); (focus decide); (focus decide); (focus decide))
  | (with_reducible apply c_children; (focus (tb_rel; done)); (focus (nest_cls; done)); (focus (lcg_src; done)); (focus (lcg_src; done)); intros)
  | (with_reducible apply c_hasform; (focus (tb_rel; done)); (focus (nest_cls; done)); (focus (lcg_src; done)); (focus (lcg_src; done)); intros)
  | (with_reducible apply c_isname; (focus (tb_rel; done)); (focus (nest_cls; done)); (focus (lcg_src; done)); (focus (lcg_src; done)); intros)
  | (with_reducible apply c_phaseat; (focus (tb_rel; done)); intros)
  | (with_reducible apply c_signs; (focus (tb_rel; done)); (focus (lcg_src; done)); intros)
  | (with_reducible apply c_wantname; (focus (tb_rel; done)); (focus (nest_cls; done)); (focus (lcg_src; done)); (focus (lcg_src; done)); intros)
  | (with_reducible apply c_wantplan; (focus (tb_rel; done)); intros)
  | fail "go"))
def sp_isname (K : PySem.W.Frag) (C : Addr) : Sp := fun vs H Q _ => ∃ (v u : V) (rs : List (List Pm.Cut)) (ns : List Nat), vs = [v, u] ∧ PlanAt K C H v rs ∧ Dp K H u (dNm ns) ∧ NmOk rs ns ∧ ns.length ≤ 50000 ∧ ∀ H', Same H H' → Q (.bl true) H'
theorem c_isname {K : PySem.W.Frag} {C : Addr} {v u : V} {rs : List (List Pm.Cut)} {ns : List Nat} {H : Hp} {Q : VK} {E : XK} (h0 : PlanAt K C H v rs) (h1 : Dp K H u (dNm ns)) (h2 : NmOk rs ns) (h3 : ns.length ≤ 50000) (q : ∀ H', Same H H' → Q (.bl true) H') : sp_isname K C [v, u] H Q E := ⟨_, _, _, _, rfl, h0, h1, h2, h3, q⟩
theorem ok_isname {f : Addr} {fd : FuncData} (F : Df K "is_name" "is_name" s_isname [] f fd) (cWpl : Ca P w K mg base 1 "want_plan" (sp_wantplan K C) []) (cHf : Ca P w K mg base 6 "has_name_form" (sp_hasform K C) []) :
    FnOk P w K mg base CX0 8 f fd ["plan", "value"] (sp_isname K C) := by
  refine dfOk F sc_isname (fun vs H Q E h => ?_) (fun cdv A outer s H vs Q E hr h => ?_)
  · obtain ⟨v, u, rs, ns, rfl, _⟩ := h
    rfl
  · obtain ⟨v, u, rs, ns, rfl, hp, hu, hn, hl, q⟩ := h
    refine ⟨_, (pss_cons (ps_expr (pe_ca cWpl hr (by decide) (by rfl) (pa_cons (pv 0) pa_nil)))
  (pss_one (ps_ret (pe_ca cHf hr (by decide) (by rfl) (pa_cons (pv 0) (pa_cons (pv 1) pa_nil)))))), ?_⟩
    refine go_start (σ := [some _, some _]) rfl ?_
    walk_at "go"
    exact q _ (by tb_rel)
/-- the names of the children -/
def dKids (rs : List (List Pm.Cut)) (ns : List Nat) : List PyData := (List.range (Pm.S rs ns.length)).map fun k => dNm (ns ++ [k])
def sp_children (K : PySem.W.Frag) (C : Addr) : Sp := fun vs H Q _ => ∃ (v u : V) (rs : List (List Pm.Cut)) (ns : List Nat), vs = [v, u] ∧ PlanAt K C H v rs ∧ Dp K H u (dNm ns) ∧ NmOk rs ns ∧ ns.length ≤ 50000 ∧
  ∀ l xs H', Same H H' → H' l = some (.lst xs) → DpAll K H' xs (dKids rs ns) → Q (.ref l) H'
theorem c_children {K : PySem.W.Frag} {C : Addr} {v u : V} {rs : List (List Pm.Cut)} {ns : List Nat} {H : Hp} {Q : VK} {E : XK} (h0 : PlanAt K C H v rs) (h1 : Dp K H u (dNm ns)) (h2 : NmOk rs ns) (h3 : ns.length ≤ 50000) (q : ∀ l xs H', Same H H' → H' l = some (.lst xs) → DpAll K H' xs (dKids rs ns) → Q (.ref l) H') : sp_children K C [v, u] H Q E := ⟨_, _, _, _, rfl, h0, h1, h2, h3, q⟩
theorem ok_children {f : Addr} {fd : FuncData} (F : Df K "children" "children" s_children [] f fd) (B : Blt mg) (cWpl : Ca P w K mg base 1 "want_plan" (sp_wantplan K C) []) (cWn : Ca P w K mg base 7 "want_name" (sp_wantname K C) []) (cPh : Ca P w K mg base 3 "phase_at" (sp_phaseat K C) []) (cSi : Me P w K mg base 5 C "signs" (sp_signs K C) []) :
    FnOk P w K mg base CX0 8 f fd ["plan", "name"] (sp_children K C) := by
  refine dfOk F sc_children (fun vs H Q E h => ?_) (fun cdv A outer s H vs Q E hr h => ?_)
  · obtain ⟨v, u, rs, ns, rfl, _⟩ := h
    rfl
  · obtain ⟨v, u, rs, ns, rfl, hp, hu, hn, hl, q⟩ := h
    obtain ⟨a, rfl, ha⟩ := nmE hu
    refine ⟨_, (pss_cons (ps_expr (pe_ca cWpl hr (by decide) (by rfl) (pa_cons (pv 0) pa_nil)))
  (pss_cons (ps_expr (pe_ca cWn hr (by decide) (by rfl) (pa_cons (pv 0) (pa_cons (pv 1) pa_nil))))
  (pss_one (ps_ret (pe_lc (own := [("sign", 2)]) (by rfl) sc_children.nd (pi_range1 (by rfl) B.range (pa_cons (pe_me cSi hr (by decide) (pv 0) (pa_cons (pe_ca cPh hr (by decide) (by rfl) (pa_cons (pv 0) (pa_cons (pe_callB call_len_seq' (by rfl) B.len bt_len (pa_cons (pv 1) pa_nil)) pa_nil))) pa_nil)) pa_nil)) (blkOk_by (own := [("sign", 2)]) (N := ["plan", "name", "sign"]) (sc := defScope s_children) (by decide +kernel)) (fun _ _ _ _ _ => (pg_name (i := 2) sc_children.nd rfl (Or.inl rfl))) (fun _ _ _ _ _ => pts_nil) (fun _ _ _ _ _ => (pe_op op_catA' (pv 1) (pe_tup (pa_cons (pv 2) pa_nil))))))))), ?_⟩
    have hln : (vNm ns).length = ns.length := vNm_len ns
    have hph : ∀ k, k % rs.length < rs.length := fun k => Nat.mod_lt k hp.ok.1
    have hS := hp.ok.S32 ((vNm ns).length % rs.length)
    walk_at "go"
    have eS : Pm.S rs ((vNm ns).length % rs.length) = Pm.S rs ns.length := by unfold Pm.S; rw [rnd_mod, hln]
    refine lcRange (K := K) (fun k => dNm (ns ++ [k])) (by omega) (fun i _ => NL.nm _) (fun _ => rfl) (fun i H1 Q1 hi s1 hq => ?_) (fun D H1 ys nD s1 eD hD => ?_)
    · walk_at "go"
      exact hq _ _ (by tb_rel) (nmI (by simpa [vNm] using (by assumption : SqT K _ _ (vNm ns ++ [.int i]))))
    · rw [eS] at hD
      exact q _ _ _ (by tb_rel) eD hD
end
end T
set_option Elab.async false
set_option maxRecDepth 100000
set_option maxHeartbeats 4000000
local macro_rules | `(tactic| walk_at "rd") => `(tactic| repeat (first
  | refine ⟨_, rfl, ?_⟩
  | refine ⟨_, _, rfl, rfl, ?_⟩
  | refine ⟨_, _, rfl, ?_⟩
  | refine Or.inl ⟨_, rfl, ?_⟩
  | refine ⟨.inl ⟨by decide, by decide⟩, ?_⟩
  | refine ⟨.inr ⟨by decide, by decide⟩, ?_⟩
  | refine ⟨(by decide : (0 : Int) < _), ?_⟩
  | refine ⟨⟨by decide, by decide, by decide⟩, ?_⟩))
namespace T
open PySem L2 Mv
abbrev s_pot : Stmt := top 55
theorem sc_pot : FnScope ["_law_script", "_law_k", "_law_whole"] ["_law_script", "_law_k"] (defScope s_pot) := ⟨rfl, rfl, rfl, by decide +kernel, rfl, by decide +kernel, by decide +kernel⟩
abbrev s_draw : Stmt := top 56
theorem sc_draw : FnScope ["_law_pot_here", "_law_many", "_law_digit"] ["_law_pot_here", "_law_many"] (defScope s_draw) := ⟨rfl, rfl, rfl, by decide +kernel, rfl, by decide +kernel, by decide +kernel⟩
abbrev s_pick : Stmt := top 57
theorem sc_pick : FnScope ["_law_pot_here", "_law_some"] ["_law_pot_here", "_law_some"] (defScope s_pick) := ⟨rfl, rfl, rfl, by decide +kernel, rfl, by decide +kernel, by decide +kernel⟩
section
variable {P : Program} {w : World} {K : PySem.W.Frag} {mg : Str → Option Value} {base : Heap} {C AX : Addr}
theorem ok_pot {f : Addr} {fd : FuncData} (F : Df K "_law_pot" "_law_pot" s_pot [] f fd) (B : Blt mg) : FnOk P w K mg base CX0 1 f fd ["_law_script", "_law_k"] (sp_pot K) := by
  refine dfOk F sc_pot (fun vs H Q E h => ?_) (fun cdv A outer s H vs Q E hr h => ?_)
  · obtain ⟨a, ns, k, rfl, _⟩ := h
    rfl
  · obtain ⟨a, ns, k, rfl, hS, hk, q⟩ := h
    refine ⟨_, (pss_cons (ps_set (i := 2) sc_pot.nd rfl (Or.inl rfl) (pe_op op_add (pe_op op_mul pe_int (pv 1)) pe_int))
  (pss_cons (ps_if (pt_cmpR op_lt (pv 1) (pe_callB call_len_seq' (by rfl) B.len bt_len (pa_cons (pv 0) pa_nil)) (nomark _))
  (pss_one (ps_set (i := 2) sc_pot.nd rfl (Or.inl rfl) (pe_callB call_abs (by rfl) B.abs bt_abs (pa_cons (pe_ix ix_list' (pv 0) (pv 1) (fun _ _ => rfl)) pa_nil))))
  pss_nil)
  (pss_one (ps_ret (pe_lst (pa_cons (pe_callB (call_max2 rfl) (by rfl) B.max bt_max (pa_cons pe_int (pa_cons (pe_op op_sub (pv 2) (pe_op op_pow pe_int pe_int)) pa_nil))) (pa_cons (pe_op op_add (pe_op op_mod (pe_op op_mul (pe_callTy call_int1 (by rfl) B.int bt_int (pa_cons (pe_op op_add (pe_op op_mod (pe_callTy call_int1 (by rfl) B.int bt_int (pa_cons (pv 2) pa_nil)) pe_int) pe_int) pa_nil)) (pe_op op_pow (pe_op op_add (pe_op op_mul pe_int (pv 1)) pe_int) pe_int)) pe_int) pe_int) pa_nil))))))), ?_⟩
    walk_at "rd"
    refine ⟨a, _, rfl, .inl hS, ?_⟩
    walk_at "rd"
    have fin : ∀ y : Int, 0 ≤ y % 2147483477 + 1 ∧ y % 2147483477 + 1 < 2147483648 := fun y => by omega
    have fin2 : ∀ z : Int, 0 ≤ (if z > 0 then z else 0) := fun z => by split <;> omega
    refine ite2 (fun hlt => ?_) (fun _ => ?_)
    · have hlt' : k < (ns.map V.int).length := by
        have h0 := of_decide_eq_true hlt
        omega
      have hn : k < ns.length := by simpa using hlt'
      walk_at "rd"
      refine ⟨a, _, _, _, rfl, rfl, hS, atI_nat (by rw [List.getElem?_map, List.getElem?_eq_getElem hn]; rfl), ?_⟩
      walk_at "rd"
      refine ⟨⟨by decide, by decide, by omega⟩, ?_⟩
      walk_at "rd"
      refine ⟨.inl ⟨by omega, by omega⟩, ?_⟩
      walk_at "rd"
      refine ⟨by show 2 ≤ sizeLine; decide, fun p hp => ?_⟩
      exact q p hp _ _ (fin2 _) (fin _).1 (fin _).2
    · walk_at "rd"
      refine ⟨⟨by decide, by decide, by omega⟩, ?_⟩
      walk_at "rd"
      refine ⟨.inl ⟨by omega, by omega⟩, ?_⟩
      walk_at "rd"
      refine ⟨by show 2 ≤ sizeLine; decide, fun p hp => ?_⟩
      exact q p hp _ _ (fin2 _) (fin _).1 (fin _).2
theorem ok_draw {f : Addr} {fd : FuncData} (F : Df K "_law_draw" "_law_draw" s_draw [] f fd) (B : Blt mg) : FnOk P w K mg base CX0 1 f fd ["_law_pot_here", "_law_many"] sp_draw := by
  refine dfOk F sc_draw (fun vs H Q E h => ?_) (fun cdv A outer s H vs Q E hr h => ?_)
  · obtain ⟨p, n, rfl, _⟩ := h
    rfl
  · obtain ⟨p, n, rfl, hp, hn, hz, q⟩ := h
    obtain ⟨x, y, e, hx, hy, hy2⟩ := hp.ex
    have fin : ∀ (d : Int) (H' : Hp), 0 ≤ d → d < n → Pot H' p → Bu p H H' → Q (.int d) H' := fun d H' h0 h1 h2 h3 => by
      obtain ⟨j, rfl⟩ := Int.eq_ofNat_of_zero_le h0
      exact q j H' h1 h2 h3
    refine ⟨_, (pss_cons (ps_if (pt_cmpR op_gt (pe_ix ix_list' (pv 0) pe_int (fun _ _ => rfl)) pe_int (nomark _))
  (pss_cons (ps_asg (pe_callB call_divmodW (by rfl) B.divmod bt_divmod (pa_cons (pe_ix ix_list' (pv 0) pe_int (fun _ _ => rfl)) (pa_cons (pv 1) pa_nil))) (pg_tup' 2 (pgs_cons (pg_sub (pv 0) pe_int set_list) (pgs_cons (pg_name (i := 2) sc_draw.nd rfl (Or.inl rfl)) pgs_nil))))
  (pss_one (ps_ret (pv 2))))
  pss_nil)
  (pss_cons (ps_asg (pe_op op_mod (pe_callTy call_int1 (by rfl) B.int bt_int (pa_cons (pe_op op_add (pe_op op_mul (pe_ix ix_list' (pv 0) pe_int (fun _ _ => rfl)) pe_int) pe_int) pa_nil)) pe_int) (pg_sub (pv 0) pe_int set_list))
  (pss_one (ps_ret (pe_op op_mod (pe_callTy call_int1 (by rfl) B.int bt_int (pa_cons (pe_op op_fdiv (pe_op op_mod (pe_callTy call_int1 (by rfl) B.int bt_int (pa_cons (pe_op op_mul (pe_ix ix_list' (pv 0) pe_int (fun _ _ => rfl)) (pe_ix ix_list' (pv 0) pe_int (fun _ _ => rfl))) pa_nil)) pe_int) pe_int) pa_nil)) (pv 1)))))), ?_⟩
    refine ⟨_, rfl, p, _, _, _, rfl, rfl, SqL.of e, rfl, _, _, rfl, rfl, _, rfl, ?_⟩
    refine ite2 (fun h => ?_) (fun h => ?_)
    · refine ⟨_, rfl, p, _, _, _, rfl, rfl, SqL.of e, rfl, _, rfl, _, _, rfl, divp_of hn (log_small hz), fun t ht => ?_⟩
      refine ⟨t, _, rfl, SqT.of upd_same, rfl, _, _, rfl, _, rfl, p, _, _, 0, rfl, rfl, by rw [upd_ne (ne_of_none e ht)]; exact e, rfl, _, _, rfl, rfl, _, rfl, ?_⟩
      refine fin _ _ (Int.emod_nonneg _ (by omega)) (Int.emod_lt_of_pos _ hn) ⟨_, y, upd_same, Int.ediv_nonneg hx (by omega), hy, hy2⟩ ((Bu.new ht).trans Bu.set)
    · refine ⟨_, rfl, p, _, _, _, rfl, rfl, SqL.of e, rfl, _, _, rfl, rfl, .inr ⟨by decide, by decide⟩, ?_⟩
      walk_at "rd"
      refine ⟨p, _, _, 1, rfl, rfl, e, rfl, ?_⟩
      have hb : ∀ z : Int, 0 ≤ z % 2147483587 ∧ z % 2147483587 < 2147483648 := fun z => by omega
      refine ⟨_, rfl, p, _, _, _, rfl, rfl, SqL.of upd_same, rfl, _, rfl, p, _, _, _, rfl, rfl, SqL.of upd_same, rfl, _, _, rfl, rfl, .inl ⟨Int.lt_of_lt_of_le (by decide) (hb _).1, Int.lt_trans (hb _).2 (by decide)⟩, ?_⟩
      walk_at "rd"
      refine ⟨⟨by decide, by decide⟩, ?_⟩
      walk_at "rd"
      refine ⟨hn, ?_⟩
      exact fin _ _ (Int.emod_nonneg _ (by omega)) (Int.emod_lt_of_pos _ hn) ⟨x, _, upd_same, hx, (hb _).1, (hb _).2⟩ Bu.set
theorem ok_pick {f : Addr} {fd : FuncData} (F : Df K "_law_pick" "_law_pick" s_pick [] f fd) (B : Blt mg) (cDr : Ca P w K mg base 1 "_law_draw" sp_draw []) : FnOk P w K mg base CX0 2 f fd ["_law_pot_here", "_law_some"] (sp_pick K) := by
  refine dfOk F sc_pick (fun vs H Q E h => ?_) (fun cdv A outer s H vs Q E hr h => ?_)
  · obtain ⟨p, l, xs, rfl, _⟩ := h
    rfl
  · obtain ⟨p, l, xs, rfl, hp, hl, hS, hne, hlen, q⟩ := h
    refine ⟨_, (pss_one (ps_ret (pe_ix ix_list' (pv 1) (pe_ca cDr hr (by decide) (by rfl) (pa_cons (pv 0) (pa_cons (pe_callB call_len_seq' (by rfl) B.len bt_len (pa_cons (pv 1) pa_nil)) pa_nil))) (fun _ _ => rfl)))), ?_⟩
    have h0 : 0 < xs.length := List.length_pos_iff.mpr hne
    refine ⟨_, rfl, _, rfl, _, rfl, l, xs, rfl, .inl hS, p, _, rfl, hp, by omega, by omega, fun j H' hd2 hp' b => ?_⟩
    have hj : j < xs.length := by omega
    exact ⟨l, xs, _, xs[j], rfl, rfl, b.seqL hl hS, atI_nat (by simp [hj]), q _ _ (List.getElem_mem hj) hp' b⟩
/-- a draw, as it is called -/
theorem draw_lt {H : Hp} {p : Addr} {n : Int} {Q : VK} (hp : Pot H p) (h0 : 0 < n) (h1 : n ≤ 1000000) (q : ∀ (d : Nat) (H' : Hp), (d : Int) < n → Pot H' p → Bu p H H' → Q (.int d) H') : sp_draw [.ref p, .int n] H Q E0 := ⟨p, n, rfl, hp, h0, by omega, q⟩
end
end T
set_option Elab.async false
set_option maxRecDepth 100000
set_option maxHeartbeats 4000000
namespace T
open PySem L2 Mv
abbrev s_mixed : Stmt := top 58
theorem sc_mixed : FnScope ["_law_pot_here", "_law_some", "_law_rest", "_law_found"] ["_law_pot_here", "_law_some"] (defScope s_mixed) := ⟨rfl, rfl, rfl, by decide +kernel, rfl, by decide +kernel, by decide +kernel⟩
section
variable {P : Program} {w : World} {K : PySem.W.Frag} {mg : Str → Option Value} {base : Heap} {C AX : Addr}
theorem Bu.over {p q : Addr} {H H' : Hp} {o : HO} (b : Bu p H H') (hq : H q = none) : Bu p H (upd H' q o) := fun c u n e => by
  rw [upd_ne (ne_of_none e hq)]
  exact b c u n e
theorem six {d n : Nat} (h : d < n) : seqIndex? (d : Int) n = some d := by
  unfold seqIndex?
  simp only
  rw [if_neg (by omega : ¬ (d : Int) < 0)]
  simp
  omega
theorem perm_erase {α : Type} : ∀ (l : List α) (d : Nat) (x : α), l[d]? = some x → (x :: l.eraseIdx d).Perm l
  | [], d, x, h => by simp at h
  | y :: l, 0, x, h => by
    obtain rfl : y = x := by simpa using h
    exact List.Perm.refl _
  | y :: l, d + 1, x, h => by
    have := perm_erase l d x (by simpa using h)
    simp only [List.eraseIdx_cons_succ]
    exact (List.Perm.swap y x _).trans (List.Perm.cons y this)
/-- data that is small in shape -/
def Shp (d : PyData) : Prop := NL d = true ∧ d.canLay0 = true ∧ d.depth ≤ 8
theorem shp_list {ds : List PyData} (h : ∀ d ∈ ds, Shp d) : SeqAt.shaped (.list ds) = true := by
  refine shaped_of ?_ ?_
  · rw [PyData.canLay0]
    exact canLay_all fun e he => (h e he).2.1
  · rw [PyData.depth]
    have := depth_all (n := 8) fun e he => (h e he).2.2
    omega
def sp_mixed (K : PySem.W.Frag) : Sp := fun vs H Q _ => ∃ (p : Addr) (v : V) (ds : List PyData), vs = [.ref p, v] ∧ Pot H p ∧ Dp K H v (.list ds) ∧ (∀ d ∈ ds, Shp d) ∧ ds.length ≤ 1000 ∧
  ∀ (l : Addr) (zs : List V) (es : List PyData) (H' : Hp), es.Perm ds → H l = none → H' l = some (.lst zs) → DpAll K H' zs es → Pot H' p → Bu p H H' → Q (.ref l) H'
theorem c_mixed {K : PySem.W.Frag} {p : Addr} {v : V} {ds : List PyData} {H : Hp} {Q : VK} {E : XK} (h0 : Pot H p) (h1 : Dp K H v (.list ds)) (h2 : (∀ d ∈ ds, Shp d)) (h3 : ds.length ≤ 1000) (q : ∀ (l : Addr) (zs : List V) (es : List PyData) (H' : Hp), es.Perm ds → H l = none → H' l = some (.lst zs) → DpAll K H' zs es → Pot H' p → Bu p H H' → Q (.ref l) H') : sp_mixed K [.ref p, v] H Q E := ⟨_, _, _, rfl, h0, h1, h2, h3, q⟩
theorem ok_mixed {f : Addr} {fd : FuncData} (F : Df K "_law_mixed" "_law_mixed" s_mixed [] f fd) (B : Blt mg) (cDr : Ca P w K mg base 1 "_law_draw" sp_draw []) : FnOk P w K mg base CX0 2 f fd ["_law_pot_here", "_law_some"] (sp_mixed K) := by
  refine dfOk F sc_mixed (fun vs H Q E h => ?_) (fun cdv A outer s H vs Q E hr h => ?_)
  · obtain ⟨p, v, ds, rfl, _⟩ := h
    rfl
  · obtain ⟨p, v, ds, rfl, hp, hd, hsh, hlen, q⟩ := h
    obtain ⟨a, xs, rfl, hs, ha⟩ := hd.lstE
    refine ⟨_, (pss_cons (ps_par (i := 2) (j := 3) (by rfl) sc_mixed.nd rfl rfl (by decide) rfl rfl (pa_cons (pe_callTy call_list_of' (by rfl) B.list bt_list (pa_cons (pv 1) pa_nil)) (pa_cons (pe_lst pa_nil) pa_nil)) (by rfl))
  (pss_cons (ps_while PassesOwn.never (pt_cmpR (op_neD' hr.units) (pv 2) (pe_lst pa_nil) (nomark _))
  (pss_one (ps_expr (pe_bm PySem.F.plainAttrs_list PySem.F.slot_list_append PySem.F.type_list_append mt_append (pv 3) (pa_cons (pe_bm PySem.F.plainAttrs_list PySem.F.slot_list_pop PySem.F.type_list_pop mt_popAt (pv 2) (pa_cons (pe_ca cDr hr (by decide) (by rfl) (pa_cons (pv 0) (pa_cons (pe_callB call_len_seq' (by rfl) B.len bt_len (pa_cons (pv 2) pa_nil)) pa_nil))) pa_nil)) pa_nil)))))
  (pss_one (ps_ret (pv 3))))), ?_⟩
    refine ⟨_, rfl, a, xs, rfl, .inl hs, fun r hr1 => ?_⟩
    refine ⟨by show 0 ≤ sizeLine; decide, fun fo hfo => ?_⟩
    have hfo0 : H fo = none := by
      have : fo ≠ r := fun z => by rw [z, upd_same] at hfo; cases hfo
      rwa [upd_ne this] at hfo
    have hrf : r ≠ fo := fun z => by rw [← z, upd_same] at hfo; cases hfo
    refine ⟨_, _, rfl, ?_⟩
    have s0 : Same H (upd (upd H r (.lst xs)) fo (.lst [])) := (same_new hr1).trans (same_new hfo)
    have rp := hp.ne hr1
    have fp := hp.ne hfo0
    refine ⟨fun m σ H' => ∃ xs ys ds1 es1, σ = [some (.ref p), some (.ref a), some (.ref r), some (.ref fo)] ∧ Pot H' p ∧ Bu p H H' ∧ H' r = some (.lst xs) ∧ H' fo = some (.lst ys) ∧ DpAll K H' xs ds1 ∧ DpAll K H' ys es1 ∧ (es1 ++ ds1).Perm ds ∧ m = xs.length,
      ⟨_, xs, [], ds, [], rfl, hp.same s0, Bu.of s0 p, by rw [upd_ne hrf, upd_same], upd_same, ha.up s0, .nil, by simp, rfl⟩, ?_⟩
    rintro m σ H1 ⟨xs, ys, ds1, es1, rfl, hp1, b1, er, ef, hx, hy, pm, rfl⟩
    have m1 : ∀ d ∈ ds1, Shp d := fun d hd => hsh d (pm.mem_iff.mp (List.mem_append_right _ hd))
    have m2 : ∀ d ∈ es1, Shp d := fun d hd => hsh d (pm.mem_iff.mp (List.mem_append_left _ hd))
    have n1 : NLs ds1 = true := NLs.of fun d hd => (m1 d hd).1
    have n2 : NLs es1 = true := NLs.of fun d hd => (m2 d hd).1
    have hl1 : es1.length + ds1.length = ds.length := by rw [← List.length_append]; exact pm.length_eq
    have hxl := hx.len
    have hyl := hy.len
    refine ⟨_, rfl, by show 0 ≤ sizeLine; decide, fun l hl => ?_⟩
    have s2 := fun o => same_new (o := o) hl
    refine ⟨.list ds1, .list [], .lst (SqL.of (s2 _ _ _ er)) (hx.up (s2 _)), .lst (SqL.of upd_same) .nil, shp_list m1, rfl, _, rfl, ?_⟩
    cases ds1 with
    | nil =>
      rw [show PyData.eqv (.list []) (.list []) = true from rfl]
      refine iteF ⟨_, rfl, ?_⟩
      rw [List.append_nil] at pm
      exact q fo ys es1 _ pm hfo0 (s2 _ _ _ ef) (hy.up (s2 _)) (hp1.same (s2 _)) (b1.trans (Bu.of (s2 _) p))
    | cons d0 ds1 =>
      rw [show PyData.eqv (.list (d0 :: ds1)) (.list []) = false from rfl]
      refine iteT ⟨fun σ' H' => ∃ xs' ys' ds2 es2, σ' = [some (.ref p), some (.ref a), some (.ref r), some (.ref fo)] ∧ Pot H' p ∧ Bu p H H' ∧ H' r = some (.lst xs') ∧ H' fo = some (.lst ys') ∧ DpAll K H' xs' ds2 ∧ DpAll K H' ys' es2 ∧ (es2 ++ ds2).Perm ds ∧ xs'.length < xs.length, ?_, ?_⟩
      · rintro σ' H' ⟨xs', ys', ds2, es2, h1, h2, h3, h4, h5, h6, h7, h8, h9⟩
        exact ⟨_, h9, xs', ys', ds2, es2, h1, h2, h3, h4, h5, h6, h7, h8, rfl⟩
      obtain ⟨H2, eH2⟩ : ∃ H2, H2 = upd H1 l (.lst []) := ⟨_, rfl⟩
      rw [← eH2]
      have s2' : Same H1 H2 := by rw [eH2]; exact s2 _
      have er2 := s2' _ _ er
      have ef2 := s2' _ _ ef
      have hp2 := hp1.same s2'
      have hx2 := hx.up s2'
      have hy2 := hy.up s2'
      have b2 := b1.trans (Bu.of s2' p)
      clear eH2
      refine ⟨_, rfl, .inl ⟨rfl, _, SqL.of ef2⟩, _, rfl, .inl ⟨rfl, _, SqL.of er2⟩, ?_⟩
      simp only [List.length_cons] at hxl hl1
      refine ⟨_, rfl, _, rfl, r, _, rfl, .inl (SqL.of er2), p, _, rfl, hp2, by omega, by omega, fun d H3 hd3 hp3 b3 => ?_⟩
      have hdx : d < xs.length := by omega
      obtain ⟨ys2, ep2⟩ := hp2.lst
      have er3 := b3 _ _ rp er2
      have ef3 := b3 _ _ fp ef2
      have hx3 := hx2.bu n1 b3 ep2
      have hy3 := hy2.bu n2 b3 ep2
      obtain ⟨dd, hdd, hdp⟩ := hx3.get (List.getElem?_eq_getElem hdx)
      have hddm : dd ∈ d0 :: ds1 := List.mem_of_getElem? hdd
      have ndd := (m1 dd hddm).1
      refine ⟨r, xs, _, d, xs[d], rfl, rfl, er3, by omega, by omega, six hdx, List.getElem?_eq_getElem hdx, ?_⟩
      have b4 : Bu r H3 (upd H3 r (.lst (xs.eraseIdx d))) := Bu.set
      have ef4 := b4 _ _ (Ne.symm hrf) ef3
      refine ⟨fo, ys, xs[d], rfl, rfl, ef4, by rw [hyl]; unfold sizeLine; omega, ?_⟩
      have b5 : Bu fo (upd H3 r (.lst (xs.eraseIdx d))) (upd (upd H3 r (.lst (xs.eraseIdx d))) fo (.lst (ys ++ [xs[d]]))) := Bu.set
      obtain ⟨x3, y3, e3, r3⟩ := hp3.ex
      have n1' : NLs ((d0 :: ds1).eraseIdx d) = true := NLs.of fun z hz => NLs.mem n1 z (List.mem_of_mem_eraseIdx hz)
      refine ⟨xs.eraseIdx d, ys ++ [xs[d]], (d0 :: ds1).eraseIdx d, es1 ++ [dd], rfl, ⟨x3, y3, b5 _ _ (Ne.symm fp) (b4 _ _ (Ne.symm rp) e3), r3⟩, (Bu.over (Bu.over (b2.trans b3) hr1) hfo0), b5 _ _ hrf upd_same, upd_same, ((hx3.bu n1 b4 er3).erase d).bu n1' b5 ef4, ((hy3.bu n2 b4 er3).bu n2 b5 ef4).app (.cons ((hdp.bu ndd b4 er3).bu ndd b5 ef4) .nil), ?_, ?_⟩
      · refine List.Perm.trans ?_ pm
        rw [List.append_assoc]
        refine List.Perm.append_left es1 ?_
        exact perm_erase (d0 :: ds1) d dd hdd
      · rw [List.length_eraseIdx]
        simp [hdx]
        omega
end
end T
set_option Elab.async false
set_option maxRecDepth 100000
set_option maxHeartbeats 4000000
namespace T
open PySem L2 Mv
abbrev s_rounds : Stmt := top 59
theorem sc_rounds : FnScope ["_law_pot_here", "_law_menu", "_law_word", "_law_found", "_law_turned_here", "_law_at", "_law_part", "_law_cuts", "_law_k"] ["_law_pot_here"] (defScope s_rounds) := ⟨rfl, rfl, rfl, by decide +kernel, rfl, by decide +kernel, by decide +kernel⟩
section
variable {P : Program} {w : World} {K : PySem.W.Frag} {mg : Str → Option Value} {base : Heap} {C AX : Addr}
/-- lists of data without lists, at none of av -/
inductive LLs (K : PySem.W.Frag) (H : Hp) (av : List Addr) : List V → List (List PyData) → Prop
  | nil : LLs K H av [] []
  | cons {q : Addr} {zs ys : List V} {e : List PyData} {es : List (List PyData)} (n : q ∉ av) (h : H q = some (.lst zs)) (ha : DpAll K H zs e) (nl : NLs e = true) (r : LLs K H av ys es) : LLs K H av (.ref q :: ys) (e :: es)
theorem LLs.app {H : Hp} {av : List Addr} : ∀ {xs ys : List V} {es fs : List (List PyData)}, LLs K H av xs es → LLs K H av ys fs → LLs K H av (xs ++ ys) (es ++ fs)
  | _, _, _, _, .nil, h => h
  | _, _, _, _, .cons n h ha nl r, g => .cons n h ha nl (LLs.app r g)
theorem LLs.len {H : Hp} {av : List Addr} : ∀ {xs : List V} {es : List (List PyData)}, LLs K H av xs es → xs.length = es.length
  | _, _, .nil => rfl
  | _, _, .cons _ _ _ _ r => by rw [List.length_cons, List.length_cons, LLs.len r]
theorem LLs.bu {H H' : Hp} {av : List Addr} {p : Addr} {ws : List V} (b : Bu p H H') (hm : p ∈ av) (hp : H p = some (.lst ws)) : ∀ {xs : List V} {es : List (List PyData)}, LLs K H av xs es → LLs K H' av xs es
  | _, _, .nil => .nil
  | _, _, .cons n h ha nl r => .cons n (b _ _ (fun z => n (z ▸ hm)) h) (ha.bu nl b hp) nl (LLs.bu b hm hp r)
theorem LLs.same {H H' : Hp} {av : List Addr} (s : Same H H') : ∀ {xs : List V} {es : List (List PyData)}, LLs K H av xs es → LLs K H' av xs es
  | _, _, .nil => .nil
  | _, _, .cons n h ha nl r => .cons n (s _ _ h) (ha.up s) nl (LLs.same s r)
theorem LLs.sub {H : Hp} {av bv : List Addr} (hs : ∀ a ∈ bv, a ∈ av) : ∀ {xs : List V} {es : List (List PyData)}, LLs K H av xs es → LLs K H bv xs es
  | _, _, .nil => .nil
  | _, _, .cons n h ha nl r => .cons (fun z => n (hs _ z)) h ha nl (LLs.sub hs r)
theorem LLs.dp {H : Hp} {av : List Addr} : ∀ {xs : List V} {es : List (List PyData)}, LLs K H av xs es → DpAll K H xs (es.map PyData.list)
  | _, _, .nil => .nil
  | _, _, .cons _ h ha _ r => .cons (.lst (SqL.of h) ha) (LLs.dp r)
theorem LLs.take {H : Hp} {av : List Addr} : ∀ {xs : List V} {es : List (List PyData)} (n : Nat), LLs K H av xs es → LLs K H av (xs.take n) (es.take n)
  | _, _, 0, _ => by simp; exact .nil
  | _, _, _ + 1, .nil => by simp; exact .nil
  | _, _, n + 1, .cons a b c d h => .cons a b c d (LLs.take n h)
theorem LLs.drop {H : Hp} {av : List Addr} : ∀ {xs : List V} {es : List (List PyData)} (n : Nat), LLs K H av xs es → LLs K H av (xs.drop n) (es.drop n)
  | _, _, 0, h => h
  | _, _, _ + 1, .nil => by simp; exact .nil
  | _, _, n + 1, .cons _ _ _ _ h => LLs.drop n h
/-- the law's own rounds -/
def lRds (rs : List (List Pm.Cut)) : List (List PyData) := rs.map fun r => r.map lCut
structure LRd (K : PySem.W.Frag) (p : Addr) (H : Hp) (v : V) (rs : List (List Pm.Cut)) : Prop where
  ex : ∃ a ys, v = .ref a ∧ a ≠ p ∧ H a = some (.lst ys) ∧ LLs K H [p] ys (lRds rs)
  ok : Pm.RdsOk rs
theorem LRd.same {p : Addr} {H H' : Hp} {v : V} {rs : List (List Pm.Cut)} (h : LRd K p H v rs) (s : Same H H') : LRd K p H' v rs := by
  obtain ⟨a, ys, e, n, ea, hl⟩ := h.ex
  exact ⟨⟨a, ys, e, n, s _ _ ea, hl.same s⟩, h.ok⟩
theorem LRd.bu {p : Addr} {H H' : Hp} {v : V} {rs : List (List Pm.Cut)} (h : LRd K p H v rs) (b : Bu p H H') (hp : Pot H p) : LRd K p H' v rs := by
  obtain ⟨a, ys, e, n, ea, hl⟩ := h.ex
  obtain ⟨ws, ep⟩ := hp.lst
  exact ⟨⟨a, ys, e, n, b _ _ n ea, hl.bu b (by simp) ep⟩, h.ok⟩
/-! the menu -/
def menu : List Str := ["e2n2", "e3n3", "e4n4", "e2n2e2n2", "e4n2n2", "e2|n2", "e3|n3", "e2e2|n4", "e2n2e2|n2", "e3n2|e2n3", "e4|n2n2", "e2n2e2n2e2|n2e2n2e2n2", "e2e2e2e2e2|n4n4n2", "e2|n2|e3n3", "e2|e3|n3n2", "e2n2|e2|n2", "e4n3|n4|e3", "e2e2e2|n4|n2"]
def chr (pt : Str) (i : Nat) : Nat := pt.cps.toList.getD i 0
def cutsOf (t : Bool) (pt : Str) : List Pm.Cut := (List.range (pt.length / 2)).map fun j => ((if (decide (chr pt (2 * j) = 110) != t) then 1 else 0), chr pt (2 * j + 1) - 48)
def partB (pt : Str) : Bool := decide (1 ≤ pt.length / 2) && decide (pt.length / 2 ≤ 5) && decide (pt.length = 2 * (pt.length / 2)) && (List.range (pt.length / 2)).all fun j => [50, 51, 52].contains (chr pt (2 * j + 1))
def wordB (w : Str) : Bool := decide (w.length ≤ 30) && decide (Txt.count w "|" + 1 = ((Txt.split w "|").length : Int)) && (Txt.split w "|").all partB && decide (Pm.RdsOk ((Txt.split w "|").map (cutsOf true))) && decide (Pm.RdsOk ((Txt.split w "|").map (cutsOf false)))
theorem menu_ok : menu.all wordB = true := by decide +kernel
theorem word_ok {w : Str} (h : w ∈ menu) : w.length ≤ 30 ∧ Txt.count w "|" + 1 = ((Txt.split w "|").length : Int) ∧ (∀ pt ∈ Txt.split w "|", partB pt = true) ∧ ∀ t, Pm.RdsOk ((Txt.split w "|").map (cutsOf t)) := by
  have := List.all_eq_true.mp menu_ok w h
  simp only [wordB, Bool.and_eq_true, decide_eq_true_eq, List.all_eq_true] at this
  obtain ⟨⟨⟨⟨h1, h2⟩, h3⟩, h4⟩, h5⟩ := this
  exact ⟨h1, h2, h3, fun t => by cases t <;> assumption⟩
theorem perm_map_inv {α β : Type} (f : α → β) {es xs : List β} (h : es.Perm xs) : ∀ r : List α, xs = r.map f → ∃ r' : List α, r'.Perm r ∧ es = r'.map f := by
  induction h with
  | nil => intro r e; exact ⟨r, List.Perm.refl _, e⟩
  | cons x _ ih =>
    intro r e
    cases r with
    | nil => cases e
    | cons a r =>
      rw [List.map_cons] at e
      obtain ⟨e1, e2⟩ := List.cons.inj e
      obtain ⟨r', p, q⟩ := ih r e2
      exact ⟨a :: r', p.cons a, by rw [List.map_cons, ← q, e1]⟩
  | swap x y l =>
    intro r e
    match r, e with
    | [], e => cases e
    | [_], e => simp at e
    | a :: b :: r, e =>
      simp only [List.map_cons] at e
      obtain ⟨e1, e2⟩ := List.cons.inj e
      obtain ⟨e2, e3⟩ := List.cons.inj e2
      exact ⟨b :: a :: r, List.Perm.swap a b r, by rw [List.map_cons, List.map_cons, ← e1, ← e2, ← e3]⟩
  | trans _ _ i1 i2 =>
    intro r e
    obtain ⟨r1, p1, q1⟩ := i2 r e
    obtain ⟨r2, p2, q2⟩ := i1 r1 q1
    exact ⟨r2, p2.trans p1, q2⟩
theorem lCut_shp (c : Pm.Cut) : Shp (lCut c) := ⟨rfl, by simp [lCut, PyData.canLay0, PyData.canLayAll0], by simp [lCut, PyData.depth, PyData.depthAll]⟩
/-- row by row the same cuts -/
inductive Pms : List (List Pm.Cut) → List (List Pm.Cut) → Prop
  | nil : Pms [] []
  | cons {a b : List Pm.Cut} {as bs : List (List Pm.Cut)} : a.Perm b → Pms as bs → Pms (a :: as) (b :: bs)
theorem Pms.len : ∀ {as bs : List (List Pm.Cut)}, Pms as bs → as.length = bs.length
  | _, _, .nil => rfl
  | _, _, .cons _ h => by rw [List.length_cons, List.length_cons, Pms.len h]
theorem Pms.app : ∀ {as bs : List (List Pm.Cut)} {x y : List Pm.Cut}, Pms as bs → x.Perm y → Pms (as ++ [x]) (bs ++ [y])
  | _, _, _, _, .nil, h => .cons h .nil
  | _, _, _, _, .cons g r, h => .cons g (Pms.app r h)
theorem Pms.tot : ∀ {as bs : List (List Pm.Cut)} (ax : Nat), Pms as bs → Pm.tot as ax = Pm.tot bs ax
  | _, _, _, .nil => rfl
  | _, _, ax, .cons g r => by
    have := Pms.tot ax r
    simp only [Pm.tot, List.map_cons, List.foldr_cons] at this ⊢
    rw [this, Pm.wid_perm g]
theorem Pms.mem : ∀ {as bs : List (List Pm.Cut)}, Pms as bs → ∀ a ∈ as, ∃ b ∈ bs, a.Perm b
  | _, _, .nil, _, h => by cases h
  | _, _, .cons g r, x, h => by
    rcases List.mem_cons.mp h with rfl | h
    · exact ⟨_, List.mem_cons_self .., g⟩
    · obtain ⟨b, hb, p⟩ := Pms.mem r x h
      exact ⟨b, List.mem_cons_of_mem _ hb, p⟩
theorem Pms.ok {as bs : List (List Pm.Cut)} (h : Pms as bs) (ok : Pm.RdsOk bs) : Pm.RdsOk as := by
  refine ⟨h.len ▸ ok.1, h.len ▸ ok.2.1, fun r hr => ?_, ?_⟩
  · obtain ⟨b, hb, p⟩ := h.mem r hr
    exact (ok.2.2.1 b hb).perm p.symm
  · rw [h.tot, h.tot]; exact ok.2.2.2
def sp_rounds (K : PySem.W.Frag) : Sp := fun vs H Q _ => ∃ (p : Addr), vs = [.ref p] ∧ Pot H p ∧ ∀ (v : V) (rs : List (List Pm.Cut)) (H' : Hp), LRd K p H' v rs → Pot H' p → Bu p H H' → Q v H'
theorem c_rounds {K : PySem.W.Frag} {p : Addr} {H : Hp} {Q : VK} {E : XK} (h0 : Pot H p) (q : ∀ (v : V) (rs : List (List Pm.Cut)) (H' : Hp), LRd K p H' v rs → Pot H' p → Bu p H H' → Q v H') : sp_rounds K [.ref p] H Q E := ⟨_, rfl, h0, q⟩
theorem chr_at {pt : Str} {i : Nat} (h : i < pt.length) : atI pt.cps.toList (i : Int) = some (chr pt i) := by
  have h' : i < pt.cps.toList.length := by rw [Array.length_toList]; exact h
  refine atI_nat ?_
  unfold chr
  rw [List.getD_eq_getElem?_getD, List.getElem?_eq_getElem h']
  rfl
theorem is_n (c : Nat) : decide (V.str ⟨#[c]⟩ = V.str "n") = decide (c = 110) := by
  refine decide_eq_decide.mpr ⟨fun h => ?_, fun h => by subst h; rfl⟩
  have e := V.str.inj h
  have e2 : (⟨#[c]⟩ : Str).cps = (⟨#[110]⟩ : Str).cps := by rw [e]; rfl
  simpa using e2
theorem dig {c : Nat} (h : [50, 51, 52].contains c = true) : PySem.intText? ⟨#[c]⟩ = some ((c - 48 : Nat) : Int) := by
  have : c = 50 ∨ c = 51 ∨ c = 52 := by simpa using h
  rcases this with rfl | rfl | rfl <;> decide +kernel
theorem rgc2 {m : Nat} (h1 : 1 ≤ m) (h5 : m ≤ 5) : RgC 0 ((2 * m : Nat) : Int) 2 m := by
  have : m = 1 ∨ m = 2 ∨ m = 3 ∨ m = 4 ∨ m = 5 := by omega
  rcases this with rfl | rfl | rfl | rfl | rfl <;> exact ⟨by decide, by decide, by decide +kernel, by decide +kernel⟩
theorem ok_rounds {f : Addr} {fd : FuncData} (F : Df K "_law_rounds" "_law_rounds" s_rounds [] f fd) (B : Blt mg) (cDr : Ca P w K mg base 1 "_law_draw" sp_draw []) (cPk : Ca P w K mg base 2 "_law_pick" (sp_pick K) []) (cMx : Ca P w K mg base 2 "_law_mixed" (sp_mixed K) []) :
    FnOk P w K mg base CX0 3 f fd ["_law_pot_here"] (sp_rounds K) := by
  refine dfOk F sc_rounds (fun vs H Q E h => ?_) (fun cdv A outer s H vs Q E hr h => ?_)
  · obtain ⟨p, rfl, _⟩ := h
    rfl
  · obtain ⟨p, rfl, hp, q⟩ := h
    refine ⟨_, (pss_cons (ps_set (i := 1) sc_rounds.nd rfl (Or.inl rfl) (pe_lst (pa_cons pe_str (pa_cons pe_str (pa_cons pe_str (pa_cons pe_str (pa_cons pe_str (pa_cons pe_str (pa_cons pe_str (pa_cons pe_str (pa_cons pe_str (pa_cons pe_str pa_nil))))))))))))
  (pss_cons (ps_set (i := 1) sc_rounds.nd rfl (Or.inl rfl) (pe_op op_cat (pv 1) (pe_lst (pa_cons pe_str (pa_cons pe_str (pa_cons pe_str (pa_cons pe_str (pa_cons pe_str pa_nil))))))))
  (pss_cons (ps_set (i := 2) sc_rounds.nd rfl (Or.inl rfl) (pe_ca cPk hr (by decide) (by rfl) (pa_cons (pv 0) (pa_cons (pe_op op_cat (pv 1) (pe_lst (pa_cons pe_str (pa_cons pe_str (pa_cons pe_str pa_nil))))) pa_nil))))
  (pss_cons (ps_asg (pe_tup (pa_cons (pe_lst pa_nil) (pa_cons (pe_ca cDr hr (by decide) (by rfl) (pa_cons (pv 0) (pa_cons pe_int pa_nil))) (pa_cons (pe_ca cDr hr (by decide) (by rfl) (pa_cons (pv 0) (pa_cons (pe_op op_add (pe_m1 PySem.F.slot_str_count PySem.F.type_str_count mt_count (pv 2) pe_str) pe_int) pa_nil))) pa_nil)))) (pg_tup' 3 (pgs_cons (pg_name (i := 3) sc_rounds.nd rfl (Or.inl rfl)) (pgs_cons (pg_name (i := 4) sc_rounds.nd rfl (Or.inr rfl)) (pgs_cons (pg_name (i := 5) sc_rounds.nd rfl (Or.inl rfl)) pgs_nil)))))
  (pss_cons (ps_for PassesOwn.never rfl (pi_list (pe_split (pv 2) pe_str)) (pg_name (i := 6) sc_rounds.nd rfl (Or.inr rfl))
  (pss_cons (ps_setLc (i := 7) (own := [("_law_k", 8)]) (by rfl) sc_rounds.nd rfl rfl (sw_true rfl rfl rfl (by decide +kernel)) (pi_range3 (by rfl) B.range (pa_cons pe_int (pa_cons (pe_callB call_len_str (by rfl) B.len bt_len (pa_cons (pv 6) pa_nil)) (pa_cons pe_int pa_nil)))) (blkOk_by (own := [("_law_k", 8)]) (N := ["_law_pot_here", "_law_menu", "_law_word", "_law_found", "_law_turned_here", "_law_at", "_law_part", "_law_cuts", "_law_k"]) (sc := defScope s_rounds) (by decide +kernel)) (fun _ _ _ _ _ => (pg_name (i := 8) sc_rounds.nd rfl (Or.inl rfl))) (fun _ _ _ _ _ => pts_nil) (fun _ _ _ _ _ => (pe_tup (pa_cons (pe_callTy call_int1 (by rfl) B.int bt_int (pa_cons (pe_cmpR op_ne (pe_cmpR op_eq (pe_ix ix_str (pv 6) (pv 8) (fun _ _ => rfl)) pe_str (nomark _)) (pe_cmpR op_eq (pv 4) pe_int (nomark _)) (nomark _)) pa_nil)) (pa_cons (pe_callTy call_int_str (by rfl) B.int bt_int (pa_cons (pe_ix ix_str (pv 6) (pe_op op_add (pv 8) pe_int) (fun _ _ => rfl)) pa_nil)) pa_nil)))))
  (pss_one (ps_expr (pe_bm PySem.F.plainAttrs_list PySem.F.slot_list_append PySem.F.type_list_append mt_append (pv 3) (pa_cons (pe_ca cMx hr (by decide) (by rfl) (pa_cons (pv 0) (pa_cons (pv 7) pa_nil))) pa_nil))))))
  (pss_one (ps_ret (pe_op op_cat (pe_slice sl_list (pv 3) (po_some (pv 5)) po_none) (pe_slice sl_list (pv 3) po_none (po_some (pv 5))))))))))), ?_⟩
    refine ⟨by show 10 ≤ sizeLine; decide, fun m1 hm1 => ?_⟩
    refine ⟨_, rfl, by show 5 ≤ sizeLine; decide, fun m2 hm2 => ?_⟩
    have n12 : m1 ≠ m2 := fun z => by rw [← z, upd_same] at hm2; cases hm2
    refine ⟨m1, m2, _, _, rfl, rfl, by rw [upd_ne n12, upd_same], upd_same, by show 10 + 5 ≤ sizeLine; decide, fun m3 hm3 => ?_⟩
    refine ⟨_, rfl, _, rfl, by show 3 ≤ sizeLine; decide, fun m4 hm4 => ?_⟩
    have n34 : m3 ≠ m4 := fun z => by rw [← z, upd_same] at hm4; cases hm4
    refine ⟨m3, m4, _, _, rfl, rfl, by rw [upd_ne n34, upd_same], upd_same, by show 15 + 3 ≤ sizeLine; decide, fun m5 hm5 => ?_⟩
    have s5 : ∀ o, Same H (upd _ m5 o) := fun o => (same_new hm1).trans ((same_new hm2).trans ((same_new hm3).trans ((same_new hm4).trans (same_new (o := o) hm5))))
    have hm50 := ((same_new hm1).trans ((same_new hm2).trans ((same_new hm3).trans (same_new hm4)))).free hm5
    refine ⟨p, m5, menu.map V.str, rfl, hp.same (s5 _), hp.ne hm50, SqL.of upd_same, by simp [menu], by simp [menu], fun v H1 hv hp1 b1 => ?_⟩
    obtain ⟨wd, hwd, rfl⟩ := List.mem_map.mp hv
    obtain ⟨hw1, hw2, hw3, hw4⟩ := word_ok hwd
    have b1' : Bu p H H1 := (Bu.of (s5 _) p).trans b1
    have l1 := (hw4 true).1
    have l3 := (hw4 true).2.1
    rw [List.length_map] at l1 l3
    -- found, turned, at
    refine ⟨by show 0 ≤ sizeLine; decide, fun fo hfo => ?_⟩
    have hpf := hp1.ne hfo
    refine ⟨_, rfl, p, 2, rfl, hp1.new hfo, by decide, by decide, fun t H2 ht hp2 b2 => ?_⟩
    refine ⟨_, rfl, _, rfl, ⟨_, rfl⟩, _, _, rfl, rfl, _, _, rfl, rfl, p, _, rfl, hp2, by omega, by omega, fun at_ H3 hat hp3 b3 => ?_⟩
    refine ⟨by show 3 ≤ sizeLine; decide, fun tt htt => ?_⟩
    refine ⟨tt, _, rfl, SqT.of upd_same, rfl, _, _, rfl, _, _, rfl, _, _, rfl, rfl, ?_⟩
    have ef3 := b3 _ _ hpf (b2 _ _ hpf upd_same)
    have bA : Bu p H H3 := b1'.trans ((Bu.new hfo).trans (b2.trans b3))
    have st := fun o => same_new (o := o) htt
    obtain ⟨H4, eH4⟩ : ∃ H4, H4 = upd H3 tt (.tup [.ref fo, .int t, .int at_]) := ⟨_, rfl⟩
    rw [← eH4]
    have s4 : Same H3 H4 := by rw [eH4]; exact st _
    have ef4 := s4 _ _ ef3
    have hp4 := hp3.same s4
    have bB := bA.trans (Bu.of s4 p)
    clear eH4
    have hfo0 : H fo = none := b1'.free hpf hfo
    -- the parts
    refine ⟨_, rfl, ⟨_, rfl⟩, _, _, rfl, rfl, rfl, by unfold sizeLine; omega, fun pl hpl => ?_⟩
    have hppl := hp4.ne hpl
    have hfpl : pl ≠ fo := fun z => by rw [z, ef4] at hpl; cases hpl
    have spl := fun o => same_new (o := o) hpl
    obtain ⟨parts, eparts⟩ : ∃ parts, parts = Txt.split wd "|" := ⟨_, rfl⟩
    rw [← eparts] at hw2 hw3 hw4 ⊢
    have hlp : (parts.map V.str).length = parts.length := by simp
    have ht2 : t = 0 ∨ t = 1 := by omega
    rw [← eparts] at l1 l3
    refine ⟨pl, rfl, ⟨_, SqL.of upd_same⟩, for_it (walk_list (xs := parts.map V.str)) (fun i σ H' => ∃ v6 v7 v8 ys rs, σ = [some (.ref p), some (.ref m3), some (.str wd), some (.ref fo), some (.int t), some (.int at_), v6, v7, v8] ∧ Pot H' p ∧ Bu p H H' ∧ H' pl = some (.lst (parts.map V.str)) ∧ H' fo = some (.lst ys) ∧ LLs K H' [p, fo] ys (lRds rs) ∧ Pms rs ((parts.take i).map (cutsOf (decide (t = 1)))))
      ⟨_, _, _, [], [], rfl, hp4.same (spl _), bB.trans (Bu.of (spl _) p), upd_same, spl _ _ _ ef4, .nil, by simp; exact .nil⟩ (fun i σ H' _ h => by obtain ⟨_, _, _, _, _, _, _, _, h, _⟩ := h; exact SqL.of h) ?_ ?_⟩
    · rintro i x σ H5 _ hi ⟨v6, v7, v8, ys, rs, rfl, hp5, b5, epl, ef5, hll, hpm⟩ ⟨rfl, hx⟩
      rw [List.getElem?_map] at hx
      obtain ⟨pt, hpt, rfl⟩ := Option.map_eq_some_iff.mp hx
      have hpb := hw3 pt (List.mem_of_getElem? hpt)
      simp only [partB, Bool.and_eq_true, decide_eq_true_eq, List.all_eq_true, List.mem_range] at hpb
      obtain ⟨⟨⟨hb1, hb2⟩, hb3⟩, hb4⟩ := hpb
      obtain ⟨m, em⟩ : ∃ m, m = pt.length / 2 := ⟨_, rfl⟩
      rw [← em] at hb1 hb2 hb3 hb4
      have hz : pt.length ≤ sizeLine := by unfold sizeLine; omega
      refine ⟨_, rfl, _, rfl, hz, 0, _, 2, m, rfl, by rw [hb3]; exact rgc2 hb1 hb2, fun D hD => lc_nl (K := K) walk_rangeC ((cutsOf (decide (t = 1)) pt).map lCut) (by simp [cutsOf, em]) (by omega) (NLs.map _ NL.lCut _) hD (fun _ _ => trivial) ?_ ?_ gName_mono⟩
      · rintro j e y H6 H7 Q2 hj he s6 ⟨e67, rfl⟩ hq
        subst e67
        refine ⟨rfl, ?_⟩
        have hej : e = lCut ((if (decide (chr pt (2 * j) = 110) != decide (t = 1)) then 1 else 0), chr pt (2 * j + 1) - 48) := by
          unfold cutsOf at he
          rw [List.map_map, List.getElem?_map, ← em, List.getElem?_range hj] at he
          exact (Option.some.inj he).symm
        subst hej
        have ca : ∀ {i : Nat} {z : Int}, z = (i : Int) → i < pt.length → atI pt.cps.toList z = some (chr pt i) := fun h hl => h ▸ chr_at hl
        have h2 : (2 * j : Nat) + 1 < pt.length := by omega
        have hdig := hb4 j hj
        refine ⟨_, rfl, _, rfl, pt, _, chr pt (2 * j), rfl, rfl, hz, ca (by omega) (by omega), rfl, ?_⟩
        refine ⟨_, rfl, rfl, rfl, .inr ⟨_, rfl, ?_⟩⟩
        refine ⟨_, rfl, _, rfl, _, _, rfl, rfl, pt, _, chr pt (2 * j + 1), rfl, rfl, hz, ca (by omega) (by omega), _, _, rfl, dig hdig, by show 1 ≤ 640; decide, by show 2 ≤ sizeLine; decide, fun tq htq => ?_⟩
        refine hq _ _ (same_new htq) ?_
        have e1 : decide (V.int (t : Int) = V.int 1) = decide (t = 1) := decide_eq_decide.mpr ⟨fun z => by have := V.int.inj z; omega, fun z => by rw [z]; rfl⟩
        have e2 : (if (!decide (V.bl (decide (V.str ⟨#[chr pt (2 * j)]⟩ = V.str "n")) = V.bl (decide (V.int (t : Int) = V.int 1)))) = true then (1 : Int) else 0) = ((if (decide (chr pt (2 * j) = 110) != decide (t = 1)) = true then 1 else 0 : Nat) : Int) := by
          rw [is_n, e1]
          cases decide (chr pt (2 * j) = 110) <;> cases decide (t = 1) <;> rfl
        refine .tup (SqT.of upd_same) (.cons ?_ (.cons (.int _) .nil))
        show Dp K _ (.int (if (!decide (V.bl (decide (V.str ⟨#[chr pt (2 * j)]⟩ = V.str "n")) = V.bl (decide (V.int (t : Int) = V.int 1)))) = true then (1 : Int) else 0)) _
        rw [e2]
        exact .int _
      · rintro H6 ys6 s6 eD hall
        have ef6 := s6 _ _ ef5
        have hp6 := hp5.same s6
        refine ⟨_, rfl, .inl ⟨rfl, _, SqL.of ef6⟩, ?_⟩
        refine ⟨_, rfl, _, rfl, p, .ref D, _, rfl, hp6, .lst (SqL.of eD) hall, fun d hd => ?_, by simp [cutsOf]; omega, fun l zs es H7 pm hl el hz7 hp7 b7 => ?_⟩
        · obtain ⟨c, _, rfl⟩ := List.mem_map.mp hd
          exact lCut_shp c
        obtain ⟨r', pr, rfl⟩ := perm_map_inv lCut pm _ rfl
        obtain ⟨ws, ep6⟩ := hp6.lst
        have ef7 := b7 _ _ hpf ef6
        have hlf : l ≠ fo := fun z => by rw [z, ef6] at hl; cases hl
        have hlp' : l ≠ p := hp6.ne hl
        have hyl := hll.len
        have hrl := hpm.len
        refine ⟨fo, ys, .ref l, rfl, rfl, ef7, by rw [hyl]; unfold lRds; rw [List.length_map, hrl]; simp; unfold sizeLine; omega, ?_⟩
        have b8 : Bu fo H7 (upd H7 fo (.lst (ys ++ [.ref l]))) := Bu.set
        obtain ⟨x7, y7, e7, r7⟩ := hp7.ex
        refine ⟨_, _, _, ys ++ [.ref l], rs ++ [r'], rfl, ⟨x7, y7, b8 _ _ (Ne.symm hpf) e7, r7⟩, Bu.over (b5.trans ((Bu.of s6 p).trans b7)) hfo0, b8 _ _ hfpl (b7 _ _ hppl (s6 _ _ epl)), upd_same, ?_, ?_⟩
        · have : lRds (rs ++ [r']) = lRds rs ++ [r'.map lCut] := by simp [lRds]
          rw [this]
          refine (((hll.same s6).bu b7 (by simp) ep6).bu b8 (by simp) ef7).app (.cons (by simp [hlf, hlp']) (b8 _ _ hlf el) (hz7.bu (NLs.map _ NL.lCut _) b8 ef7) (NLs.map _ NL.lCut _) .nil)
        · rw [List.take_add_one, hpt, List.map_append]
          exact hpm.app pr
    · rintro σ H5 ⟨v6, v7, v8, ys, rs, rfl, hp5, b5, epl, ef5, hll, hpm⟩
      rw [hlp, List.take_length] at hpm
      have hok := hpm.ok (hw4 _)
      have hyl := hll.len
      have hrl := hpm.len
      unfold lRds at hyl
      rw [List.length_map, hrl, List.length_map] at hyl
      have hat' : at_ ≤ ys.length := by omega
      refine ⟨_, rfl, _, rfl, _, rfl, fo, ys, rfl, SqL.of ef5, fun c1 hc1 => ?_⟩
      have cut1 : cutV ys (some (at_ : Int)) none = ys.drop at_ := by
        unfold cutV
        rw [HT.sIx_nat, HT.sIx_none, Nat.min_eq_left hat', List.take_of_length_le (by simp)]
      have cut2 : cutV ys none (some (at_ : Int)) = ys.take at_ := by
        unfold cutV
        rw [HT.sIx_nat, HT.sIx_none, Nat.min_eq_left hat', List.drop_zero, Nat.sub_zero]
      rw [cut1]
      have sc1 := fun o => same_new (o := o) hc1
      refine ⟨_, rfl, _, rfl, _, rfl, fo, ys, rfl, SqL.of (sc1 _ _ _ ef5), fun c2 hc2 => ?_⟩
      rw [cut2]
      have sc2 := fun o => same_new (o := o) hc2
      have h12 : c1 ≠ c2 := fun z => by rw [← z, upd_same] at hc2; cases hc2
      refine ⟨c1, c2, _, _, rfl, rfl, sc2 _ _ _ upd_same, upd_same, by simp; unfold sizeLine; omega, fun c3 hc3 => ?_⟩
      have sc3 := fun o => (sc1 (.lst (ys.drop at_))).trans ((sc2 (.lst (ys.take at_))).trans (same_new (o := o) hc3))
      have hc30 := ((sc1 (.lst (ys.drop at_))).trans (sc2 (.lst (ys.take at_)))).free hc3
      refine q _ (rs.drop at_ ++ rs.take at_) _ ⟨⟨c3, _, rfl, hp5.ne hc30, upd_same, ?_⟩, ?_⟩ (hp5.same (sc3 _)) (b5.trans (Bu.of (sc3 _) p))
      · have e : lRds (rs.drop at_ ++ rs.take at_) = (lRds rs).drop at_ ++ (lRds rs).take at_ := by simp [lRds, List.map_drop, List.map_take]
        rw [e]
        have := (hll.sub (bv := [p]) (by simp)).same (sc3 (.lst (ys.drop at_ ++ ys.take at_)))
        exact (this.drop at_).app (this.take at_)
      · refine hok.perm ?_
        have : (rs.take at_ ++ rs.drop at_).Perm (rs.drop at_ ++ rs.take at_) := List.perm_append_comm
        rwa [List.take_append_drop] at this
end
end T
set_option Elab.async false
set_option maxRecDepth 100000
set_option maxHeartbeats 4000000
namespace T
open PySem L2 Mv
abbrev s_real : Stmt := top 60
theorem sc_real : FnScope ["_law_pot_here", "_law_rounds_here", "_law_told", "_law_axis", "_law_parts", "_law_cuts"] ["_law_pot_here", "_law_rounds_here"] (defScope s_real) := ⟨rfl, rfl, rfl, by decide +kernel, rfl, by decide +kernel, by decide +kernel⟩
section
variable {P : Program} {w : World} {K : PySem.W.Frag} {mg : Str → Option Value} {base : Heap} {C AX : Addr}
/-! data that no pot is -/
def isRf : PyData → Bool
  | .list _ | .tuple _ => true
  | _ => false
mutual
def RL : PyData → Bool
  | .none | .bool _ | .int _ | .str _ => true
  | .dict _ => false
  | .list [] => false
  | .list (x :: xs) => isRf x && (RL x && RLs xs)
  | .tuple xs => RLs xs
def RLs : List PyData → Bool
  | [] => true
  | x :: xs => RL x && RLs xs
end
theorem isRf_ref {H : Hp} {v : V} {d : PyData} (h : Dp K H v d) (r : isRf d = true) : ∃ a, v = .ref a := by
  cases h <;> first | exact ⟨_, rfl⟩ | (simp [isRf] at r)
mutual
theorem Dp.pot' {p : Addr} {H H' : Hp} (b : Bu p H H') (hp : Pot H p) : ∀ (d : PyData) (v : V), RL d = true → Dp K H v d → Dp K H' v d
  | .none, _, _, h => by cases h; exact .non
  | .bool b, _, _, h => by cases h; exact .bl b
  | .int i, _, _, h => by cases h; exact .int i
  | .str x, _, _, h => by cases h; exact .str x
  | .list [], _, n, h => by simp [RL] at n
  | .list (d :: ds), _, n, h => by
    have n' : isRf d = true ∧ RL d = true ∧ RLs ds = true := by simpa [RL] using n
    cases h with
    | lst hs ha =>
      cases ha with
      | cons h1 h2 =>
        obtain ⟨q, rfl⟩ := isRf_ref h1 n'.1
        obtain ⟨x, y, ep, _⟩ := hp.ex
        refine .lst ?_ (.cons (Dp.pot' b hp d _ n'.2.1 h1) (DpAll.pot' b hp ds _ n'.2.2 h2))
        rcases hs with (h | ⟨o, h⟩) | h
        · exact .inl (.inl (b _ _ (fun z => by rw [z, ep] at h; cases h) h))
        · exact .inl (.inr ⟨o, b _ _ (fun z => by rw [z, ep] at h; cases h) h⟩)
        · exact .inr h
  | .tuple ds, _, n, h => by
    have n' : RLs ds = true := by simpa [RL] using n
    cases h with
    | tup hs ha =>
      obtain ⟨ys, ep⟩ := hp.lst
      exact .tup (b.sqt ep hs) (DpAll.pot' b hp ds _ n' ha)
  | .dict _, _, _, h => by cases h
theorem DpAll.pot' {p : Addr} {H H' : Hp} (b : Bu p H H') (hp : Pot H p) : ∀ (ds : List PyData) (vs : List V), RLs ds = true → DpAll K H vs ds → DpAll K H' vs ds
  | [], _, _, h => by cases h; exact .nil
  | d :: ds, _, n, h => by
    have n' : RL d = true ∧ RLs ds = true := by simpa [RLs] using n
    cases h with
    | cons h1 h2 => exact .cons (Dp.pot' b hp d _ n'.1 h1) (DpAll.pot' b hp ds _ n'.2 h2)
end
theorem RLs.of : ∀ {ds : List PyData}, (∀ d ∈ ds, RL d = true) → RLs ds = true
  | [], _ => rfl
  | d :: ds, h => by
    have := RLs.of (ds := ds) fun x hx => h x (List.mem_cons_of_mem _ hx)
    simp [RLs, h d (List.mem_cons_self ..), this]
theorem RL.list {ds : List PyData} (hn : ds ≠ []) (h : ∀ d ∈ ds, isRf d = true ∧ RL d = true) : RL (.list ds) = true := by
  cases ds with
  | nil => exact absurd rfl hn
  | cons d ds =>
    have h1 := h d (List.mem_cons_self ..)
    have h2 := RLs.of (ds := ds) fun x hx => (h x (List.mem_cons_of_mem _ hx)).2
    simp [RL, h1.1, h1.2, h2]
theorem rl_rds {rs : List (List Pm.Cut)} (h : Pm.RdsOk rs) : RL (pRds rs) = true := by
  refine RL.list (fun z => ?_) fun d hd => ?_
  · have := h.1
    have e : (rs.map pRnd).length = 0 := by rw [z]; rfl
    simp at e
    subst e
    simp at this
  · obtain ⟨r, hr, rfl⟩ := List.mem_map.mp hd
    refine ⟨rfl, RL.list (fun z => ?_) fun d hd => ?_⟩
    · have := (h.2.2.1 r hr).1
      have e : (r.map pCut).length = 0 := by rw [z]; rfl
      simp at e
      subst e
      simp at this
    · obtain ⟨c, _, rfl⟩ := List.mem_map.mp hd
      exact ⟨rfl, rfl⟩
theorem rl_parts {rs : List (List Pm.Cut)} (h : Pm.RdsOk rs) : RL (pParts rs) = true := by
  refine RL.list (fun z => ?_) fun d hd => ?_
  · have := h.1
    have e := congrArg List.length z
    simp at e
    subst e
    simp at this
  · obtain ⟨r, hr, rfl⟩ := List.mem_map.mp hd
    exact ⟨rfl, rfl⟩
theorem PlanAt.bu {p : Addr} {H H' : Hp} {v : V} {rs : List (List Pm.Cut)} (h : PlanAt K C H v rs) (b : Bu p H H') (hp : Pot H p) : PlanAt K C H' v rs := by
  obtain ⟨a, dx, R, Pt, e, ea, h1, h2⟩ := h.ex
  obtain ⟨x, y, ep, _⟩ := hp.ex
  exact ⟨⟨a, dx, R, Pt, e, b _ _ (fun z => by rw [z, ep] at ea; cases ea) ea, Dp.pot' b hp _ _ (rl_rds h.ok) h1, Dp.pot' b hp _ _ (rl_parts h.ok) h2⟩, h.ok⟩
theorem lcut_at {H : Hp} {v : V} {c : Pm.Cut} (h : Dp K H v (lCut c)) : ∃ a, v = .ref a ∧ SqT K H a [.int c.1, .int c.2] := pair_at h
theorem ax_at {a : Nat} (h : a < 2) : atI [V.str "east", V.str "north"] (a : Int) = some (.str (axn a)) := by
  have : a = 0 ∨ a = 1 := by omega
  rcases this with rfl | rfl <;> rfl
def sp_real (K : PySem.W.Frag) (C : Addr) : Sp := fun vs H Q _ => ∃ (p : Addr) (v : V) (rs : List (List Pm.Cut)), vs = [.ref p, v] ∧ Pot H p ∧ LRd K p H v rs ∧ ∀ (u : V) (H' : Hp), PlanAt K C H' u rs → Pot H' p → Bu p H H' → Q u H'
theorem c_real {K : PySem.W.Frag} {C : Addr} {p : Addr} {v : V} {rs : List (List Pm.Cut)} {H : Hp} {Q : VK} {E : XK} (h0 : Pot H p) (h1 : LRd K p H v rs) (q : ∀ (u : V) (H' : Hp), PlanAt K C H' u rs → Pot H' p → Bu p H H' → Q u H') : sp_real K C [.ref p, v] H Q E := ⟨_, _, _, rfl, h0, h1, q⟩
theorem ok_real {f : Addr} {fd : FuncData} (F : Df K "_law_real" "_law_real" s_real [] f fd) (B : Blt mg) (cDr : Ca P w K mg base 1 "_law_draw" sp_draw []) (cPl : MaR P w K mg base 6 "Plan" C (spMk K C)) : FnOk P w K mg base CX0 8 f fd ["_law_pot_here", "_law_rounds_here"] (sp_real K C) := by
  refine dfOk F sc_real (fun vs H Q E h => ?_) (fun cdv A outer s H vs Q E hr h => ?_)
  · obtain ⟨p, v, rs, rfl, _⟩ := h
    rfl
  · obtain ⟨p, v, rs, rfl, hp, hl, q⟩ := h
    obtain ⟨a, ys, rfl, hap, ea, hll⟩ := hl.ex
    have hok := hl.ok
    have hdp := hll.dp
    have hylen : ys.length = rs.length := by rw [hll.len]; simp [lRds]
    have l1 := hok.1
    have l3 := hok.2.1
    obtain ⟨tt, htt, fin⟩ : ∃ tt, PSs (cxOf CX0 P w K mg base ["_law_pot_here", "_law_rounds_here", "_law_told", "_law_axis", "_law_parts", "_law_cuts"] "_law_real" (defScope s_real) f cdv A outer s H E).nox ((defBody s_real).drop 2) tt ∧
        ∀ (L : Addr) (zs : List V) (b : Bool) (H3 : Hp) (v3 v4 v5 : Option V), H3 L = some (.lst zs) → DpAll K H3 zs (pPass (rs.map fun r => (b, r))) → Pot H3 p → Bu p H H3 → tt { nx := fun _ H' => Q .non H', rt := Q } [some (.ref p), some (.ref a), some (.ref L), v3, v4, v5] H3 := by
      refine ⟨_, (pss_cons (ps_if (pt_cmpR op_eq (pe_callB call_len_seq' (by rfl) B.len bt_len (pa_cons (pv 2) pa_nil)) pe_int (nomark _))
  (pss_one (ps_ret (pe_mar cPl hr (by decide) (by rfl) (pa_cons (pe_ix ix_list' (pv 2) pe_int (fun _ _ => rfl)) pa_nil))))
  pss_nil)
  (pss_one (ps_ret (pe_ifExp (pt_cmpR op_eq (pe_callB call_len_seq' (by rfl) B.len bt_len (pa_cons (pv 2) pa_nil)) pe_int (nomark _)) (pe_mar cPl hr (by decide) (by rfl) (pa_cons (pe_ix ix_list' (pv 2) pe_int (fun _ _ => rfl)) (pa_cons (pe_ix ix_list' (pv 2) pe_int (fun _ _ => rfl)) pa_nil))) (pe_mar cPl hr (by decide) (by rfl) (pa_cons (pe_ix ix_list' (pv 2) pe_int (fun _ _ => rfl)) (pa_cons (pe_ix ix_list' (pv 2) pe_int (fun _ _ => rfl)) (pa_cons (pe_ix ix_list' (pv 2) pe_int (fun _ _ => rfl)) pa_nil)))))))), fun L zs b H3 v3 v4 v5 eL hz hp3 b3 => ?_⟩
      have ers : (rs.map fun r => (b, r)).map Prod.snd = rs := by rw [List.map_map]; exact List.map_id _
      have hzl : zs.length = rs.length := by rw [hz.len]; simp [pPass]
      have mk : ∀ vs, vs = zs → ∀ x dx, H3 x = none → H3 dx = none → dx ≠ x → spMk K C (V.ref x :: vs) (upd (upd H3 dx (.own x)) x (.ins C dx [])) (fun v H2 => v = .non ∧ Q (.ref x) H2) E0 := fun vs e => mk_plan (brs := rs.map fun r => (b, r)) (e ▸ hz) (ers.symm ▸ hok) fun u H' s' pa => q u H' (ers ▸ pa) (hp3.same s') (b3.trans (Bu.of s' p))
      have at_ : ∀ (i : Nat) (x : V), zs[i]? = some x → atI zs (i : Int) = some x := fun i x h => atI_nat h
      match zs, hzl, mk, at_, eL, hz with
      | [], hzl, _, _, _, _ => exact absurd hzl (by simp; omega)
      | [x0], _, mk, at_, eL, _ =>
        refine ⟨_, rfl, L, _, rfl, .inl (SqL.of eL), rfl, _, rfl, iteT ?_⟩
        exact ⟨_, rfl, L, _, _, _, rfl, rfl, SqL.of eL, at_ 0 x0 rfl, mk _ rfl⟩
      | [x0, x1], _, mk, at_, eL, _ =>
        refine ⟨_, rfl, L, _, rfl, .inl (SqL.of eL), rfl, _, rfl, iteF ?_⟩
        refine ⟨_, rfl, L, _, rfl, .inl (SqL.of eL), rfl, _, rfl, iteT ?_⟩
        exact ⟨_, rfl, L, _, _, _, rfl, rfl, SqL.of eL, at_ 0 x0 rfl, _, rfl, L, _, _, _, rfl, rfl, SqL.of eL, at_ 1 x1 rfl, mk _ rfl⟩
      | [x0, x1, x2], _, mk, at_, eL, _ =>
        refine ⟨_, rfl, L, _, rfl, .inl (SqL.of eL), rfl, _, rfl, iteF ?_⟩
        refine ⟨_, rfl, L, _, rfl, .inl (SqL.of eL), rfl, _, rfl, iteF ?_⟩
        exact ⟨_, rfl, L, _, _, _, rfl, rfl, SqL.of eL, at_ 0 x0 rfl, _, rfl, L, _, _, _, rfl, rfl, SqL.of eL, at_ 1 x1 rfl, _, rfl, L, _, _, _, rfl, rfl, SqL.of eL, at_ 2 x2 rfl, mk _ rfl⟩
      | _ :: _ :: _ :: _ :: _, hzl, _, _, _, _ => exact absurd hzl (by simp; omega)
    refine ⟨_, pss_cons (ps_setLc (i := 2) (own := [("_law_cuts", 5)]) (by rfl) sc_real.nd rfl rfl (sw_true rfl rfl rfl (by decide +kernel)) (pi_list (pv 1)) (blkOk_by (own := [("_law_cuts", 5)]) (N := ["_law_pot_here", "_law_rounds_here", "_law_told", "_law_axis", "_law_parts", "_law_cuts"]) (sc := defScope s_real) (by decide +kernel)) (fun _ _ _ _ _ => (pg_name (i := 5) sc_real.nd rfl (Or.inl rfl))) (fun _ _ _ _ _ => pts_nil) (fun _ _ _ _ _ => (pe_lc (own := [("_law_axis", 3), ("_law_parts", 4)]) (by rfl) sc_real.nd (pi_list' (pv 5)) (blkOk_by (own := [("_law_axis", 3), ("_law_parts", 4)]) (N := ["_law_pot_here", "_law_rounds_here", "_law_told", "_law_axis", "_law_parts", "_law_cuts"]) (by kernel_rfl)) (fun _ _ _ _ _ => (pg_tup' 2 (pgs_cons (pg_name (i := 3) sc_real.nd rfl (Or.inl rfl)) (pgs_cons (pg_name (i := 4) sc_real.nd rfl (Or.inl rfl)) pgs_nil)))) (fun _ _ _ _ _ => pts_nil) (fun _ _ _ _ _ => (pe_tup (pa_cons (pe_ix ix_list' (pe_lst (pa_cons pe_str (pa_cons pe_str pa_nil))) (pv 3) (fun _ _ => rfl)) (pa_cons (pv 4) pa_nil))))))) (pss_cons (ps_if (pt_cmpR op_eq (pe_ca cDr hr (by decide) (by rfl) (pa_cons (pv 0) (pa_cons pe_int pa_nil))) pe_int (nomark _))
  (pss_one (ps_setLc (i := 2) (own := [("_law_cuts", 5)]) (by rfl) sc_real.nd rfl rfl (sw_true rfl rfl rfl (by decide +kernel)) (pi_list (pv 2)) (blkOk_by (own := [("_law_cuts", 5)]) (N := ["_law_pot_here", "_law_rounds_here", "_law_told", "_law_axis", "_law_parts", "_law_cuts"]) (sc := defScope s_real) (by decide +kernel)) (fun _ _ _ _ _ => (pg_name (i := 5) sc_real.nd rfl (Or.inl rfl))) (fun _ _ _ _ _ => pts_nil) (fun _ _ _ _ _ => (pe_callTy call_tuple_of' (by rfl) B.tuple bt_tuple (pa_cons (pv 5) pa_nil)))))
  pss_nil) htt), ?_⟩
    refine ⟨_, rfl, a, rfl, ⟨_, SqL.of ea⟩, fun D hD => lc_ll (K := K) (walk_list (xs := ys)) (rs.map fun r => r.map pCut) (by simp; omega) (by omega) (fun e he => ?_) hD (fun H' s' => SqL.of (s' _ _ ea)) ?_ ?_ gName_mono⟩
    · obtain ⟨r, _, rfl⟩ := List.mem_map.mp he
      exact NLs.map _ NL.pCut r
    · rintro i e x H1 _ Q1 hi he s1 ⟨rfl, hx⟩ hq
      refine ⟨rfl, ?_⟩
      obtain ⟨d, hd1, hd2⟩ := (hdp.up s1).get hx
      unfold lRds at hd1
      rw [List.map_map, List.getElem?_map] at hd1
      obtain ⟨r, hr1, rfl⟩ := Option.map_eq_some_iff.mp hd1
      have he' : e = r.map pCut := by
        rw [List.getElem?_map, hr1] at he
        exact (Option.some.inj he).symm
      subst he'
      have hro := hok.2.2.1 r (List.mem_of_getElem? hr1)
      obtain ⟨c0, zs, rfl, hs, ha⟩ := Dp.lstE hd2
      have hzl : zs.length = r.length := by rw [ha.len]; simp
      have hr5 := hro.2.1
      refine ⟨_, rfl, c0, rfl, ⟨_, hs⟩, fun D2 hD2 => lc_nl (K := K) (walk_list (xs := zs)) (r.map pCut) (by simp; omega) (by omega) (NLs.map _ NL.pCut r) hD2 (fun H' s' => s'.seq hs) ?_ ?_ gTup2_mono⟩
      · rintro j e y H2 _ Q2 hj he2 s2 ⟨rfl, hy⟩ hq2
        obtain ⟨d, hd1, hd2⟩ := (ha.up s2).get hy
        rw [List.getElem?_map] at hd1
        obtain ⟨c, hc1, rfl⟩ := Option.map_eq_some_iff.mp hd1
        have he3 : e = pCut c := by
          rw [List.getElem?_map, hc1] at he2
          exact (Option.some.inj he2).symm
        subst he3
        obtain ⟨t, rfl, ht⟩ := lcut_at hd2
        have hc := hro.2.2.1 c (List.mem_of_getElem? hc1)
        refine ⟨t, _, rfl, ht, rfl, _, _, rfl, _, _, rfl, rfl, rfl, ?_⟩
        refine ⟨by show 2 ≤ sizeLine; decide, fun l hl => ?_⟩
        have sl := fun o => same_new (o := o) hl
        refine ⟨_, rfl, l, _, _, _, rfl, rfl, SqL.of upd_same, ax_at hc.1, ?_⟩
        refine ⟨_, rfl, by show 2 ≤ sizeLine; decide, fun t2 ht2 => ?_⟩
        exact hq2 _ _ ((sl _).trans (same_new ht2)) (.tup (SqT.of upd_same) (.cons (.str _) (.cons (.int _) .nil)))
      · rintro H2 ys2 s2 eD2 hall2
        exact hq D2 ys2 H2 s2 hD2 eD2 hall2
    · rintro H1 ys1 s1 eD hall
      have hp1 := hp.same s1
      refine ⟨_, rfl, p, 2, rfl, hp1, by decide, by decide, fun t H2 ht hp2 b2 => ⟨rfl, _, rfl, ?_⟩⟩
      have hDp : D ≠ p := hp.ne hD
      have eD2 := b2 _ _ hDp eD
      have b02 : Bu p H H2 := (Bu.of s1 p).trans b2
      have hall2 : DpAll K H2 ys1 ((rs.map fun r => r.map pCut).map PyData.list) := by
        have e1 : (rs.map fun r => r.map pCut).map PyData.list = rs.map pRnd := by rw [List.map_map]; rfl
        rw [e1] at hall ⊢
        have hrl := rl_rds hok
        unfold pRds at hrl
        have hrs : RLs (rs.map pRnd) = true := by
          generalize rs.map pRnd = ds at hrl
          cases ds with
          | nil => rfl
          | cons d ds =>
            have n' : isRf d = true ∧ RL d = true ∧ RLs ds = true := by simpa [RL] using hrl
            simp [RLs, n'.2.1, n'.2.2]
        exact DpAll.pot' b2 hp1 _ _ hrs hall
      refine ite2 (fun _ => ?_) (fun _ => ?_)
      · refine ⟨_, rfl, D, rfl, ⟨_, SqL.of eD2⟩, fun D3 hD3 => lc_nl (K := K) (walk_list (xs := ys1)) (rs.map fun r => .tuple (r.map pCut)) (by rw [List.length_map, hall.len]; simp) (by rw [hall.len]; simp; omega) (NLs.map _ (fun r => by simp [NL, NLs.map _ NL.pCut r]) rs) hD3 (fun H' s' => SqL.of (s' _ _ eD2)) ?_ ?_ gName_mono⟩
        · rintro i e x Hx H3 Q3 hi he s3 ⟨e33, hx⟩ hq
          subst e33
          refine ⟨rfl, ?_⟩
          obtain ⟨q0, zs0, rfl, hq0, hz0⟩ : ∃ q0 zs0, x = .ref q0 ∧ SqL K H3 q0 zs0 ∧ ∃ r, rs[i]? = some r ∧ DpAll K H3 zs0 (r.map pCut) := by
            obtain ⟨d, hd1, hd2⟩ := (hall2.up s3).get hx
            rw [List.map_map, List.getElem?_map] at hd1
            obtain ⟨r, hr1, rfl⟩ := Option.map_eq_some_iff.mp hd1
            obtain ⟨q0, zs0, e0, h1, h2⟩ := Dp.lstE hd2
            exact ⟨q0, zs0, e0, h1, r, hr1, h2⟩
          obtain ⟨r, hr1, hz0⟩ := hz0
          have he' : e = .tuple (r.map pCut) := by
            rw [List.getElem?_map, hr1] at he
            exact (Option.some.inj he).symm
          subst he'
          exact ⟨_, rfl, q0, zs0, rfl, .inl ⟨hq0, fun l hl => hq _ _ (same_new hl) (.tup (SqT.of upd_same) (hz0.up (same_new hl)))⟩⟩
        · rintro H3 ys3 s3 eD3 hall3
          refine fin D3 ys3 false H3 _ _ _ eD3 ?_ (hp2.same s3) (b02.trans (Bu.of s3 p))
          unfold pPass
          rw [List.map_map]
          exact hall3
      · refine fin D ys1 true H2 _ _ _ eD2 ?_ hp2 b02
        rw [List.map_map] at hall2
        unfold pPass
        rw [List.map_map]
        exact hall2
end
end T
set_option Elab.async false
set_option maxRecDepth 100000
set_option maxHeartbeats 4000000
namespace T
open PySem L2 Mv
abbrev s_size : Stmt := top 61
theorem sc_size : FnScope ["_law_cuts", "_law_found", "_law_axis", "_law_parts"] ["_law_cuts"] (defScope s_size) := ⟨rfl, rfl, rfl, by decide +kernel, rfl, by decide +kernel, by decide +kernel⟩
section
variable {P : Program} {w : World} {K : PySem.W.Frag} {mg : Str → Option Value} {base : Heap} {C AX : Addr}
def lRnd (r : List Pm.Cut) : PyData := .list (r.map lCut)
theorem size_take {r : List Pm.Cut} {i : Nat} {c : Pm.Cut} (h : r[i]? = some c) : Pm.size (r.take (i + 1)) = Pm.size (r.take i) * c.2 := by
  rw [List.take_add_one, h]
  simp only [Option.toList]
  rw [Pm.size_app]
  simp [Pm.size]
theorem size_le {r : List Pm.Cut} (h : Pm.RndOk r) (i : Nat) : Pm.size (r.take i) ≤ 32 := by
  have e := Pm.size_app (r.take i) (r.drop i)
  rw [List.take_append_drop] at e
  have p := Pm.size_pos (r := r.drop i) (fun c hc' => h.2.2.1 c (List.mem_of_mem_drop hc'))
  have l1 : Pm.size (r.take i) ≤ Pm.size r := by rw [e]; exact Nat.le_mul_of_pos_right _ p
  have := h.2.2.2
  omega
def sp_size (K : PySem.W.Frag) : Sp := fun vs H Q _ => ∃ (v : V) (r : List Pm.Cut), vs = [v] ∧ Dp K H v (lRnd r) ∧ Pm.RndOk r ∧ Q (.int (Pm.size r)) H
theorem c_size {K : PySem.W.Frag} {v : V} {r : List Pm.Cut} {H : Hp} {Q : VK} {E : XK} (h0 : Dp K H v (lRnd r)) (h1 : Pm.RndOk r) (q : Q (.int (Pm.size r)) H) : sp_size K [v] H Q E := ⟨_, _, rfl, h0, h1, q⟩
theorem ok_size {f : Addr} {fd : FuncData} (F : Df K "_law_size" "_law_size" s_size [] f fd) : FnOk P w K mg base CX0 1 f fd ["_law_cuts"] (sp_size K) := by
  refine dfOk F sc_size (fun vs H Q E h => ?_) (fun cdv A outer s H vs Q E hr h => ?_)
  · obtain ⟨v, r, rfl, _⟩ := h
    rfl
  · obtain ⟨v, r, rfl, hd, hok, q⟩ := h
    obtain ⟨a, xs, rfl, hs, ha⟩ := hd.lstE
    have hlen : xs.length = r.length := by rw [ha.len, List.length_map]
    refine ⟨_, (pss_cons (ps_set (i := 1) sc_size.nd rfl (Or.inl rfl) pe_int)
  (pss_cons (ps_for PassesOwn.never rfl (pi_list (pv 0)) (pg_tup' 2 (pgs_cons (pg_name (i := 2) sc_size.nd rfl (Or.inl rfl)) (pgs_cons (pg_name (i := 3) sc_size.nd rfl (Or.inl rfl)) pgs_nil)))
  (pss_one (ps_set (i := 1) sc_size.nd rfl (Or.inl rfl) (pe_op op_mul (pv 1) (pv 3)))))
  (pss_one (ps_ret (pv 1))))), ?_⟩
    refine ⟨_, rfl, a, rfl, ⟨_, hs⟩, for_it (walk_list (xs := xs)) (fun i σ H' => H' = H ∧ ∃ v1 v2, σ = [some (.ref a), some (.int (Pm.size (r.take i))), v1, v2]) ⟨rfl, _, _, rfl⟩ (fun i σ H' _ h => by rw [h.1]; exact hs) ?_ ?_⟩
    · rintro i x σ H' H'' hi ⟨rfl, v1, v2, rfl⟩ ⟨rfl, hx⟩
      obtain ⟨d, hd1, hd2⟩ := ha.get hx
      rw [List.getElem?_map] at hd1
      obtain ⟨c, hc1, rfl⟩ := Option.map_eq_some_iff.mp hd1
      obtain ⟨t, rfl, ht⟩ := lcut_at hd2
      have hw := size_take hc1
      have hb := size_le hok i
      refine ⟨t, _, rfl, ht, rfl, _, _, rfl, _, _, rfl, rfl, ?_⟩
      refine ⟨_, rfl, _, rfl, _, _, rfl, rfl, .inl ⟨by omega, by omega⟩, rfl, some (.int c.1), some (.int c.2), ?_⟩
      rw [hw, Int.natCast_mul]
      rfl
    · rintro σ H' ⟨rfl, v1, v2, rfl⟩
      refine ⟨_, rfl, ?_⟩
      rw [hlen, List.take_length]
      exact q
/-! spot -/
def dgs : List Pm.Cut → Nat → List (Pm.Cut × Nat)
  | [], _ => []
  | c :: r, s => dgs r (s / c.2) ++ [(c, s % c.2)]
def fo (ax : Nat) (xs : List (Pm.Cut × Nat)) : Nat := xs.foldl (fun acc x => if x.1.1 = ax then acc * x.1.2 + x.2 else acc) 0
theorem fo_snoc (ax : Nat) (xs : List (Pm.Cut × Nat)) (x : Pm.Cut × Nat) : fo ax (xs ++ [x]) = if x.1.1 = ax then fo ax xs * x.1.2 + x.2 else fo ax xs := by
  unfold fo
  rw [List.foldl_append]
  rfl
theorem fo_dgs (ax : Nat) : ∀ (r : List Pm.Cut) (s : Nat), fo ax (dgs r s) = Pm.al r s ax
  | [], _ => rfl
  | c :: r, s => by
    simp only [dgs, fo_snoc, Pm.al, fo_dgs ax r]
    split
    · rw [Nat.mul_comm, Nat.add_comm]
    · rfl
theorem dgs_len : ∀ (r : List Pm.Cut) (s : Nat), (dgs r s).length = r.length
  | [], _ => rfl
  | c :: r, s => by simp [dgs, dgs_len r]
theorem dgs_mem : ∀ (r : List Pm.Cut) (s : Nat), ∀ x ∈ dgs r s, x.1 ∈ r
  | [], _, x, h => by simp [dgs] at h
  | c :: r, s, x, h => by
    simp only [dgs, List.mem_append, List.mem_singleton] at h
    rcases h with h | rfl
    · exact List.mem_cons_of_mem _ (dgs_mem r _ x h)
    · exact List.mem_cons_self ..
def dDig (x : Pm.Cut × Nat) : PyData := .tuple [.int x.1.1, .int x.1.2, .int x.2]
theorem dig_at {H : Hp} {v : V} {x : Pm.Cut × Nat} (h : Dp K H v (dDig x)) : ∃ a, v = .ref a ∧ SqT K H a [.int x.1.1, .int x.1.2, .int x.2] := Dp.tupIE (is := [_, _, _]) h
end
end T
set_option Elab.async false
set_option maxRecDepth 100000
set_option maxHeartbeats 4000000
namespace T
open PySem L2 Mv
abbrev s_glyphs : Stmt := top 62
theorem sc_glyphs : FnScope ["_law_pot_here", "_law_rounds_here", "_law_many", "_law_deal", "_law_found", "_law_k", "_law_size_here"] ["_law_pot_here", "_law_rounds_here", "_law_many"] (defScope s_glyphs) := ⟨rfl, rfl, rfl, by decide +kernel, rfl, by decide +kernel, by decide +kernel⟩
section
variable {P : Program} {w : World} {K : PySem.W.Frag} {mg : Str → Option Value} {base : Heap} {C AX : Addr}
def lRdsD (rs : List (List Pm.Cut)) : PyData := .list (rs.map lRnd)
theorem LRd.dp {p : Addr} {H : Hp} {v : V} {rs : List (List Pm.Cut)} (h : LRd K p H v rs) : Dp K H v (lRdsD rs) := by
  obtain ⟨a, ys, rfl, _, ea, hl⟩ := h.ex
  refine .lst (SqL.of ea) ?_
  have : rs.map lRnd = (lRds rs).map PyData.list := by unfold lRds; rw [List.map_map]; rfl
  rw [this]
  exact hl.dp
/-- rounds[k % len(rounds)] -/
theorem rnd_ix {H : Hp} {a : Addr} {xs : List V} {rs : List (List Pm.Cut)} (ha : DpAll K H xs (rs.map lRnd)) (l1 : 1 ≤ rs.length) (k : Nat) : ∃ x, atI xs ((k : Int) % ((xs.length : Nat) : Int)) = some x ∧ Dp K H x (lRnd (Pm.rnd rs k)) := by
  have hlen : xs.length = rs.length := by rw [ha.len, List.length_map]
  obtain ⟨x, hx, hdx⟩ := ha.got (i := k % rs.length) (by rw [List.getElem?_map, Pm.rnd_get l1 k]; rfl)
  refine ⟨x, ?_, hdx⟩
  rw [hlen, ← Int.natCast_emod]
  exact atI_nat hx
theorem two_cases {i : Nat} (h : i < 2) : i = 0 ∨ i = 1 := by omega
abbrev nmv (rs : List (List Pm.Cut)) (ns : List Nat) (ax k : Nat) : Nat := Pm.nm rs ax (fun k => ns.getD k 0) k
/-! counts -/
end
end T
set_option Elab.async false
set_option maxRecDepth 100000
set_option maxHeartbeats 4000000
namespace T
open PySem L2 Mv
section
variable {P : Program} {w : World} {K : PySem.W.Frag} {mg : Str → Option Value} {base : Heap} {C AX : Addr}
theorem NmOk.snoc {rs : List (List Pm.Cut)} {ns : List Nat} {g : Nat} (h : NmOk rs ns) (hg : g < Pm.S rs ns.length) : NmOk rs (ns ++ [g]) := fun k hk => by
  rw [List.length_append, List.length_singleton] at hk
  rcases Nat.lt_or_ge k ns.length with z | z
  · rw [List.getD_eq_getElem?_getD, List.getElem?_append_left z, ← List.getD_eq_getElem?_getD]
    exact h k z
  · have : k = ns.length := by omega
    subst this
    rw [List.getD_eq_getElem?_getD, List.getElem?_append_right (Nat.le_refl _)]
    simpa using hg
theorem vNm_snoc (ns : List Nat) (g : Nat) : vNm ns ++ [.int g] = vNm (ns ++ [g]) := by simp [vNm]
theorem two_size {r : List Pm.Cut} (h : Pm.RndOk r) : 2 ≤ Pm.size r := by
  obtain ⟨l1, _, hc, _⟩ := h
  cases r with
  | nil => simp at l1
  | cons c r =>
    have h1 := (hc c (List.mem_cons_self ..)).2.1
    have h2 := Pm.size_pos (r := r) fun x hx => hc x (List.mem_cons_of_mem _ hx)
    obtain ⟨ca, cp⟩ := c
    simp only [Pm.size]
    calc 2 ≤ cp := h1
      _ ≤ cp * Pm.size r := Nat.le_mul_of_pos_right _ h2
def sp_glyphs (K : PySem.W.Frag) : Sp := fun vs H Q _ => ∃ (p : Addr) (v : V) (rs : List (List Pm.Cut)) (m : Nat), vs = [.ref p, v, .int m] ∧ Pot H p ∧ LRd K p H v rs ∧ m ≤ 1000 ∧
  ∀ (t : V) (ns : List Nat) (H' : Hp), ns.length = m → NmOk rs ns → Dp K H' t (dNm ns) → Pot H' p → Bu p H H' → Q t H'
theorem c_glyphs {K : PySem.W.Frag} {p : Addr} {v : V} {rs : List (List Pm.Cut)} {m : Nat} {H : Hp} {Q : VK} {E : XK} (h0 : Pot H p) (h1 : LRd K p H v rs) (h2 : m ≤ 1000) (q : ∀ (t : V) (ns : List Nat) (H' : Hp), ns.length = m → NmOk rs ns → Dp K H' t (dNm ns) → Pot H' p → Bu p H H' → Q t H') : sp_glyphs K [.ref p, v, .int m] H Q E := ⟨_, _, _, _, rfl, h0, h1, h2, q⟩
theorem ok_glyphs {f : Addr} {fd : FuncData} (F : Df K "_law_glyphs" "_law_glyphs" s_glyphs [] f fd) (B : Blt mg) (cDr : Ca P w K mg base 1 "_law_draw" sp_draw []) (cSz : Ca P w K mg base 1 "_law_size" (sp_size K) []) : FnOk P w K mg base CX0 2 f fd ["_law_pot_here", "_law_rounds_here", "_law_many"] (sp_glyphs K) := by
  refine dfOk F sc_glyphs (fun vs H Q E h => ?_) (fun cdv A outer s H vs Q E hr h => ?_)
  · obtain ⟨p, v, rs, m, rfl, _⟩ := h
    rfl
  · obtain ⟨p, v, rs, m, rfl, hp, hl, hm, q⟩ := h
    have hok := hl.ok
    have l1 := hok.1
    refine ⟨_, (pss_cons (ps_par (i := 3) (j := 4) (by rfl) sc_glyphs.nd rfl rfl (by decide) rfl rfl (pa_cons (pe_ca cDr hr (by decide) (by rfl) (pa_cons (pv 0) (pa_cons pe_int pa_nil))) (pa_cons (pe_lst pa_nil) pa_nil)) (by rfl))
  (pss_cons (ps_for PassesOwn.never rfl (pi_range1 (by rfl) B.range (pa_cons (pv 2) pa_nil)) (pg_name (i := 5) sc_glyphs.nd rfl (Or.inl rfl))
  (pss_cons (ps_set (i := 6) sc_glyphs.nd rfl (Or.inl rfl) (pe_ca cSz hr (by decide) (by rfl) (pa_cons (pe_ix ix_list' (pv 1) (pe_op op_mod (pv 5) (pe_callB call_len_seq' (by rfl) B.len bt_len (pa_cons (pv 1) pa_nil))) (fun _ _ => rfl)) pa_nil)))
  (pss_one (ps_expr (pe_bm PySem.F.plainAttrs_list PySem.F.slot_list_append PySem.F.type_list_append mt_append (pv 4) (pa_cons (pe_ifExp (pt_cmpR op_lt (pv 3) pe_int (nomark _)) (pe_ix ix_list' (pe_lst (pa_cons pe_int (pa_cons (pe_op op_sub (pv 6) pe_int) pa_nil))) (pv 3) (fun _ _ => rfl)) (pe_ca cDr hr (by decide) (by rfl) (pa_cons (pv 0) (pa_cons (pv 6) pa_nil)))) pa_nil))))))
  (pss_one (ps_ret (pe_callTy call_tuple_of' (by rfl) B.tuple bt_tuple (pa_cons (pv 4) pa_nil)))))), ?_⟩
    refine ⟨_, rfl, p, 8, rfl, hp, by decide, by decide, fun deal H1 hdeal hp1 b1 => ?_⟩
    refine ⟨by show 0 ≤ sizeLine; decide, fun fo_ hfo => ?_⟩
    have hfo0 : H fo_ = none := b1.free (hp1.ne hfo) hfo
    have hpf := hp1.ne hfo
    refine ⟨_, _, rfl, ?_⟩
    refine ⟨_, rfl, m, rfl, by omega, by omega, for_range (lo := 0) (n := m) (fun i σ H' => ∃ (ns : List Nat) (v5 v6 : Option V), σ = [some (.ref p), some v, some (.int m), some (.int deal), some (.ref fo_), v5, v6] ∧ Pot H' p ∧ Bu p H H' ∧ H' fo_ = some (.lst (vNm ns)) ∧ ns.length = i ∧ NmOk rs ns) ⟨[], _, _, rfl, hp1.new hfo, b1.trans (Bu.new hfo), upd_same, rfl, NmOk.nil rs⟩ ?_ ?_⟩
    · rintro i σ H2 hi ⟨ns, v5, v6, rfl, hp2, b2, ef, hni, hnok⟩
      rw [show (0 : Int) + (i : Int) = (i : Int) by omega]
      have hl2 := hl.bu b2 hp
      obtain ⟨a, xs, rfl, hs, ha⟩ := hl2.dp.lstE
      obtain ⟨cu, hcu, hdcu⟩ := rnd_ix (a := a) ha l1 i
      have hS2 := two_size (hok.rnd i)
      have hS32 := hok.S32 i
      have eS : Pm.size (Pm.rnd rs i) = Pm.S rs i := rfl
      have app : ∀ (g : Nat) (H3 : Hp), g < Pm.S rs i → Pot H3 p → Bu p H H3 → Pot (upd H3 fo_ (.lst (vNm ns ++ [.int g]))) p ∧ Bu p H (upd H3 fo_ (.lst (vNm ns ++ [.int g]))) ∧ upd H3 fo_ (.lst (vNm ns ++ [.int g])) fo_ = some (.lst (vNm (ns ++ [g]))) ∧ (ns ++ [g]).length = i + 1 ∧ NmOk rs (ns ++ [g]) := by
        intro g H3 hg hp3 b3
        obtain ⟨x, y, e, r⟩ := hp3.ex
        exact ⟨⟨x, y, by rw [upd_ne (Ne.symm hpf)]; exact e, r⟩, Bu.over b3 hfo0, by rw [upd_same, vNm_snoc], by simp [hni], hnok.snoc (hni ▸ hg)⟩
      have hz : (vNm ns).length < sizeLine := by rw [vNm_len, hni]; unfold sizeLine; omega
      refine ⟨_, rfl, _, rfl, _, rfl, a, _, rfl, .inl hs, _, _, rfl, rfl, by show (0 : Int) < (xs.length : Nat); rw [ha.len, List.length_map]; omega, a, xs, _, cu, rfl, rfl, hs, hcu, cu, _, rfl, hdcu, hok.rnd i, ?_⟩
      rw [eS]
      refine ⟨_, rfl, .inl ⟨rfl, _, SqL.of ef⟩, _, rfl, _, _, rfl, rfl, _, rfl, ite2 (fun hd => ?_) (fun hd => ?_)⟩
      · have hd' : deal < 2 := by have := of_decide_eq_true hd; omega
        refine ⟨_, rfl, _, _, rfl, rfl, by show 2 ≤ sizeLine; decide, fun l2 hl2' => ?_⟩
        have s3 := fun o => same_new (o := o) hl2'
        rcases two_cases hd' with rfl | rfl
        · obtain ⟨h1, h2, h3, h4, h5⟩ := app 0 (upd H2 l2 (.lst [.int 0, .int ((Pm.S rs i : Nat) - 1)])) (by omega) (hp2.same (s3 _)) (b2.trans (Bu.of (s3 _) p))
          exact ⟨_, rfl, l2, _, _, .int 0, rfl, rfl, SqL.of upd_same, rfl, fo_, _, _, rfl, rfl, s3 _ _ _ ef, hz, ns ++ [0], _, _, rfl, h1, h2, h3, h4, h5⟩
        · obtain ⟨h1, h2, h3, h4, h5⟩ := app (Pm.S rs i - 1) (upd H2 l2 (.lst [.int 0, .int ((Pm.S rs i : Nat) - 1)])) (by omega) (hp2.same (s3 _)) (b2.trans (Bu.of (s3 _) p))
          refine ⟨_, rfl, l2, _, _, .int ((Pm.S rs i - 1 : Nat) : Int), rfl, rfl, SqL.of upd_same, ?_, fo_, _, _, rfl, rfl, s3 _ _ _ ef, hz, ns ++ [Pm.S rs i - 1], _, _, rfl, h1, h2, h3, h4, h5⟩
          rw [Int.natCast_sub (by omega)]
          rfl
      · refine ⟨_, rfl, _, rfl, p, _, rfl, hp2, by omega, by omega, fun g H3 hg hp3 b3 => ?_⟩
        obtain ⟨h1, h2, h3, h4, h5⟩ := app g H3 (by omega) hp3 (b2.trans b3)
        exact ⟨fo_, _, _, rfl, rfl, b3 _ _ hpf ef, hz, ns ++ [g], _, _, rfl, h1, h2, h3, h4, h5⟩
    · rintro σ H2 ⟨ns, v5, v6, rfl, hp2, b2, ef, hni, hnok⟩
      refine ⟨_, rfl, fo_, _, rfl, .inl ⟨SqL.of ef, fun t ht => ?_⟩⟩
      exact q (.ref t) ns _ hni hnok (nmI (SqT.of upd_same)) (hp2.new ht) (b2.trans (Bu.new ht))
end
end T
set_option Elab.async false
set_option maxRecDepth 100000
set_option maxHeartbeats 4000000
/-! sorted of lists of tuples of ints of one length, however many. -/
namespace SrtO
open PySem PySem.Spec PyProof.Rows
section
variable {prog : Program} {w : World} {A : Around} {E : Value → Shared → Prop} {s : Shared}
theorem mv_swo (r : Value → Int) : Swo fun v u => decide (r v < r u) := by
  refine ⟨fun x y h => ?_, fun x y z h1 h2 => ?_⟩
  · have := of_decide_eq_true h
    exact decide_eq_false (by omega)
  · have a := of_decide_eq_false h1
    have b := of_decide_eq_false h2
    exact decide_eq_false (by omega)
theorem mv_cmp {vs : List Value} {d : Nat} {B : Int} {r : Value → Int} (x : TS.TupsOk s.heap d B vs) (hr : ∀ v, v ∈ vs → ∀ ns, TS.TupInts s.heap v ns → r v = TS.code B ns) : Cmp prog w A s (tuples' true) (fun p => p.1 ∈ vs) (lt2 fun v u => decide (r v < r u)) := by
  intro p q hm hm'
  obtain ⟨ns, t1, l1, b1⟩ := x _ hm
  obtain ⟨ms, t2, l2, b2⟩ := x _ hm'
  show wpAny (model prog w) A (keyLt' (tuples' true) p.1 q.1) (fun c s' => s' = s ∧ c = decide (r p.1 < r q.1)) (fun _ _ => False) s
  rw [hr _ hm ns t1, hr _ hm' ms t2]
  obtain ⟨a, xs, e, ⟨o, ho, hc, n, hd⟩, i1⟩ := t1
  obtain ⟨a', ys, e', ⟨o', ho', hc', n', hd'⟩, i2⟩ := t2
  rw [e, e']
  refine PySem.W.kat_lt ho hd ho' hd' ?_
  have z1 := i1.length
  have z2 := i2.length
  rw [show decide (xs.size < ys.size) = false from decide_eq_false (by simp at z1 z2; omega)]
  exact TS.lex_ints 0 i1 i2 (by omega) b1 b2 ⟨rfl, rfl⟩
theorem mv_sortable {a : Addr} {vs : List Value} {d : Nat} {B : Int} {r : Value → Int} (h0 : 0 < vs.length) (hd : 1 ≤ d) (x : TS.TupsOk s.heap d B vs) (hr : ∀ v, v ∈ vs → ∀ ns, TS.TupInts s.heap v ns → r v = TS.code B ns) (ha : ∀ o, s.heap.get? a = some o → o.cls ≠ .type "tuple") :
    SortableO prog w A s a vs fun v u => decide (r v < r u) := by
  intro h' keep
  have kp : ∀ b o, s.heap.get? b = some o → o.cls = .type "tuple" → h'.get? b = some o := fun b o e c => keep b o (fun z => by subst z; exact ha o e c) e
  have x' := x.keeps kp
  obtain ⟨fs, h1, h2, h3⟩ := TS.firsts_of hd vs x'
  refine ⟨tuples' true, fun Q E hq => ?_, mv_cmp (s := { s with heap := h' }) x' fun v hv ns t => ?_⟩
  · refine PySem.W.kat_kind (T := .type "int") h1 (by omega) (fun f hm => ?_) (by rfl) ?_
    · obtain ⟨m, t, rfl⟩ := h3 f hm
      exact PySem.W.Looks.now
    · have e : (Value.type "int" != Value.type "tuple") = true := by first | decide +kernel | rfl | decide
      rw [e]
      exact hq
  · obtain ⟨ns0, t0, _⟩ := x v hv
    have e : ns = ns0 := t.ints.symm.trans (t0.keeps kp).ints
    rw [e]
    exact hr v hv ns0 t0
theorem mv_sorted {l : Addr} {vs : List Value} {d : Nat} {B : Int} {r : Value → Int} {Q : Value → Shared → Prop} (hl : s.heap.IsList l vs.toArray) (hz : vs.length ≤ sizeLine) (hd : 1 ≤ d) (x : TS.TupsOk s.heap d B vs) (hr : ∀ v, v ∈ vs → ∀ ns, TS.TupInts s.heap v ns → r v = TS.code B ns)
    (h : ∀ (h' : Heap) (d : Addr) (out : List Value), Srtd (fun v u => decide (r v < r u)) out → Stb (fun v u => decide (r v < r u)) out vs → (∀ b o, s.heap.get? b = some o → h'.get? b = some o) → s.heap.objs.size ≤ d → (∃ n, h'.get? d = some (seqObj "list" out.toArray n)) → Q (.ref d) { s with heap := h' }) :
    wpAny (model prog w) A (call (.builtin "sorted") [.ref l]) Q E s := by
  refine sorted_ord (mv_swo r) hl hz (fun h2 h₁ a ha kk => ?_) fun out hs hb => ?_
  · have kp : ∀ b o, s.heap.get? b = some o → o.cls = .type "tuple" → h₁.get? b = some o := fun b o e _ => (kk b o e).2
    refine mv_sortable (s := { s with heap := h₁ }) (by omega) hd (x.keeps kp) (fun v hv ns t => ?_) fun o e => ?_
    · obtain ⟨ns0, t0, _⟩ := x v hv
      have e : ns = ns0 := t.ints.symm.trans (t0.keeps kp).ints
      rw [e]
      exact hr v hv ns0 t0
    · have e' : some o = some (seqObj "list" vs.toArray 0) := e.symm.trans ha
      cases e'
      intro c
      exact absurd (Value.type.inj c) (by decide)
  · exact h _ _ out hs hb (fun b o e => sortedAll_old e) (Nat.le_succ _) (sortedAll_at s.heap vs out.toArray)
end
end SrtO
namespace Mv
open PySem PySem.Spec PyProof.Rows L2
/-- a tuple of ints as data -/
def tI (k : List Int) : PyData := .tuple (k.map PyData.int)
/-- sorted(xs), xs a list of tuples of d ints each in [0, B) -/
def rSortT (K : PySem.W.Frag) : List V → Hp → VK → Prop := fun vs H Q => ∃ (a : Addr) (xs : List V) (ks : List (List Int)) (d : Nat) (B : Int), vs = [V.ref a] ∧ SqL K H a xs ∧ DpAll K H xs (ks.map tI) ∧ 1 ≤ d ∧ (∀ k ∈ ks, k.length = d ∧ TS.Bd B k) ∧
  ∀ (ys : List V) (js : List (List Int)) (p : Addr) (H' : Hp), js.Perm ks → js.Pairwise (fun x y => TS.code B x ≤ TS.code B y) → H p = none → Same H H' → H' p = some (.lst ys) → DpAll K H' ys (js.map tI) → Q (.ref p) H'
section
variable {K : PySem.W.Frag}
theorem tups_raw {X : Cx} {pins : List (Addr × Obj)} {σ : L2.St} {H : Hp} {s : Shared} (I : Inv X pins σ H s) : ∀ {xs : List V} {ks : List (List Int)} {its : List Value}, DpAll X.K H xs (ks.map tI) → Vals xs its →
    its.map (TS.intsOf s.heap) = ks ∧ ∀ u ∈ its, ∃ t ns, u = Value.ref t ∧ ns ∈ ks ∧ SqT X.K H t (ns.map V.int) ∧ TS.TupInts s.heap u ns
  | _, [], _, .nil, .nil => ⟨rfl, fun u hu => by simp at hu⟩
  | _, k :: ks, _, .cons a h, .cons (b := u) r rs => by
    obtain ⟨e, h2⟩ := tups_raw I h rs
    obtain ⟨t, rfl, ht⟩ := Dp.tupIE a
    obtain rfl : u = Value.ref t := r
    have raw := tupI_raw I ht
    refine ⟨by rw [List.map_cons, raw.ints, e], fun v hv => ?_⟩
    rcases List.mem_cons.mp hv with rfl | hv
    · exact ⟨t, k, rfl, List.mem_cons_self .., ht, raw⟩
    · obtain ⟨t', ns, e1, e2, e3, e4⟩ := h2 v hv
      exact ⟨t', ns, e1, List.mem_cons_of_mem _ e2, e3, e4⟩
theorem tups_back {H : Hp} {h : Heap} : ∀ {out : List Value}, (∀ u ∈ out, ∃ t ns, u = Value.ref t ∧ SqT K H t (ns.map V.int) ∧ TS.TupInts h u ns) → DpAll K H (out.map backV) ((out.map (TS.intsOf h)).map tI)
  | [], _ => .nil
  | u :: out, hu => by
    obtain ⟨t, ns, rfl, ht, raw⟩ := hu u (List.mem_cons_self ..)
    refine .cons ?_ (tups_back fun v hv => hu v (List.mem_cons_of_mem _ hv))
    rw [raw.ints]
    exact Dp.tupI ht
theorem cr_sortT' {X : Cx} (e : X.K = K := by (conv => lhs; whnf)) : CallR X (.builtin "sorted") (rSortT K) := by
  subst e
  intro pins s σ H vs us Q I r h
  obtain ⟨a, xs, ks, d, B, rfl, hs, hx, hd, hk, q⟩ := h
  obtain ⟨its, rv, hl, hz⟩ := I.list hs
  obtain ⟨u, rfl, ru⟩ := vals1 r
  obtain rfl : u = Value.ref a := ru
  obtain ⟨ek, hraw⟩ := tups_raw I hx rv
  refine SrtO.mv_sorted (r := fun v => TS.code B (TS.intsOf s.heap v)) hl.isList (by rw [← rv.length]; exact hz) hd (fun v hv => ?_) (fun v hv ns t => by rw [t.ints]) fun h' p out h1 h2 kp hp hn => ?_
  · obtain ⟨t, ns, rfl, hm, _, raw⟩ := hraw v hv
    exact ⟨ns, raw, hk ns hm⟩
  · have h3 : ∀ u ∈ out, ∃ t ns, u = Value.ref t ∧ SqT X.K H t (ns.map V.int) ∧ TS.TupInts s.heap u ns := fun u hu => by
      obtain ⟨t, ns, e1, _, e3, e4⟩ := hraw u (h2.perm.mem_iff.mp hu)
      exact ⟨t, ns, e1, e3, e4⟩
    obtain ⟨n, hn⟩ := hn
    have hfr : H p = none := I.hok.fresh hp
    have hvb : Vals (out.map backV) out := vals_back fun u hu => by
      obtain ⟨t, _, e1, _⟩ := h3 u hu
      exact ⟨t, e1⟩
    refine ⟨.ref p, upd H p (.lst (out.map backV)), I.laid (t' := s.toks) kp hp ⟨?_, out, n, hvb, hn⟩, rfl, ?_⟩
    · rw [List.length_map, h2.len, ← rv.length]; exact hz
    · refine q (out.map backV) (out.map (TS.intsOf s.heap)) p _ (by rw [← ek]; exact h2.perm.map _) ?_ hfr (same_new hfr) upd_same ((tups_back h3).up (same_new hfr))
      rw [List.pairwise_map]
      exact h1.imp fun {x y} z => by
        have := of_decide_eq_false z
        omega
end
end Mv
set_option Elab.async false
set_option maxRecDepth 100000
set_option maxHeartbeats 4000000
/-! Methods of lists, three names at once, // of great numbers: for the steps. -/
namespace Mv
open PySem PySem.Spec PyProof.Rows L2
def BmR (K : PySem.W.Frag) (T : String) (r : V → List V → Hp → VK → Prop) (t : TA) (σ : L2.St) (Q : VK) : VK := fun x H1 => tyV K T x H1 ∧ t σ H1 fun xs H2 => r x xs H2 Q
def Par3 (i j l : Nat) (n : L2.St → Hp → Prop) (σ : L2.St) : List V → Hp → Prop := fun vs H1 => ∃ v w u, vs = [v, w, u] ∧ n (((σ.set i (some v)).set j (some w)).set l (some u)) H1
section
variable {K : PySem.W.Frag} {σ σ' : L2.St} {H H' : Hp} {Q : VK} {n b c : L2.St → Hp → Prop} {rt : VK} {v w u y : V} {xs zs : List V} {t : TA} {to : TE} {a a' : Addr} {r : V → List V → Hp → VK → Prop}
theorem pe_bm' {X : Cx} {T : String} {name : Str} {id : String} {o e : Expr} {es : List Expr} {apos cpos : Pos} (pa : PlainAttrs T) (slot : Slot T name id) (hty : typeOf (.builtin id) = pure (.type "method_descriptor")) (hm : MtR X id r) (ho : PE X o to) (ha : PA X (e :: es) t) (eK : X.K = K := by (conv => lhs; whnf)) (hbase : attributeBase o name X.env (eval o X.env) = eval o X.env := by rfl)
    (hfew : ((backTo cpos (starEach (e :: es) X.env)).all (fun x => !x.1) && (backToKw cpos (keywordEach [] X.env)).all (fun x => x.1.isSome) && decide ((e :: es).length + ([] : List Keyword).length + (if ([] : List Keyword).isEmpty then 0 else 1) < 30)) = true := by rfl) (hline : (apos.endLine == cpos.line) = true := by rfl)
    (hs : starEach (e :: es) X.env = (false, eval e X.env) :: starEach es X.env := by rfl) (hplain : (backTo cpos (starEach es X.env)).any (·.1) = false := by rfl) : PE X (.Call (.Attribute o name apos) (e :: es) [] cpos) (tBM K T r to t) := by
  subst eK
  exact pe_bm pa slot hty hm ho ha hbase hfew hline hs hplain
theorem go_bm (q : to σ H (BmR K "list" r t σ Q)) : tBM K "list" r to t σ H Q := q
theorem go_bmL (h : H a = some (.lst xs)) (q : t σ H fun vs H2 => r (.ref a) vs H2 Q) : BmR K "list" r t σ Q (.ref a) H := ⟨.inl ⟨rfl, _, SqL.of h⟩, q⟩
theorem go_ext (h1 : H a = some (.lst xs)) (h2 : H a' = some (.lst zs)) (hz : xs.length + zs.length ≤ sizeLine) (q : Q .non (upd H a (.lst (xs ++ zs)))) : rExtend (.ref a) [.ref a'] H Q := ⟨a, a', xs, zs, rfl, rfl, h1, h2, hz, q⟩
theorem go_app (h1 : H a = some (.lst xs)) (hz : xs.length < sizeLine) (q : Q .non (upd H a (.lst (xs ++ [y])))) : rAppend (.ref a) [y] H Q := ⟨a, xs, y, rfl, rfl, h1, hz, q⟩
theorem go_par3 {i j l : Nat} (q : t σ H (Par3 i j l n σ)) : tPar3 i j l t ⟨n, rt, b, c⟩ σ H := q
theorem go_par3k {i j l : Nat} (e : ((σ.set i (some v)).set j (some w)).set l (some u) = σ') (q : n σ' H) : Par3 i j l n σ [v, w, u] H := by subst e; exact ⟨v, w, u, rfl, q⟩
theorem go_fdX {m' n' : Nat} (h : n' ≠ 0 ∧ n'.log2 < 9000) (q : Q (.int ((m' / n' : Nat) : Int)) H) : rI CDivX (fun i j => .int (i.fdiv j)) (.int (m' : Int)) (.int (n' : Int)) H Q :=
  ⟨_, _, rfl, rfl, ⟨by omega, by rw [Int.natAbs_natCast]; exact h.2⟩, by
    show Q (.int ((m' : Int).fdiv (n' : Int))) H
    rw [Int.fdiv_eq_ediv_of_nonneg _ (by omega)]
    exact q⟩
/-- sorted -/
theorem go_sort {ks : List (List Int)} (d : Nat) (B : Int) (h1 : SqL K H a xs) (h2 : DpAll K H xs (ks.map tI)) (hd : 1 ≤ d) (hk : ∀ k ∈ ks, k.length = d ∧ TS.Bd B k)
    (q : ∀ (ys : List V) (js : List (List Int)) (p : Addr) (H' : Hp), js.Perm ks → js.Pairwise (fun x y => TS.code B x ≤ TS.code B y) → H p = none → Same H H' → H' p = some (.lst ys) → DpAll K H' ys (js.map tI) → Q (.ref p) H') : rSortT K [.ref a] H Q := ⟨a, xs, ks, d, B, rfl, h1, h2, hd, hk, q⟩
end
end Mv
set_option Elab.async false
set_option maxRecDepth 100000
namespace Mv
open PySem PySem.Spec PyProof.Rows L2
/-- C(e, .., k = v, ..): n values by place, the keywords ks -/
structure MaN (P : Program) (w : World) (K : PySem.W.Frag) (mg : Str → Option Value) (base : Heap) (k : Nat) (x : Str) (C : Addr) (sp : Sp) (n : Nat) (ks : List Str) (gV : List V → List V → List V) : Prop where
  ex : ∃ (f : Addr) (fd : FuncData) (ps : List Str) (g : List Value → List Value → List Value), Mk K C f ∧ FnOk P w K mg base CX0 k f fd ps sp ∧ mg x = some (.ref C) ∧ KBn K fd ps (n + 1) ks g gV
section
variable {X : Cx} {k j n : Nat} {C : Addr} {ks : List Str} {sp : Sp} {x : Str} {p pos : Pos} {e : Expr} {es : List Expr} {kws : List Keyword} {t tk : TA} {gV : List V → List V → List V}
theorem pe_man (c : MaN X.prog X.w X.K X.mg X.base k x C sp n ks gV) (hr : Room j X.A) (hk : k + 1 ≤ j) (hg : Gl X x) (ha : PA X (e :: es) t) (hkw : PK X kws tk)
    (hall : (backToKw pos (keywordEach kws X.env)).all (·.1.isSome) = true := by rfl) (hks : (backToKw pos (keywordEach kws X.env)).filterMap (·.1) = ks := by rfl)
    (hdb : (x == ("__debug__" : Str)) = false := by decide) (he : starEach (e :: es) X.env = (false, eval e X.env) :: starEach es X.env := by rfl)
    (hpl : ((backTo pos (starEach (e :: es) X.env)).any (·.1) || (backToKw pos (keywordEach kws X.env)).any (·.1.isNone)) = false := by rfl) :
    PE X (.Call (.Name x p) (e :: es) kws pos) (tMakeK C n ks.length sp gV E0 t tk) := by
  obtain ⟨f, fd, ps, g, M, F, hm, b⟩ := c.ex
  exact pe_makeK M F (hr.mono hk) hg hm b pass0 ha hkw hall hks hdb he hpl
end
section
variable {σ : L2.St} {H : Hp} {Q : VK} {t tk : TA} {C : Addr} {sp : Sp} {n m : Nat} {E : XK} {gV : List V → List V → List V}
/-- behind the keywords of a making -/
def MakK (C : Addr) (n m : Nat) (sp : Sp) (gV : List V → List V → List V) (E : XK) (Q : VK) (vs zs : List V) (H2 : Hp) : Prop := vs.length = n ∧ zs.length = m ∧ ∀ x dx, H2 x = none → H2 dx = none → dx ≠ x →
  sp (gV (.ref x :: vs) zs) (upd (upd H2 dx (.own x)) x (.ins C dx [])) (fun v H3 => v = .non ∧ Q (.ref x) H3) E
def MakA (C : Addr) (n m : Nat) (sp : Sp) (gV : List V → List V → List V) (E : XK) (Q : VK) (tk : TA) (σ : L2.St) (vs : List V) (H1 : Hp) : Prop := tk σ H1 fun zs H2 => MakK C n m sp gV E Q vs zs H2
theorem go_makeK (q : t σ H fun vs H1 => MakA C n m sp gV E Q tk σ vs H1) : tMakeK C n m sp gV E t tk σ H Q := q
theorem go_makA {vs : List V} (q : tk σ H fun zs H2 => MakK C n m sp gV E Q vs zs H2) : MakA C n m sp gV E Q tk σ vs H := q
theorem op_in_seq' {X : Cx} {K : PySem.W.Frag} (e : X.K = K := by (conv => lhs; whnf)) : OpR X (compareOp .In) (rIn K false) := by
  subst e
  exact op_in_seq
theorem op_notIn_seq' {X : Cx} {K : PySem.W.Frag} (e : X.K = K := by (conv => lhs; whnf)) : OpR X (compareOp .NotIn) (rIn K true) := by
  subst e
  exact op_notIn_seq
theorem DpAll.strsE {K : PySem.W.Frag} {H : Hp} : ∀ {xs : List V} {ss : List Str}, DpAll K H xs (ss.map PyData.str) → xs = ss.map V.str
  | _, [], .nil => rfl
  | _, i :: is, .cons a h => by rw [a.strE, DpAll.strsE h]; rfl
theorem in_strs (s : Str) (ss : List Str) : inV (.str s) (ss.map V.str) = decide (s ∈ ss) := by
  induction ss with
  | nil => rfl
  | cons a l ih =>
    show (eqV (.str a) (.str s) || inV (.str s) (l.map V.str)) = _
    rw [ih]
    show ((a == s) || _) = _
    by_cases h : a = s
    · subst h
      simp
    · have : (a == s) = false := by simpa using h
      rw [this]
      simp [Ne.symm h]
theorem flat_strs (ss : List Str) : (ss.map V.str).all flatV = true := by
  rw [List.all_eq_true]
  intro x hx
  obtain ⟨y, _, rfl⟩ := List.mem_map.mp hx
  rfl
/-- in, not in, of a list or tuple of texts -/
theorem go_inSL {K : PySem.W.Frag} {v : V} {s : Str} {ss : List Str} {neg : Bool} (h : Dp K H v (.list (ss.map .str))) (q : Q (.bl (if neg then !decide (s ∈ ss) else decide (s ∈ ss))) H) : rIn K neg (.str s) v H Q := by
  obtain ⟨a, xs, rfl, hs, ha⟩ := h.lstE
  obtain rfl := DpAll.strsE ha
  exact ⟨a, _, rfl, .inl hs, rfl, flat_strs ss, by rw [in_strs]; exact q⟩
theorem go_inSK {K : PySem.W.Frag} {b : Bool} {v : V} {s : Str} {ss : List Str} {neg : Bool} (h : Dp K H v (dSeq b (ss.map .str))) (q : Q (.bl (if neg then !decide (s ∈ ss) else decide (s ∈ ss))) H) : rIn K neg (.str s) v H Q := by
  cases b
  · obtain ⟨a, xs, rfl, hs, ha⟩ := Dp.tupE (show Dp K H v (.tuple _) from h)
    obtain rfl := DpAll.strsE ha
    exact ⟨a, _, rfl, .inr hs, rfl, flat_strs ss, by rw [in_strs]; exact q⟩
  · exact go_inSL h q
/-- the keywords behind the values by place -/
def gApp {α : Type} (us ws : List α) : List α := us ++ ws
theorem gApp_rel {vs zs : List V} {us ws : List Value} (r1 : Vals vs us) (r2 : Vals zs ws) : Vals (gApp vs zs) (gApp us ws) := r1.append r2
end
section
variable {K : PySem.W.Frag} {σ : L2.St} {H : Hp} {Q : VK} {vs : List Nat} {xs ys : List V} {te : TE} {g : TG} {a : Addr}
theorem pi_enumA' {X : Cx} {e : Expr} {ta : TA} {p pos tpos : Pos} {elts : List Expr} {kk : Nat} (hg : Gl X "enumerate") (hm : X.mg "enumerate" = none) (ha : PA X [e] ta) (eK : X.K = K := by (conv => lhs; whnf)) (hs : starEach [e] X.env = [(false, eval e X.env)] := by rfl) :
    PI X (.Tuple elts kk tpos) (.Call (.Name "enumerate" p) [e] [] pos) (iEnumA K ta) := by
  subst eK
  exact pi_enumA hg hm ha hs
/-- a comprehension over enumerate, of data without lists -/
theorem lcEnum {b : Bool} {i1 i2 : Nat} (f : Nat → PyData) (ha : SqK b K H a xs) (hk : ∀ H', Same H H' → SqK b K H' a xs) (hz : xs.length ≤ 100000) (hl : ∀ i, i < xs.length → NL (f i) = true) (hw : ∀ x y, wipe (((wipe σ vs).set i1 (some x)).set i2 (some y)) vs = wipe σ vs)
    (hs : ∀ (i : Nat) (x : V) (H1 : Hp) (Q' : VK), i < xs.length → xs[i]? = some x → Same H H1 → (∀ y H4, Same H1 H4 → Dp K H4 y (f i) → Q' y H4) → te (((wipe σ vs).set i1 (some (.int (i : Int)))).set i2 (some x)) H1 Q')
    (hd : ∀ D H' ys, H D = none → Same H H' → H' D = some (.lst ys) → DpAll K H' ys ((List.range xs.length).map f) → Q (.ref D) H') : LcR (gTup K 2 (gCons (gName i1) (gCons (gName i2) gNil))) tYes te vs σ Q (IteK b K a) H :=
  lcGen walk_enumK f hz hl (fun H' s => hk H' s) (fun i x H1 H2 Q' hi s1 hy hq => by
    obtain ⟨T, x', y', rfl, hT, rfl, e1, e2⟩ := hy
    obtain rfl := Option.some.inj e1
    have sT : Same H1 (upd H1 T (.tup [.int (i : Nat), y'])) := same_new hT
    refine ⟨T, _, rfl, .inl (.inl upd_same), rfl, _, _, rfl, _, _, rfl, rfl, hw _ _, hs i y' _ Q' hi e2 (s1.trans sT) fun y H4 s4 dy => hq y H4 (sT.trans s4) dy⟩) hd gTup2_mono
/-- a comprehension of objects: what holds of each stays when the heap grows, and when the list in making changes -/
theorem lcObj {J : It} {k : Nat} {G : Hp → Prop} {Y : Nat → Hp → V → Hp → Prop} (w : Walk J k G Y) (Rp : Nat → V → Hp → Prop) (hz : k ≤ 100000) (hm : ∀ i y H1 H2, Same H1 H2 → Rp i y H1 → Rp i y H2) (hu : ∀ i y H1 D zs o, H1 D = some (.lst zs) → Rp i y H1 → Rp i y (upd H1 D o)) (hG : ∀ H', Same H H' → G H')
    (hs : ∀ (i : Nat) (x : V) (H1 H2 : Hp) (Q' : VK), i < k → Same H H1 → Y i H1 x H2 → (∀ y H4, Same H1 H4 → Rp i y H4 → Q' y H4) → g x (wipe σ vs) H2 fun σ2 H3 => wipe σ2 vs = wipe σ vs ∧ te σ2 H3 Q')
    (hd : ∀ D H' ys, H D = none → Same H H' → H' D = some (.lst ys) → ys.length = k → (∀ (i : Nat) y, ys[i]? = some y → Rp i y H') → Q (.ref D) H') (hg : ∀ x σ' H' (P Q : L2.St → Hp → Prop), (∀ σ2 H2, P σ2 H2 → Q σ2 H2) → g x σ' H' P → g x σ' H' Q) : LcR g tYes te vs σ Q J H := by
  intro D hD
  refine lc_it w (fun i H' => Same H H' ∧ ∃ ys, H' D = some (.lst ys) ∧ ys.length = i ∧ ∀ (i : Nat) y, ys[i]? = some y → Rp i y H') ⟨same_new hD, [], upd_same, rfl, fun i y h => by simp at h⟩ (fun i H' _ h => hG H' h.1) ?_ ?_
  · rintro i x H1 H2 hi ⟨s, ys, ed, hlen, ha⟩ hy
    refine hg x _ H2 _ _ (fun σ2 H2 h => ⟨h.1, h.2⟩) (hs i x H1 H2 (fun y H4 => ∃ acc, H4 D = some (.lst acc) ∧ acc.length < sizeLine ∧ Same H (upd H4 D (.lst (acc ++ [y]))) ∧ ∃ ys, upd H4 D (.lst (acc ++ [y])) D = some (.lst ys) ∧ ys.length = i + 1 ∧ ∀ (i : Nat) z, ys[i]? = some z → Rp i z (upd H4 D (.lst (acc ++ [y])))) hi s hy fun y H4 s4 ry => ?_)
    have e4 := s4 _ _ ed
    refine ⟨ys, e4, ?_, same_over (s.trans s4) hD, ys ++ [y], upd_same, by simp [hlen], fun j z hz' => ?_⟩
    · rw [hlen]; unfold sizeLine; omega
    · rcases Nat.lt_trichotomy j ys.length with c | c | c
      · rw [List.getElem?_append_left c] at hz'
        exact hu _ _ _ _ _ _ e4 (hm _ _ _ _ s4 (ha j z hz'))
      · subst c
        rw [List.getElem?_append_right (Nat.le_refl _), Nat.sub_self] at hz'
        obtain rfl := Option.some.inj hz'
        rw [hlen]
        exact hu _ _ _ _ _ _ e4 ry
      · rw [List.getElem?_eq_none (by simp; omega)] at hz'
        cases hz'
  · rintro H1 ⟨s, ys, ed, hlen, ha⟩
    exact hd D H1 ys hD s ed hlen ha
/-- a comprehension with a test over a tuple: what is kept is not told -/
theorem lcFilT {j : Nat} {tt : TT} (ha : SqT K H a xs) (hz : xs.length ≤ 100000) (hw : ∀ x, wipe ((wipe σ vs).set j (some x)) vs = wipe σ vs)
    (ht : ∀ (i : Nat) (x : V) (H1 : Hp) (R : Bool → Hp → Prop), i < xs.length → xs[i]? = some x → Same H H1 → (∀ b H2, Same H1 H2 → R b H2) → tt ((wipe σ vs).set j (some x)) H1 R)
    (he : ∀ (i : Nat) (x : V) (H1 : Hp) (Q' : VK), i < xs.length → xs[i]? = some x → Same H H1 → (∀ y H2, Same H1 H2 → Q' y H2) → te ((wipe σ vs).set j (some x)) H1 Q')
    (hd : ∀ D H' ys, H D = none → Same H H' → H' D = some (.lst ys) → Q (.ref D) H') : LcR (gName j) tt te vs σ Q (Itt K a) H := by
  intro D hD
  refine lc_it walk_tup (fun i H' => Same H H' ∧ ∃ ys, H' D = some (.lst ys) ∧ ys.length ≤ i) ⟨same_new hD, [], upd_same, Nat.le_refl _⟩ (fun i H' _ h => Same.tup h.1 ha) ?_ ?_
  · rintro i x H1 H2 hi ⟨s, ys, ed, hlen⟩ ⟨rfl, hx⟩
    refine ⟨hw _, ht i x _ _ hi hx s fun b H3 s3 => ?_⟩
    cases b with
    | false => exact ⟨s.trans s3, ys, s3 _ _ ed, by omega⟩
    | true =>
      refine he i x _ _ hi hx (s.trans s3) fun y H4 s4 => ⟨ys, s4 _ _ (s3 _ _ ed), by unfold sizeLine; omega, same_over ((s.trans s3).trans s4) hD, ys ++ [y], upd_same, by simp; omega⟩
  · rintro H1 ⟨s, ys, ed, _⟩
    exact hd D H1 ys hD s ed
/-- a comprehension with a test over a tuple, the items themselves kept: a part of the tuple, in its order -/
theorem lcFilTs {j : Nat} {tt : TT} (ha : SqT K H a xs) (hz : xs.length ≤ 100000) (hw : ∀ x, wipe ((wipe σ vs).set j (some x)) vs = wipe σ vs)
    (ht : ∀ (i : Nat) (x : V) (H1 : Hp) (R : Bool → Hp → Prop), i < xs.length → xs[i]? = some x → Same H H1 → (∀ b H2, Same H1 H2 → R b H2) → tt ((wipe σ vs).set j (some x)) H1 R)
    (he : ∀ (i : Nat) (x : V) (H1 : Hp) (Q' : VK), i < xs.length → xs[i]? = some x → Same H H1 → (∀ H2, Same H1 H2 → Q' x H2) → te ((wipe σ vs).set j (some x)) H1 Q')
    (hd : ∀ D H' ys, H D = none → Same H H' → H' D = some (.lst ys) → ys.Sublist xs → Q (.ref D) H') : LcR (gName j) tt te vs σ Q (Itt K a) H := by
  intro D hD
  refine lc_it walk_tup (fun i H' => Same H H' ∧ ∃ ys, H' D = some (.lst ys) ∧ ys.Sublist (xs.take i)) ⟨same_new hD, [], upd_same, List.nil_sublist _⟩ (fun i H' _ h => Same.tup h.1 ha) ?_ ?_
  · rintro i x H1 H2 hi ⟨s, ys, ed, hs⟩ ⟨rfl, hx⟩
    have et : xs.take (i + 1) = xs.take i ++ [x] := by rw [List.take_add_one, hx]; rfl
    refine ⟨hw _, ht i x _ _ hi hx s fun b H3 s3 => ?_⟩
    cases b with
    | false => exact ⟨s.trans s3, ys, s3 _ _ ed, by rw [et]; exact hs.trans (List.sublist_append_left ..)⟩
    | true =>
      have hl : ys.length < sizeLine := by
        have := hs.length_le
        rw [List.length_take] at this
        unfold sizeLine
        omega
      refine he i x _ _ hi hx (s.trans s3) fun H4 s4 => ⟨ys, s4 _ _ (s3 _ _ ed), hl, same_over ((s.trans s3).trans s4) hD, ys ++ [x], upd_same, by rw [et]; exact hs.append (.refl _)⟩
  · rintro H1 ⟨s, ys, ed, hs⟩
    exact hd D H1 ys hD s ed (by rw [List.take_length] at hs; exact hs)
end
end Mv
set_option Elab.async false
set_option maxRecDepth 100000
/-! A dict changes: for the steps. -/
namespace Mv
open PySem PySem.Spec PyProof.Rows L2
/-- the dict at D may change, nothing else that was -/
def Bd (D : Addr) (H H' : Hp) : Prop := (∃ kvs, H D = some (.dK kvs)) ∧ Bu D H H'
def DgR (ty : TE) (σ : L2.St) (Q : VK) : VK := fun x H1 => ty σ H1 fun y H2 => ∃ a v, x = .ref a ∧ DGet H2 a y (some v) ∧ Q v H2
def DnR (td : TE) (σ : L2.St) (Q : VK) : VK := fun y H1 => td σ H1 fun x H2 => ∃ a o, x = .ref a ∧ DGet H2 a y o ∧ Q (.bl (!o.isSome)) H2
def DpR (td ty : TE) (σ : L2.St) (n : L2.St → Hp → Prop) : VK := fun v H1 => td σ H1 fun x H2 => ty σ H2 fun y H3 => ∃ a H4, x = .ref a ∧ DPut H3 a y v H4 ∧ n σ H4
section
variable {K : PySem.W.Frag} {σ : L2.St} {H H' : Hp} {Q : VK} {n b c : L2.St → Hp → Prop} {rt : VK} {x y v : V} {xs ys : List V} {td tv ty : TE} {a p q C dx D : Addr} {fs : List (Str × V)} {d : PyData} {ds : List PyData} {vs : List V} {kvs : List (Key × V)}
theorem bd_sqt (s : Bd D H H') (h : SqT K H p xs) : SqT K H' p xs := by
  obtain ⟨⟨z, e⟩, b⟩ := s
  rcases h with (h | ⟨o, h⟩) | h
  · exact .inl (.inl (b p _ (fun z => by rw [z, e] at h; cases h) h))
  · exact .inl (.inr ⟨o, b p _ (fun z => by rw [z, e] at h; cases h) h⟩)
  · exact .inr h
theorem bd_sql (s : Bd D H H') (h : SqL K H p xs) : SqL K H' p xs := by
  obtain ⟨⟨z, e⟩, b⟩ := s
  rcases h with (h | ⟨o, h⟩) | h
  · exact .inl (.inl (b p _ (fun z => by rw [z, e] at h; cases h) h))
  · exact .inl (.inr ⟨o, b p _ (fun z => by rw [z, e] at h; cases h) h⟩)
  · exact .inr h
theorem bd_gett (s : Bd D H H') (h : H p = some (.tup xs)) : H' p = some (.tup xs) := by
  obtain ⟨⟨z, e⟩, b⟩ := s
  exact b p _ (fun z => by rw [z, e] at h; cases h) h
theorem bd_getl (s : Bd D H H') (h : H p = some (.lst xs)) : H' p = some (.lst xs) := by
  obtain ⟨⟨z, e⟩, b⟩ := s
  exact b p _ (fun z => by rw [z, e] at h; cases h) h
theorem bd_geti (s : Bd D H H') (h : H p = some (.ins C dx fs)) : H' p = some (.ins C dx fs) := by
  obtain ⟨⟨z, e⟩, b⟩ := s
  exact b p _ (fun z => by rw [z, e] at h; cases h) h
theorem bd_getd (s : Bd D H H') (hne : p ≠ D) (h : H p = some (.dK kvs)) : H' p = some (.dK kvs) := s.2 p _ hne h
theorem bd_pot (s : Bd D H H') (h : Pot H p) : Pot H' p := by
  obtain ⟨x, y, e, r⟩ := h.ex
  exact ⟨x, y, bd_getl s e, r⟩
mutual
theorem bd_dp' (s : Bd D H H') : ∀ (d : PyData) (v : V), Dp K H v d → Dp K H' v d
  | .none, _, h => by cases h; exact .non
  | .bool b, _, h => by cases h; exact .bl b
  | .int i, _, h => by cases h; exact .int i
  | .str x, _, h => by cases h; exact .str x
  | .list ds, _, h => by
    cases h with
    | lst hs ha => exact .lst (bd_sql s hs) (bd_dpa' s ds _ ha)
  | .tuple ds, _, h => by
    cases h with
    | tup hs ha => exact .tup (bd_sqt s hs) (bd_dpa' s ds _ ha)
  | .dict _, _, h => by cases h
theorem bd_dpa' (s : Bd D H H') : ∀ (ds : List PyData) (vs : List V), DpAll K H vs ds → DpAll K H' vs ds
  | [], _, h => by cases h; exact .nil
  | d :: ds, _, h => by
    cases h with
    | cons h1 h2 => exact .cons (bd_dp' s d _ h1) (bd_dpa' s ds _ h2)
end
theorem bd_dp (s : Bd D H H') (h : Dp K H v d) : Dp K H' v d := bd_dp' s d v h
theorem bd_dpa (s : Bd D H H') (h : DpAll K H vs ds) : DpAll K H' vs ds := bd_dpa' s ds vs h
theorem bd_refl (h : H D = some (.dK kvs)) : Bd D H H := ⟨⟨kvs, h⟩, Bu.refl _ _⟩
theorem Bd.up {H0 : Hp} (h : Bd D H0 H) (s : Same H H') : Bd D H0 H' := ⟨h.1, h.2.trans (Bu.of s D)⟩
theorem up_bd {H0 : Hp} (s : Same H H') (h : Bd D H0 H) : Bd D H0 H' := h.up s
theorem bd_bd {H0 : Hp} (s : Bd D H H') (h : Bd D H0 H) : Bd D H0 H' := ⟨h.1, h.2.trans s.2⟩
/-! steps -/
theorem go_dget (q : td σ H (DgR ty σ Q)) : tDGet td ty σ H Q := q
theorem go_dgr (q : ty σ H fun y H2 => ∃ a v, x = .ref a ∧ DGet H2 a y (some v) ∧ Q v H2) : DgR ty σ Q x H := q
theorem go_dnotin (q : ty σ H (DnR td σ Q)) : tDNotIn ty td σ H Q := q
theorem go_dnr (q : td σ H fun x H2 => ∃ a o, x = .ref a ∧ DGet H2 a y o ∧ Q (.bl (!o.isSome)) H2) : DnR td σ Q y H := q
theorem go_dput (q : tv σ H (DpR td ty σ n)) : sDPut td ty tv ⟨n, rt, b, c⟩ σ H := q
theorem go_dpr (q : td σ H fun x H2 => ty σ H2 fun y H3 => ∃ a H4, x = .ref a ∧ DPut H3 a y v H4 ∧ n σ H4) : DpR td ty σ n v H := q
/-- a number or a text as key -/
theorem dg_int {i : Int} (h : H D = some (.dK kvs)) : DGet H D (.int i) (valV kvs (.inl i)) := DGet.k (k := .inl i) h
theorem dg_str {s : Str} (h : H D = some (.dK kvs)) : DGet H D (.str s) (valV kvs (.inr s)) := DGet.k (k := .inr s) h
theorem dp_int {i : Int} (h : H D = some (.dK kvs)) (hl : kvs.length < sizeLine) : DPut H D (.int i) v (upd H D (.dK (putK kvs (.inl i) v))) := DPut.k (k := .inl i) h hl
theorem dp_str {s : Str} (h : H D = some (.dK kvs)) (hl : kvs.length < sizeLine) : DPut H D (.str s) v (upd H D (.dK (putK kvs (.inr s) v))) := DPut.k (k := .inr s) h hl
theorem bd_set {o : HO} (h : H D = some (.dK kvs)) : Bd D H (upd H D o) := ⟨⟨kvs, h⟩, Bu.set⟩
end
theorem units1 {j : Nat} {A : Around} (h : Room j A) : A.units + 1 < cLine := Nat.lt_of_le_of_lt (Nat.add_le_add_left (by decide) _) h.units
end Mv
set_option Elab.async false
set_option maxRecDepth 100000
set_option maxHeartbeats 4000000
/-! Data that no pot is; dicts written out; items set; lists of ranges; comprehensions of objects with draws. -/
namespace Mv
open PySem PySem.Spec PyProof.Rows L2
/-- a list of two numbers -/
def isPt : List PyData → Bool
  | [.int _, .int _] => true
  | _ => false
mutual
/-- no list in it looks like a pot -/
def PF : PyData → Bool
  | .none | .bool _ | .int _ | .str _ => true
  | .dict _ => false
  | .list xs => !isPt xs && PFs xs
  | .tuple xs => PFs xs
def PFs : List PyData → Bool
  | [] => true
  | x :: xs => PF x && PFs xs
end
section
variable {K : PySem.W.Frag} {H H' : Hp} {p : Addr}
theorem isPt_of {ds : List PyData} {x y : Int} (h : DpAll K H [.int x, .int y] ds) : isPt ds = true := by
  cases h with
  | cons a b =>
    cases b with
    | cons b c =>
      cases c
      cases a
      cases b
      rfl
mutual
theorem pf_dp' (b : Bu p H H') (hp : Pot H p) : ∀ (d : PyData) (v : V), PF d = true → Dp K H v d → Dp K H' v d
  | .none, _, _, h => by cases h; exact .non
  | .bool b, _, _, h => by cases h; exact .bl b
  | .int i, _, _, h => by cases h; exact .int i
  | .str x, _, _, h => by cases h; exact .str x
  | .list ds, _, n, h => by
    have n' : isPt ds = false ∧ PFs ds = true := by simpa [PF] using n
    cases h with
    | lst hs ha =>
      obtain ⟨x, y, ep, _⟩ := hp.ex
      refine .lst ?_ (pf_dpa' b hp ds _ n'.2 ha)
      rcases hs with (h | ⟨o, h⟩) | h
      · exact .inl (.inl (b _ _ (fun z => by
          rw [z, ep] at h
          cases h
          have := isPt_of ha
          rw [n'.1] at this
          cases this) h))
      · exact .inl (.inr ⟨o, b _ _ (fun z => by rw [z, ep] at h; cases h) h⟩)
      · exact .inr h
  | .tuple ds, _, n, h => by
    have n' : PFs ds = true := by simpa [PF] using n
    cases h with
    | tup hs ha =>
      obtain ⟨ys, ep⟩ := hp.lst
      exact .tup (b.sqt ep hs) (pf_dpa' b hp ds _ n' ha)
  | .dict _, _, _, h => by cases h
theorem pf_dpa' (b : Bu p H H') (hp : Pot H p) : ∀ (ds : List PyData) (vs : List V), PFs ds = true → DpAll K H vs ds → DpAll K H' vs ds
  | [], _, _, h => by cases h; exact .nil
  | d :: ds, _, n, h => by
    have n' : PF d = true ∧ PFs ds = true := by simpa [PFs] using n
    cases h with
    | cons h1 h2 => exact .cons (pf_dp' b hp d _ n'.1 h1) (pf_dpa' b hp ds _ n'.2 h2)
end
theorem pf_dp {v : V} {d : PyData} (b : Bu p H H') (hp : Pot H p) (hn : PF d = true) (h : Dp K H v d) : Dp K H' v d := pf_dp' b hp d v hn h
theorem PFs.of : ∀ {ds : List PyData}, (∀ d ∈ ds, PF d = true) → PFs ds = true
  | [], _ => rfl
  | d :: ds, h => by
    have := PFs.of (ds := ds) fun x hx => h x (List.mem_cons_of_mem _ hx)
    simp [PFs, h d (List.mem_cons_self ..), this]
theorem PF.list {ds : List PyData} (hn : isPt ds = false) (h : ∀ d ∈ ds, PF d = true) : PF (.list ds) = true := by simp [PF, hn, PFs.of h]
theorem bu_getd {kvs : List (Key × V)} {a : Addr} (s : Bu p H H') (hp : Pot H p) (h : H a = some (.dK kvs)) : H' a = some (.dK kvs) := s _ _ (fun e => by obtain ⟨ys, z⟩ := hp.lst; rw [e, z] at h; cases h) h
theorem bd_bup {q : Addr} {H0 : Hp} (s : Bd q H H') (n : H0 q = none) (h : Bu p H0 H) : Bu p H0 H' := fun c o nc e => s.2 c o (fun z => by rw [z, n] at e; cases e) (h c o nc e)
theorem bd_same {q : Addr} {H0 : Hp} (s : Bd q H H') (n : H0 q = none) (h : Same H0 H) : Same H0 H' := fun c o e => s.2 c o (fun z => by rw [z, n] at e; cases e) (h c o e)
end
section
variable {K : PySem.W.Frag} {σ : L2.St} {H H' : Hp} {Q : VK} {p D : Addr} {td ty te to ti tk tv ta tb : TE} {x y v : V} {xs : List V} {kvs : List (Key × V)} {trs : List (TE × TE)} {QP : List (V × V) → Hp → Prop}
/-! dicts -/
def DgK (x : V) (Q : VK) : VK := fun y H2 => ∃ a v, x = .ref a ∧ DGet H2 a y (some v) ∧ Q v H2
theorem go_dgr2 (q : ty σ H (DgK x Q)) : DgR ty σ Q x H := q
theorem go_dgk {s : Str} (h : H D = some (.dK kvs)) (e : valV kvs (.inr s) = some v) (q : Q v H) : DgK (.ref D) Q (.str s) H := ⟨D, v, rfl, by have := dg_str (s := s) h; rw [e] at this; exact this, q⟩
def DpK (x v : V) (σ : L2.St) (n : L2.St → Hp → Prop) : VK := fun y H3 => ∃ a H4, x = .ref a ∧ DPut H3 a y v H4 ∧ n σ H4
def DpT (ty : TE) (v : V) (σ : L2.St) (n : L2.St → Hp → Prop) : VK := fun x H2 => ty σ H2 (DpK x v σ n)
theorem go_dpr2 {n : L2.St → Hp → Prop} (q : td σ H (DpT ty v σ n)) : DpR td ty σ n v H := q
theorem go_dpt {n : L2.St → Hp → Prop} (q : ty σ H (DpK x v σ n)) : DpT ty v σ n x H := q
theorem go_dpk {s : Str} {n : L2.St → Hp → Prop} (h : H D = some (.dK kvs)) (hl : kvs.length < sizeLine) (q : ∀ H', Bd D H H' → H' D = some (.dK (putK kvs (.inr s) v)) → n σ H') : DpK (.ref D) v σ n (.str s) H :=
  ⟨D, _, rfl, dp_str h hl, q _ (bd_set h) upd_same⟩
def DsK (p : Addr) (Q : VK) : List (V × V) → Hp → Prop := fun ps H2 => H2 p = some (.dK []) ∧ ∃ kvs : List (Key × V), ps = kvs.map (fun kv => (kV kv.1, kv.2)) ∧ kvs.length ≤ 15 ∧ Q (.ref p) (upd H2 p (.dK (mergeK [] kvs)))
theorem go_disp (q : ∀ p H', H p = none → Same H H' → H' p = some (.dK []) → tPairs trs σ H' (DsK p Q)) : tDisp trs σ H Q := fun p hp => q p _ hp (same_new hp) upd_same
theorem go_pnil (q : QP [] H) : tPairs [] σ H QP := q
theorem go_pcons (q : tk σ H fun x H1 => tv σ H1 fun y H2 => tPairs trs σ H2 fun ps H3 => QP ((x, y) :: ps) H3) : tPairs ((tk, tv) :: trs) σ H QP := q
theorem go_dsk2 {k1 k2 : Str} {v1 v2 : V} (h : H p = some (.dK [])) (q : ∀ H', Bd p H H' → H' p = some (.dK (mergeK [] [(.inr k1, v1), (.inr k2, v2)])) → Q (.ref p) H') : DsK p Q [(.str k1, v1), (.str k2, v2)] H :=
  ⟨h, [(.inr k1, v1), (.inr k2, v2)], rfl, by show 2 ≤ 15; decide, q _ (bd_set h) upd_same⟩
/-! x[i] = v -/
def SiR (t : TSet) (v : V) (ti : TE) (σ : L2.St) (QS : L2.St → Hp → Prop) : VK := fun o H1 => ti σ H1 fun i H2 => t o i v H2 fun H3 => QS σ H3
theorem go_gsub {t : TSet} {QS : L2.St → Hp → Prop} (q : to σ H (SiR t v ti σ QS)) : gSub to ti t v σ H QS := q
theorem go_sir {t : TSet} {QS : L2.St → Hp → Prop} (q : ti σ H fun i H2 => t x i v H2 fun H3 => QS σ H3) : SiR t v ti σ QS x H := q
theorem go_setL {k : Nat} {QH : Hp → Prop} (h : H p = some (.lst xs)) (hk : k < xs.length) (q : QH (upd H p (.lst (xs.set k v)))) : rSetL (.ref p) (.int (k : Int)) v H QH :=
  ⟨p, xs, k, k, rfl, rfl, h, by unfold ixN; simp; omega, q⟩
/-! list(range(..)) -/
def LrR (Q : VK) : Int → Int → Hp → Prop := fun a b H1 => RgOk a b ∧ ∀ q, H1 q = none → Q (.ref q) (upd H1 q (.lst (rgV a b)))
def RgE (x : V) (R : Int → Int → Hp → Prop) : VK := fun y H2 => ∃ i j, x = .int i ∧ y = .int j ∧ R i j H2
theorem go_lrg {tr : L2.St → Hp → (Int → Int → Hp → Prop) → Prop} (q : tr σ H (LrR Q)) : tLstRg tr σ H Q := q
theorem go_rgt2 {R : Int → Int → Hp → Prop} (q : ta σ H fun x H1 => tb σ H1 (RgE x R)) : tRg2 ta tb σ H R := q
theorem go_rge {i j : Int} {R : Int → Int → Hp → Prop} (q : R i j H) : RgE (.int i) R (.int j) H := ⟨i, j, rfl, rfl, q⟩
theorem go_lrr {i j : Nat} (hj : j ≤ 100000) (hi : i ≤ j) (q : ∀ l H', H l = none → Same H H' → H' l = some (.lst ((List.range (j - i)).map fun k => V.int ((i + k : Nat) : Int))) → Q (.ref l) H') : LrR Q (i : Int) (j : Int) H := by
  have e : rgV (i : Int) (j : Int) = (List.range (j - i)).map fun k => V.int ((i + k : Nat) : Int) := by
    unfold rgV
    rw [show ((j : Int) - (i : Int)).toNat = j - i by omega]
    exact List.map_congr_left fun k _ => by rw [Int.natCast_add]
  refine ⟨RgOk.of_le (by omega) (by omega) (by omega) (by omega), fun l hl => ?_⟩
  exact q l _ hl (same_new hl) (by rw [upd_same, e])
/-! x[::-1] -/
theorem pe_revL' {X : Cx} {e : Expr} {te : TE} {k : Nat} {p1 p2 p3 pos : Pos} (he : PE X e te) (eK : X.K = K := by (conv => lhs; whnf)) : PE X (.Subscript e (.Slice none none (some (.UnaryOp .USub (.Constant (.int 1) k p1) p2)) p3) pos) (tRevL K te) := by
  subst eK
  exact pe_revL he
def RvL (K : PySem.W.Frag) (Q : VK) : VK := fun x H1 => ∃ a xs, x = .ref a ∧ SqL K H1 a xs ∧ ∀ p, H1 p = none → Q (.ref p) (upd H1 p (.lst xs.reverse))
theorem go_revl (q : te σ H (RvL K Q)) : tRevL K te σ H Q := q
theorem go_rvl {a : Addr} (h : SqL K H a xs) (q : ∀ p H', H p = none → Same H H' → H' p = some (.lst xs.reverse) → Q (.ref p) H') : RvL K Q (.ref a) H := ⟨a, xs, rfl, h, fun p hp => q p _ hp (same_new hp) upd_same⟩
/-! comprehensions of objects, with draws -/
theorem lcObjB {J : It} {k : Nat} {G : Hp → Prop} {Y : Nat → Hp → V → Hp → Prop} {g : TG} {vs : List Nat} (w : Walk J k G Y) (Rp : Nat → V → Hp → Prop) (hp : Pot H p) (hz : k ≤ 100000) (hm : ∀ i y H1 H2, Pot H1 p → Bu p H1 H2 → Rp i y H1 → Rp i y H2) (hu : ∀ i y H1 D zs o, H1 D = some (.lst zs) → Rp i y H1 → Rp i y (upd H1 D o)) (hG : ∀ H', Bu p H H' → G H')
    (hs : ∀ (i : Nat) (x : V) (H1 H2 : Hp) (Q' : VK), i < k → Pot H1 p → Bu p H H1 → Y i H1 x H2 → (∀ y H4, Pot H4 p → Bu p H1 H4 → Rp i y H4 → Q' y H4) → g x (wipe σ vs) H2 fun σ2 H3 => wipe σ2 vs = wipe σ vs ∧ te σ2 H3 Q')
    (hd : ∀ D H' ys, H D = none → Pot H' p → Bu p H H' → H' D = some (.lst ys) → ys.length = k → (∀ (i : Nat) y, ys[i]? = some y → Rp i y H') → Q (.ref D) H') (hg : ∀ x σ' H' (P Q : L2.St → Hp → Prop), (∀ σ2 H2, P σ2 H2 → Q σ2 H2) → g x σ' H' P → g x σ' H' Q) : LcR g tYes te vs σ Q J H := by
  intro D hD
  have hne : D ≠ p := hp.ne hD
  refine lc_it w (fun i H' => Bu p H H' ∧ Pot H' p ∧ ∃ ys, H' D = some (.lst ys) ∧ ys.length = i ∧ ∀ (i : Nat) y, ys[i]? = some y → Rp i y H') ⟨Bu.new hD, hp.upd hne, [], upd_same, rfl, fun i y h => by simp at h⟩ (fun i H' _ h => hG H' h.1) ?_ ?_
  · rintro i x H1 H2 hi ⟨b1, p1, ys, ed, hlen, ha⟩ hy
    refine hg x _ H2 _ _ (fun σ2 H2 h => ⟨h.1, h.2⟩) (hs i x H1 H2 (fun y H4 => ∃ acc, H4 D = some (.lst acc) ∧ acc.length < sizeLine ∧ Bu p H (upd H4 D (.lst (acc ++ [y]))) ∧ Pot (upd H4 D (.lst (acc ++ [y]))) p ∧ ∃ ys, upd H4 D (.lst (acc ++ [y])) D = some (.lst ys) ∧ ys.length = i + 1 ∧ ∀ (i : Nat) z, ys[i]? = some z → Rp i z (upd H4 D (.lst (acc ++ [y])))) hi p1 b1 hy fun y H4 p4 b4 ry => ?_)
    have e4 := b4 _ _ hne ed
    refine ⟨ys, e4, ?_, ?_, p4.upd hne, ys ++ [y], upd_same, by simp [hlen], fun j z hz' => ?_⟩
    · rw [hlen]; unfold sizeLine; omega
    · intro b o nb e
      rw [upd_ne (ne_of_none e hD)]
      exact (b1.trans b4) b o nb e
    · rcases Nat.lt_trichotomy j ys.length with c | c | c
      · rw [List.getElem?_append_left c] at hz'
        exact hu _ _ _ _ _ _ e4 (hm _ _ _ _ p1 b4 (ha j z hz'))
      · subst c
        rw [List.getElem?_append_right (Nat.le_refl _), Nat.sub_self] at hz'
        obtain rfl := Option.some.inj hz'
        rw [hlen]
        exact hu _ _ _ _ _ _ e4 ry
      · rw [List.getElem?_eq_none (by simp; omega)] at hz'
        cases hz'
  · rintro H1 ⟨b1, p1, ys, ed, hlen, ha⟩
    exact hd D H1 ys hD p1 b1 ed hlen ha
end
end Mv
set_option Elab.async false
set_option maxRecDepth 100000
set_option maxHeartbeats 4000000
/-! Class methods; cls(..). -/
namespace Mv
open PySem PySem.Spec PyProof.Rows L2
/-- C.m(..), m a class method: n values by place (the class among them), keywords ks -/
structure CmK (P : Program) (w : World) (K : PySem.W.Frag) (mg : Str → Option Value) (base : Heap) (k : Nat) (C : Addr) (m : Str) (sp : Sp) (n : Nat) (ks : List Str) (gV : List V → List V → List V) : Prop where
  ex : ∃ (f p : Addr) (mc : Value) (fd : FuncData) (ps : List Str) (g : List Value → List Value → List Value), ClX.CRead K C mc ∧ ClX.CMet K C mc m p f ∧ FnOk P w K mg base CX0 k f fd ps sp ∧ KBn K fd ps n ks g gV
def tCmA (C : Addr) (n : Nat) (sp : Sp) (gV : List V → List V → List V) (to : TE) (t : TA) : TE := fun σ H Q => to σ H fun x H1 => x = .ref C ∧ t σ H1 fun vs H2 => vs.length + 1 = n ∧ sp (gV (.ref C :: vs) []) H2 Q E0
def tCmK (C : Addr) (m : Nat) (sp : Sp) (gV : List V → List V → List V) (to : TE) (tk : TA) : TE := fun σ H Q => to σ H fun x H1 => x = .ref C ∧ tk σ H1 fun zs H2 => zs.length = m ∧ sp (gV [.ref C] zs) H2 Q E0
section
variable {X : Cx} {k j n : Nat} {C f : Addr} {sp : Sp} {fd : FuncData} {ps ks : List Str} {g : List Value → List Value → List Value} {gV : List V → List V → List V} {o e : Expr} {es : List Expr} {kws : List Keyword} {m x : Str} {p pos apos : Pos} {ta to : TE} {t tk : TA} {pl : Sem Bool}
theorem run_cmk {pins : List (Addr × Obj)} {σ : L2.St} {H : Hp} {s : Shared} {Q : VK} {us ws : List Value} {vs zs : List V} {q : Addr} (F : FnOk X.prog X.w X.K X.mg X.base CX0 k f fd ps sp) (hr : Room k X.A) (hb : KBn X.K fd ps n ks g gV)
    (I : Inv X ((q, PySem.W.methodObj (.ref f) (.ref C)) :: pins) σ H s) (r : Vals vs us) (rz : Vals zs ws) (l1 : vs.length + 1 = n) (l2 : zs.length = ks.length) (h : sp (gV (.ref C :: vs) zs) H Q E0) : wpAny (model X.prog X.w) X.A (call (.ref q) us (ks.zip ws)) (EP X pins σ Q) X.xe s := by
  have z : wpAny (model X.prog X.w) X.A (call (.ref q) us (ks.zip ws)) (EP X ((q, PySem.W.methodObj (.ref f) (.ref C)) :: pins) σ Q) X.xe s := by
    refine wpAny_call (PySem.W.method_call (ClX.pin_at I) (codeAny_mono (F.run X.A X.stack s H ⟨.ref C :: us, ks.zip ws⟩ (g (.ref C :: us) ws) (gV (.ref C :: vs) zs) Q E0 hr I.env0 (hb.to s (.ref C :: us) ws I.kIn (by rw [List.length_cons, ← r.length]; exact l1) (rz.length.symm.trans l2)) (hb.rel (.cons rfl r) rz) h) fun r s' hq => ?_))
    cases r with
    | error e => exact False.elim hq
    | ok fl =>
      cases fl with
      | ret u => exact I.after hq
      | next => exact False.elim hq
      | brk => exact False.elim hq
      | cont => exact False.elim hq
  exact thn z fun _ _ y => ClX.unpinE y
theorem pe_cmA (c : CmK X.prog X.w X.K X.mg X.base k C m sp n [] gV) (hr : Room j X.A) (hk : k ≤ j) (he : PE X o to) (ha : PA X (e :: es) t)
    (hst : starEach (e :: es) X.env = (false, eval e X.env) :: starEach es X.env := by rfl) (hpl : (backTo pos (starEach es X.env)).any (·.1) = false := by rfl)
    (ht : eval (.Call (.Attribute o m apos) (e :: es) [] pos) X.env = (do
      let ov ← eval o X.env
      standAt apos.atName
      let (f, first) ← holding [ov] (getMethod ov m pl)
      callWith pos f first (backTo pos (starEach (e :: es) X.env)) (backToKw pos (keywordEach [] X.env))) := by rfl) :
    PE X (.Call (.Attribute o m apos) (e :: es) [] pos) (tCmA C n sp gV to t) := by
  obtain ⟨f, p, mc, fd, ps, g, cr, cm, F, b⟩ := c.ex
  refine ⟨fun pins s σ H Q I h => ?_⟩
  refine PySem.W.methodCall_KW (pl := pl) (thn (he.run pins s σ H _ I h) fun u s1 ⟨x, H1, I1, rx, ex, q⟩ => ?_) ht
  subst ex
  obtain rfl : u = Value.ref C := rx
  refine ClX.getmethcm_ok I1 cr cm fun s2 I2 => ?_
  refine ClX.callwith_cm I2 (ClX.base_none I1 (Nat.le_refl _)) cm.fi (thn (ha.run pos _ s2 σ H1 _ I2 q) fun us s3 ⟨vs, H2, I3, rv, q2⟩ => ⟨⟨ClX.pin_at I3, I3.kIn⟩, ?_⟩) hst hpl
  exact run_cmk (ks := []) (ws := []) (zs := []) F (hr.mono hk) b I3 rv .nil q2.1 rfl q2.2
theorem pe_cmA0 (c : CmK X.prog X.w X.K X.mg X.base k C m sp n [] gV) (hr : Room j X.A) (hk : k ≤ j) (he : PE X o to)
    (ht : eval (.Call (.Attribute o m apos) [] [] pos) X.env = (do
      let ov ← eval o X.env
      standAt apos.atName
      let (f, first) ← holding [ov] (getMethod ov m pl)
      callWith pos f first (backTo pos (starEach [] X.env)) (backToKw pos (keywordEach [] X.env))) := by rfl) :
    PE X (.Call (.Attribute o m apos) [] [] pos) (tCmA C n sp gV to tNil) := by
  obtain ⟨f, p, mc, fd, ps, g, cr, cm, F, b⟩ := c.ex
  refine ⟨fun pins s σ H Q I h => ?_⟩
  refine PySem.W.methodCall_KW (pl := pl) (thn (he.run pins s σ H _ I h) fun u s1 ⟨x, H1, I1, rx, ex, q⟩ => ?_) ht
  subst ex
  obtain rfl : u = Value.ref C := rx
  refine ClX.getmethcm_ok I1 cr cm fun s2 I2 => ?_
  refine PySem.W.callWith_M0 ⟨ClX.pin_at I2, I2.kIn⟩ cm.fi ?_
  exact run_cmk (us := []) (vs := []) (ks := []) (ws := []) (zs := []) F (hr.mono hk) b I2 .nil .nil q.1 rfl q.2
theorem pe_cmKw (c : CmK X.prog X.w X.K X.mg X.base k C m sp 1 ks gV) (hr : Room j X.A) (hk : k ≤ j) (he : PE X o to) (hkw : PK X kws tk)
    (hall : (backToKw pos (keywordEach kws X.env)).all (·.1.isSome) = true := by rfl) (hks : (backToKw pos (keywordEach kws X.env)).filterMap (·.1) = ks := by rfl)
    (hpl : ((backTo pos (starEach [] X.env)).any (·.1) || (backToKw pos (keywordEach kws X.env)).any (·.1.isNone)) = false := by rfl)
    (ht : eval (.Call (.Attribute o m apos) [] kws pos) X.env = (do
      let ov ← eval o X.env
      standAt apos.atName
      let (f, first) ← holding [ov] (getMethod ov m pl)
      callWith pos f first (backTo pos (starEach [] X.env)) (backToKw pos (keywordEach kws X.env))) := by rfl) :
    PE X (.Call (.Attribute o m apos) [] kws pos) (tCmK C ks.length sp gV to tk) := by
  obtain ⟨f, p, mc, fd, ps, g, cr, cm, F, b⟩ := c.ex
  refine ⟨fun pins s σ H Q I h => ?_⟩
  refine PySem.W.methodCall_KW (pl := pl) (thn (he.run pins s σ H _ I h) fun u s1 ⟨x, H1, I1, rx, ex, q⟩ => ?_) ht
  subst ex
  obtain rfl : u = Value.ref C := rx
  refine ClX.getmethcm_ok I1 cr cm fun s2 I2 => ?_
  refine PySem.W.callWith_of (P := fun h => PySem.W.MethP X.K s1.heap.objs.size f (.ref C) h) hpl (PySem.W.keeps_M cm.fi) (PyProof.Rows.evalArgs_kw2_nil hall ?_)
  refine thn (hkw.run pos _ s2 σ H1 _ I2 q) fun ws s3 ⟨zs, H2, I3, rz, l2, q2⟩ => ⟨⟨ClX.pin_at I3, I3.kIn⟩, ?_⟩
  rw [hks]
  exact run_cmk (us := []) (vs := []) F (hr.mono hk) b I3 .nil rz rfl l2 q2
/-- cls(..), cls a local name -/
def tMakeL (i : Nat) (C : Addr) (sp : Sp) (E : XK) (t : TA) : TE := fun σ H Q => σ[i]? = some (some (.ref C)) ∧ StX.tMakeR C sp E t σ H Q
theorem pe_marL {i : Nat} {y : Str} (c : MaR X.prog X.w X.K X.mg X.base k y C sp) (hr : Room j X.A) (hk : k + 1 ≤ j) (ha : PA X (e :: es) t) (hN : X.N[i]? = some x := by rfl) (hv : Vis X.env.scope x := by first | exact Or.inl rfl | exact Or.inr (Or.inl rfl) | exact Or.inr (Or.inr rfl))
    (hdb : (x == ("__debug__" : Str)) = false := by decide) (hcd : (x == ("__classdict__" : Str)) = false := by decide)
    (he : starEach (e :: es) X.env = (false, eval e X.env) :: starEach es X.env := by rfl) (hpl : (backTo pos (starEach es X.env)).any (·.1) = false := by rfl) : PE X (.Call (.Name x p) (e :: es) [] pos) (tMakeL i C sp E0 t) := by
  obtain ⟨f, M, F, hm⟩ := c.ex
  refine ⟨fun pins s σ H Q I h => ?_⟩
  obtain ⟨hs, ht⟩ := h
  refine wpAny_Call_Name_kw (thn ((pe_var (pos := p) hN hv hdb hcd).run pins s σ H (fun v H1 => v = .ref C ∧ H1 = H) I ⟨.ref C, hs, rfl, rfl⟩) fun u s1 ⟨v, H1, I1, r1, q1⟩ => ?_)
  obtain ⟨rfl, rfl⟩ := q1
  cases r1
  refine PySem.W.callWith_K (h₀ := X.base) I.ok.mod.kin M.kp (thn (ha.run pos pins s1 σ _ _ I1 ht) fun us s2 ⟨vs, H2, I2, r, q⟩ => ⟨I2.kIn, ?_⟩) he hpl
  exact StX.run_makeR M F (hr.mono hk) pass0 I2 r q
/-- cls.f, a constant of the class -/
def tCv (C : Addr) (v : V) (ta : TE) : TE := fun σ H Q => ta σ H fun x H1 => x = .ref C ∧ Q v H1
theorem pe_cvl {y : Str} {v : V} (c : CCon X.K C y v) (he : PE X e ta) (hb : attributeBase e y X.env (eval e X.env) = eval e X.env := by rfl) : PE X (.Attribute e y pos) (tCv C v ta) := by
  obtain ⟨mc, u, r, k⟩ := c.ex
  refine ⟨fun pins s σ H Q I h => ?_⟩
  refine attr_of hb (thn (he.run pins s σ H _ I h) fun u s1 ⟨x, H1, I1, rx, ex, q⟩ => ?_)
  subst ex
  obtain rfl : u = Value.ref C := rx
  exact ClX.getcval_ok I1 r k fun s2 I2 => ⟨v, H1, I2, k.rel, q⟩
end
section
variable {σ : L2.St} {H : Hp} {Q : VK} {C : Addr} {sp : Sp} {E : XK} {v : V} {n m : Nat} {gV : List V → List V → List V} {to ta : TE} {t tk : TA} {vs zs us : List V}
def CvR (C : Addr) (v : V) (Q : VK) : VK := fun x H1 => x = .ref C ∧ Q v H1
theorem go_cv (q : ta σ H (CvR C v Q)) : tCv C v ta σ H Q := q
theorem go_cvr (q : Q v H) : CvR C v Q (.ref C) H := ⟨rfl, q⟩
def MkR1 (C : Addr) (sp : Sp) (E : XK) (Q : VK) : List V → Hp → Prop := fun vs H1 => ∀ x dx, H1 x = none → H1 dx = none → dx ≠ x → sp (.ref x :: vs) (upd (upd H1 dx (.own x)) x (.ins C dx [])) (fun v H2 => v = .non ∧ Q (.ref x) H2) E
theorem go_mkr1 (q : t σ H (MkR1 C sp E Q)) : StX.tMakeR C sp E t σ H Q := q
theorem go_mkL {i : Nat} (h : σ[i]? = some (some (.ref C))) (q : t σ H (MkR1 C sp E Q)) : tMakeL i C sp E t σ H Q := ⟨h, q⟩
def CmR (C : Addr) (n : Nat) (sp : Sp) (gV : List V → List V → List V) (t : TA) (σ : L2.St) (Q : VK) : VK := fun x H1 => x = .ref C ∧ t σ H1 fun vs H2 => vs.length + 1 = n ∧ sp (gV (.ref C :: vs) []) H2 Q E0
def CkR (C : Addr) (m : Nat) (sp : Sp) (gV : List V → List V → List V) (tk : TA) (σ : L2.St) (Q : VK) : VK := fun x H1 => x = .ref C ∧ tk σ H1 fun zs H2 => zs.length = m ∧ sp (gV [.ref C] zs) H2 Q E0
def CmV (C : Addr) (n : Nat) (sp : Sp) (gV : List V → List V → List V) (Q : VK) : List V → Hp → Prop := fun vs H2 => vs.length + 1 = n ∧ sp (gV (.ref C :: vs) []) H2 Q E0
def CkV (C : Addr) (m : Nat) (sp : Sp) (gV : List V → List V → List V) (Q : VK) : List V → Hp → Prop := fun zs H2 => zs.length = m ∧ sp (gV [.ref C] zs) H2 Q E0
theorem go_cma (q : to σ H (CmR C n sp gV t σ Q)) : tCmA C n sp gV to t σ H Q := q
theorem go_cmk (q : to σ H (CkR C m sp gV tk σ Q)) : tCmK C m sp gV to tk σ H Q := q
theorem go_cmr (q : t σ H (CmV C n sp gV Q)) : CmR C n sp gV t σ Q (.ref C) H := ⟨rfl, q⟩
theorem go_ckr (q : tk σ H (CkV C m sp gV Q)) : CkR C m sp gV tk σ Q (.ref C) H := ⟨rfl, q⟩
theorem go_cmv (hl : vs.length + 1 = n) (e : gV (.ref C :: vs) [] = us) (q : sp us H Q E0) : CmV C n sp gV Q vs H := ⟨hl, by rw [e]; exact q⟩
theorem go_ckv (hl : zs.length = m) (e : gV [.ref C] zs = us) (q : sp us H Q E0) : CkV C m sp gV Q zs H := ⟨hl, by rw [e]; exact q⟩
end
end Mv
set_option Elab.async false
set_option maxRecDepth 100000
set_option maxHeartbeats 4000000
/-! Comprehensions of new lists; what is shown. -/
namespace Mv
open PySem PySem.Spec PyProof.Rows L2
/-- new lists since H, none of them twice, none at D; of data without lists -/
structure NewLs (K : PySem.W.Frag) (H H' : Hp) (D : Addr) (ys : List V) (es : List (List PyData)) : Prop where
  ex : ∃ qs : List Addr, ys = qs.map V.ref ∧ qs.Nodup ∧ D ∉ qs ∧ qs.length = es.length ∧ ∀ (i : Nat) q e, qs[i]? = some q → es[i]? = some e → H q = none ∧ NLs e = true ∧ ∃ zs, H' q = some (.lst zs) ∧ DpAll K H' zs e
section
variable {K : PySem.W.Frag} {σ : L2.St} {H H' : Hp} {Q : VK} {vs : List Nat} {te : TE} {g : TG} {a D : Addr} {ys : List V} {es : List (List PyData)}
theorem NewLs.dp (h : NewLs K H H' D ys es) : DpAll K H' ys (es.map PyData.list) := by
  obtain ⟨qs, rfl, h1, h2, hl, hq⟩ := h.ex
  clear h h1 h2
  induction qs generalizing es with
  | nil =>
    cases es with
    | nil => exact .nil
    | cons _ _ => cases hl
  | cons q qs ih =>
    cases es with
    | nil => cases hl
    | cons e es =>
      obtain ⟨_, _, zs, ez, hz⟩ := hq 0 q e rfl rfl
      exact .cons (.lst (SqL.of ez) hz) (ih (Nat.succ.inj hl) fun i q' e' h1 h2 => hq (i + 1) q' e' (by simpa using h1) (by simpa using h2))
theorem lcNews {J : It} {k : Nat} {G : Hp → Prop} {Y : Nat → Hp → V → Hp → Prop} (w : Walk J k G Y) (f : Nat → List PyData) (hz : k ≤ 100000) (hl : ∀ i, i < k → NLs (f i) = true) (hG : ∀ H', Same H H' → G H')
    (hs : ∀ (i : Nat) (x : V) (H1 H2 : Hp) (Q' : VK), i < k → Same H H1 → Y i H1 x H2 → (∀ q zs H4, H1 q = none → Same H1 H4 → H4 q = some (.lst zs) → DpAll K H4 zs (f i) → Q' (.ref q) H4) → g x (wipe σ vs) H2 fun σ2 H3 => wipe σ2 vs = wipe σ vs ∧ te σ2 H3 Q')
    (hd : ∀ D H' ys, H D = none → Same H H' → H' D = some (.lst ys) → NewLs K H H' D ys ((List.range k).map f) → Q (.ref D) H') (hg : ∀ x σ' H' (P Q : L2.St → Hp → Prop), (∀ σ2 H2, P σ2 H2 → Q σ2 H2) → g x σ' H' P → g x σ' H' Q) : LcR g tYes te vs σ Q J H := by
  intro D hD
  refine lc_it w (fun i H' => i ≤ k ∧ Same H H' ∧ ∃ qs : List Addr, H' D = some (.lst (qs.map V.ref)) ∧ qs.length = i ∧ qs.Nodup ∧ D ∉ qs ∧ ∀ (j : Nat) q, qs[j]? = some q → H q = none ∧ ∃ zs, H' q = some (.lst zs) ∧ DpAll K H' zs (f j)) ⟨Nat.zero_le _, same_new hD, [], upd_same, rfl, List.nodup_nil, List.not_mem_nil, fun j q h => by simp at h⟩ (fun i H' _ h => hG H' h.2.1) ?_ ?_
  · rintro i x H1 H2 hi ⟨_, s, qs, ed, hlen, nd, nD, ha⟩ hy
    refine hg x _ H2 _ _ (fun σ2 H2 h => ⟨h.1, h.2⟩) (hs i x H1 H2 (fun y H4 => ∃ acc, H4 D = some (.lst acc) ∧ acc.length < sizeLine ∧ i + 1 ≤ k ∧ Same H (upd H4 D (.lst (acc ++ [y]))) ∧ ∃ qs : List Addr, upd H4 D (.lst (acc ++ [y])) D = some (.lst (qs.map V.ref)) ∧ qs.length = i + 1 ∧ qs.Nodup ∧ D ∉ qs ∧ ∀ (j : Nat) q, qs[j]? = some q → H q = none ∧ ∃ zs, upd H4 D (.lst (acc ++ [y])) q = some (.lst zs) ∧ DpAll K (upd H4 D (.lst (acc ++ [y]))) zs (f j)) hi s hy fun q zs H4 nq s4 eq hq => ?_)
    have e4 := s4 _ _ ed
    have hqD : q ≠ D := fun z => by rw [z, ed] at nq; cases nq
    have hqs : q ∉ qs := fun z => by
      obtain ⟨j, hj⟩ := List.getElem?_of_mem z
      obtain ⟨_, zs', e', _⟩ := ha j q hj
      rw [e'] at nq
      cases nq
    refine ⟨qs.map V.ref, e4, ?_, hi, same_over (s.trans s4) hD, qs ++ [q], by rw [upd_same, List.map_append]; rfl, by simp [hlen], ?_, ?_, fun j q' hj => ?_⟩
    · rw [List.length_map, hlen]; unfold sizeLine; omega
    · rw [List.nodup_append]
      exact ⟨nd, by simp, fun x hx y hy => by
        obtain rfl : y = q := by simpa using hy
        exact fun z => hqs (z ▸ hx)⟩
    · rw [List.mem_append]
      rintro (h | h)
      · exact nD h
      · have : D = q := by simpa using h
        exact hqD this.symm
    · have bs : Bu D H4 (upd H4 D (.lst (qs.map V.ref ++ [V.ref q]))) := Bu.set
      rcases Nat.lt_trichotomy j qs.length with c | c | c
      · rw [List.getElem?_append_left c] at hj
        obtain ⟨n', zs', e', d'⟩ := ha j q' hj
        refine ⟨n', zs', bs _ _ (fun z => nD (z ▸ List.mem_of_getElem? hj)) (s4 _ _ e'), (d'.up s4).bu (hl j (by omega)) bs e4⟩
      · subst c
        rw [List.getElem?_append_right (Nat.le_refl _), Nat.sub_self] at hj
        obtain rfl := Option.some.inj hj
        refine ⟨s.free nq, zs, bs _ _ hqD eq, ?_⟩
        rw [hlen]
        exact hq.bu (hl i hi) bs e4
      · rw [List.getElem?_eq_none (by simp; omega)] at hj
        cases hj
  · rintro H1 ⟨_, s, qs, ed, hlen, nd, nD, ha⟩
    refine hd D H1 _ hD s ed ⟨qs, rfl, nd, nD, by simp [hlen], fun i q e h1 h2 => ?_⟩
    have hi : i < k := by
      rw [← hlen]
      exact (List.getElem?_eq_some_iff.mp h1).1
    rw [List.getElem?_map, List.getElem?_range hi] at h2
    obtain rfl := Option.some.inj h2
    obtain ⟨n', zs', e', d'⟩ := ha i q h1
    exact ⟨n', hl i hi, zs', e', d'⟩
/-! what is shown -/
/-- data that repr can show -/
def Shw (d : PyData) : Prop := d.showable = true ∧ d.hasDict = false ∧ d.depth ≤ 60 ∧ d.shown.length ≤ sizeLine
theorem go_repr {v : V} {d : PyData} (h : Dp K H v d) (hs : Shw d) (hr : ∃ b, v = .ref b) (q : Q (.str d.shown) H) : rReprD K [v] H Q := by
  obtain ⟨b, rfl⟩ := hr
  exact go_reprD h hs q
end
/-- an own slot whose def needs that no repr runs -/
structure Op2G (P : Program) (w : World) (K : PySem.W.Frag) (mg : Str → Option Value) (base : Heap) (k : Nat) (C : Addr) (m : Str) (ps : List Str) (sp : Sp) : Prop where
  ex : ∃ (g : Addr) (fd : FuncData), FnG P w K mg base k g fd ps sp ∧ Binds K fd ps [] ∧ PySem.W.findIn K (.ref C) m = some (some (.ref g)) ∧ PySem.W.isFn K (.ref g) = true
section
variable {X : Cx} {k j : Nat} {C : Addr} {sp : Sp} {ps : List Str} {K : PySem.W.Frag}
theorem run_atg {A : Around} {pins : List (Addr × Obj)} {σ : L2.St} {H : Hp} {s : Shared} {Q : VK} {us : List Value} {vs : List V} {E' : Value → Shared → Prop} {g : Addr} {fd : FuncData} (F : FnG X.prog X.w X.K X.mg X.base k g fd ps sp) (hr : Room k A) (ga : GA A) (hf : A.frames = some X.stack) (hb : Binds X.K fd ps [])
    (I : Inv X pins σ H s) (r : Vals vs us) (h : sp vs H Q E0) : wpAny (model X.prog X.w) A (call (.ref g) us) (EP X pins σ Q) E' s := by
  have hl : (us ++ []).length = ps.length := by rw [List.append_nil, ← r.length]; exact F.len _ _ _ _ h
  have b := hb s us I.kIn hl
  rw [List.append_nil] at b
  have e0 := I.env0
  refine wpAny_call (codeAny_mono (F.run A X.stack s H ⟨us, []⟩ us vs Q E0 hr ga ⟨hf, e0.mod, e0.bs, e0.bsz, e0.funs, e0.frf, e0.hok, e0.bare⟩ b r h) fun r s' hq => ?_)
  cases r with
  | error e => exact False.elim hq
  | ok fl =>
    cases fl with
    | ret u => exact I.after hq
    | next => exact False.elim hq
    | brk => exact False.elim hq
    | cont => exact False.elim hq
theorem call_reprG (c : Op2G X.prog X.w X.K X.mg X.base k C "__repr__" ps sp) (hr : Room (k + 1) X.A) (ga : GA X.A) : CallR X (.builtin "repr") (rReprO C sp) := by
  obtain ⟨g, fd, F, hb, hs, hf⟩ := c.ex
  intro pins s σ H xs us Q I r h
  obtain ⟨a, dx, fs, rfl, ea, q⟩ := h
  obtain ⟨u, rfl, ru⟩ := vals1 r
  obtain rfl : u = Value.ref a := ru
  obtain ⟨mA, O, _⟩ := ins_get I.hok ea
  obtain ⟨od, J, _⟩ := O.look
  obtain ⟨m, hF⟩ := I.fr
  refine PySem.W.repr_K (by have := hr.units; show X.A.units + 1 < cLine; omega) hF I.ok.mod.kin J hs hf ?_
  refine wpAny_mono (run_atg (vs := [.ref a]) F hr.in1 (ga_in1 ga) I.ok.frames hb I (.cons rfl .nil) q) (fun w s' z => ?_) fun _ _ x => x
  obtain ⟨z', H', I', rz, y, rfl, qz⟩ := z
  obtain ⟨tk, rfl⟩ := rz
  exact ⟨.str y, H', I', ⟨_, rfl⟩, qz⟩
theorem call_reprG' {P : Program} {w : World} {mg : Str → Option Value} {base : Heap} (c : Op2G P w K mg base k C "__repr__" ps sp) (hr : Room j X.A) (ga : GA X.A) (hk : k + 1 ≤ j) (e : Over X P w K mg base := by exact ⟨rfl, rfl, rfl, rfl, rfl⟩) : CallR X (.builtin "repr") (rReprO C sp) := by
  obtain ⟨rfl, rfl, rfl, rfl, rfl⟩ := e
  exact call_reprG c (hr.mono hk) ga
/-- sep.join(xs) -/
def rJn (K : PySem.W.Frag) : V → List V → Hp → VK → Prop := fun x xs H Q => ∃ a p, ∃ ys : List Str, x = .str a ∧ xs = [.ref p] ∧ (SqL K H p (ys.map V.str) ∨ SqT K H p (ys.map V.str)) ∧ (ys.map (·.length)).sum + ys.length * a.length ≤ 16777216 ∧ Q (.str (Txt.join a ys)) H
theorem pe_join' {o e : Expr} {to te : TE} {apos pos : Pos} (ho : PE X o to) (he : PE X e te) (eK : X.K = K := by (conv => lhs; whnf)) (hs : starEach [e] X.env = [(false, eval e X.env)] := by rfl) (hbase : attributeBase o "join" X.env (eval o X.env) = eval o X.env := by rfl) (hline : (apos.endLine == pos.line) = true := by rfl) : PE X (.Call (.Attribute o "join" apos) [e] [] pos) (tM1 (rJn K) to te) := by
  subst eK
  exact pe_join ho he hs hbase hline
end
end Mv
set_option Elab.async false
set_option maxRecDepth 100000
set_option maxHeartbeats 4000000
/-! repr of lists and tuples in which own instances lie. -/
namespace Mv
open PySem PySem.Spec PyProof.Rows L2
/-- an own instance, or a list or tuple with one in it -/
inductive Mx (K : PySem.W.Frag) (H : Hp) : V → Prop
  | own {a C dx : Addr} {fs : List (Str × V)} : H a = some (.ins C dx fs) → Mx K H (.ref a)
  | lst {a : Addr} {xs : List V} {x : V} : SqL K H a xs → x ∈ xs → Mx K H x → Mx K H (.ref a)
  | tup {a : Addr} {xs : List V} {x : V} : SqT K H a xs → x ∈ xs → Mx K H x → Mx K H (.ref a)
theorem Mx.same {K : PySem.W.Frag} {H H' : Hp} {v : V} (s : Same H H') (h : Mx K H v) : Mx K H' v := by
  induction h with
  | own e => exact .own (s _ _ e)
  | lst e m _ ih => exact .lst (s.seq e) m ih
  | tup e m _ ih => exact .tup (Same.tup s e) m ih
section
variable {X : Cx} {pins : List (Addr × Obj)} {σ : L2.St} {H : Hp} {s : Shared}
theorem item_of {xs : List V} {its : List Value} {x : V} (r : Vals xs its) (m : x ∈ xs) : ∃ u, u ∈ its ∧ RelV x u := by
  obtain ⟨i, hi⟩ := List.mem_iff_getElem?.mp m
  obtain ⟨u, hu, ru⟩ := r.get hi
  exact ⟨u, List.mem_of_getElem? hu, ru⟩
theorem reads_item {h : Heap} {u : Value} : ∀ {vs : List Value} {ds : List PyData} {as : List Addr}, ReadsAll h vs ds as → u ∈ vs → ∃ d bs, Reads h u d bs
  | _, _, _, .nil, m => by cases m
  | _, _, _, .cons h1 h2, m => by
    rcases List.mem_cons.mp m with rfl | m
    · exact ⟨_, _, h1⟩
    · exact reads_item h2 m
/-- it is no plain data -/
theorem Mx.no (I : Inv X pins σ H s) {v : V} (h : Mx X.K H v) : ∀ {u : Value} {d : PyData} {as : List Addr}, RelV v u → Reads s.heap u d as → False := by
  induction h with
  | own e =>
    intro u d as r rd
    obtain rfl := r
    obtain ⟨_, _, _, eo, _⟩ := I.hok _ _ e
    cases rd with
    | list h1 h2 _ _ => rw [h1] at eo; cases eo; cases h2
    | tuple h1 h2 _ _ => rw [h1] at eo; cases eo; cases h2
    | dict h1 h2 _ _ _ => rw [h1] at eo; cases eo; cases h2
  | lst e m _ ih =>
    intro u d as r rd
    obtain rfl := r
    obtain ⟨its, rv, ⟨o, n, ho, hc, _, hd⟩, _⟩ := I.list e
    obtain ⟨y, my, ry⟩ := item_of rv m
    cases rd with
    | list h1 h2 h3 h4 =>
      rw [h1] at ho
      cases ho
      rw [h3] at hd
      cases hd
      obtain ⟨_, _, r2⟩ := reads_item h4 my
      exact ih ry r2
    | tuple h1 h2 h3 h4 => rw [h1] at ho; cases ho; exact absurd (h2.symm.trans hc) (by decide)
    | dict h1 h2 h3 h4 h5 => rw [h1] at ho; cases ho; rw [hd] at h3; cases h3
  | tup e m _ ih =>
    intro u d as r rd
    obtain rfl := r
    obtain ⟨its, rv, ⟨o, ho, hc, n, hd⟩, _⟩ := I.tuple e
    obtain ⟨y, my, ry⟩ := item_of rv m
    cases rd with
    | list h1 h2 h3 h4 => rw [h1] at ho; cases ho; exact absurd (h2.symm.trans hc) (by decide)
    | tuple h1 h2 h3 h4 =>
      rw [h1] at ho
      cases ho
      rw [h3] at hd
      cases hd
      obtain ⟨_, _, r2⟩ := reads_item h4 my
      exact ih ry r2
    | dict h1 h2 h3 h4 h5 => rw [h1] at ho; cases ho; rw [hd] at h3; cases h3
end
/-! what repr tells of a value inside of others -/
/-- the reprs under way are of no plain data -/
def GOk (K : PySem.W.Frag) (H : Hp) (g : List Code) : Prop := ∀ (id : String) (v : Value) (rest : List Value) (kw : List (Str × Value)), Code.builtin id ⟨v :: rest, kw⟩ ∈ g → ∃ b, v = .ref b ∧ Mx K H (.ref b)
theorem GOk.same {K : PySem.W.Frag} {H H' : Hp} {g : List Code} (s : Same H H') (h : GOk K H g) : GOk K H' g := fun id v rest kw m => by
  obtain ⟨b, e, x⟩ := h id v rest kw m
  exact ⟨b, e, x.same s⟩
theorem GOk.cons {K : PySem.W.Frag} {H : Hp} {g : List Code} {a : Addr} {id : String} {rest : List Value} {kw : List (Str × Value)} (h : GOk K H g) (m : Mx K H (.ref a)) : GOk K H (.builtin id ⟨.ref a :: rest, kw⟩ :: g) := fun id' v rest' kw' hm => by
  rcases List.mem_cons.mp hm with e | hm
  · cases e
    exact ⟨a, rfl, m⟩
  · exact h _ _ _ _ hm
/-- inside of other reprs the value is shown as this text, and all that is known stays -/
def Rp (X : Cx) (as : List Addr) (k : Nat) (H0 : Hp) (v : V) (t : Str) : Prop :=
  ∀ (z : Nat), z + t.length ≤ sizeLine → ∀ (A : Around) (g : List Code) (pins : List (Addr × Obj)) (σ : L2.St) (H : Hp) (s : Shared) (u : Value) (E : Value → Shared → Prop) (Q : Str → Shared → Prop),
    A.frames = some X.stack → A.guards = some g → GOk X.K H g → (∀ b ∈ as, Clear g b) → Room k A → Inv X pins σ H s → Same H0 H → RelV v u →
    (∀ H' s', Inv X pins σ H' s' → Same H H' → Q t s') → wpAny (model X.prog X.w) A (pyReprUnder z u) Q E s
section
variable {X : Cx} {as : List Addr} {k : Nat} {H0 : Hp}
theorem Rp.up {H1 : Hp} {v : V} {t : Str} (h : Rp X as k H0 v t) (s : Same H0 H1) : Rp X as k H1 v t := fun z hz A g pins σ H s' u E Q h1 h2 h3 h4 h5 h6 h7 h8 h9 => h z hz A g pins σ H s' u E Q h1 h2 h3 h4 h5 h6 (s.trans h7) h8 h9
theorem Rp.more {v : V} {t : Str} {bs : List Addr} {j : Nat} (h : Rp X as k H0 v t) (sub : ∀ b ∈ as, b ∈ bs) (hk : k ≤ j) : Rp X bs j H0 v t := fun z hz A g pins σ H s' u E Q h1 h2 h3 h4 h5 h6 h7 h8 h9 => h z hz A g pins σ H s' u E Q h1 h2 h3 (fun b m => h4 b (sub b m)) (h5.mono hk) h6 h7 h8 h9
/-- plain data -/
theorem Rp.dat {v : V} {d : PyData} (hd : Dp X.K H0 v d) (hs : Shw d) : Rp X [] k H0 v d.shown := fun z hz A g pins σ H s u E Q _ hg go _ hr I sm r q => by
  obtain ⟨s1, s2, s3, s4⟩ := hs
  obtain ⟨as, rd⟩ := (hd.up sm).reads I d v u r
  obtain ⟨bs, hb, hk⟩ := ReprK.of_reads (prog := X.prog) (w := X.w) rd s1 (fun y => absurd y (by rw [s2]; simp)) s4
  refine hk z hz A g E s Q hg (fun b mb id w rest kw m e => ?_) (by have := hr.un; omega) (fun _ _ e => e) fun h' tk kp => q H _ (I.kept kp) (fun _ _ e => e)
  obtain ⟨c, e2, mx⟩ := go id w rest kw m
  rw [e2] at e
  cases e
  obtain ⟨d', as', r', _⟩ := hb _ mb
  exact mx.no I rfl r'
/-- the own method is asked, as inside of another repr -/
theorem own_under {P : Program} {w : World} {K : PySem.W.Frag} {A : Around} {E : Value → Shared → Prop} {s : Shared} {x C : Addr} {ox : Obj} {od : Option Obj} {f : Addr} {z : Nat} {Q : Value → Shared → Prop} (ki : K.In s.heap) (hu : A.units < cLine) (J : PySem.W.InstAt s.heap x ox C od) (hs : PySem.W.findIn K (.ref C) "__repr__" = some (some (.ref f))) (hf : PySem.W.isFn K (.ref f) = true)
    (h : wpAny (model P w) A (call (.ref f) [.ref x]) (fun v s' => ∃ y t, v = .str y t ∧ Q v s') E s) : wpAny (model P w) A (pyReprObjUnder z (.ref x)) Q E s := by
  unfold pyReprObjUnder pyReprObjBy
  refine wpAny_bind (wpAny_cRoomFor hu (wpAny_bind (wpAny_bind (J.type.here ((PySem.W.looks_findIn ki hs).here ?_)))))
  show wpAny _ _ (if (some (Value.ref f)).isNone = true then _ else _) _ _ _
  rw [if_neg (by simp)]
  have fin : ∀ (R : Option Value → Shared → Prop), (∀ v s', (∃ y t, v = .str y t ∧ Q v s') → R (some v) s') → wpAny (model P w) A (call (.ref f) ([.ref x] ++ []) >>= fun v => pure (some v)) R E s := fun R hR =>
    wpAny_bind (wpAny_mono h (fun v s' y => wpAny_pure (hR v s' y)) fun _ _ y => y)
  refine wpAny_bind ?_
  simp only [callSpecialIfBoundBy?, bindSpecialIfBound?]
  refine wpAny_holding (wpAny_bind (wpAny_bind (wpAny_bind (J.type.here ((PySem.W.looks_findIn ki hs).here ?_)))))
  refine wpAny_bind (wpAny_askSetting (wpAny_ite ?_))
  split
  · refine wpAny_bind ((PySem.W.bind_fn ki _ (beq_iff_eq.mp hf)).here (wpAny_pure ?_))
    refine fin _ fun v s' y => ?_
    obtain ⟨y, t, rfl, q⟩ := y
    exact wpAny_bind (wpAny_isInstance (T := "str") (b := true) rfl isSubtype_str_str (wpAny_pure q))
  · refine wpAny_tryCatch (wpAny_bind ((PySem.W.bind_fn ki _ (beq_iff_eq.mp hf)).here (wpAny_pure ?_)))
    refine fin _ fun v s' y => ?_
    obtain ⟨y, t, rfl, q⟩ := y
    exact wpAny_bind (wpAny_isInstance (T := "str") (b := true) rfl isSubtype_str_str (wpAny_pure q))
/-- an own instance -/
theorem Rp.own {a dx C : Addr} {fs : List (Str × V)} {sp : Sp} {t : Str} (c : Op2 X.prog X.w X.K X.mg X.base k C "__repr__" sp) (ea : H0 a = some (.ins C dx fs)) (hsp : ∀ (H : Hp) (Q : VK), Same H0 H → (∀ H', Same H H' → Q (.str t) H') → sp [.ref a] H Q E0) : Rp X [] k H0 (.ref a) t := fun z hz A g pins σ H s u E Q hf _ _ _ hr I sm r q => by
  obtain ⟨gd, fd, ps, F, hb, hs, hfn⟩ := c.ex
  obtain rfl : u = Value.ref a := r
  have ea' := sm _ _ ea
  obtain ⟨mA, O, _⟩ := ins_get I.hok ea'
  obtain ⟨od, J, _⟩ := O.look
  refine wpAny_pyReprUnder_ref (by omega) (own_under I.kIn hr.units0 J hs hfn ?_)
  refine wpAny_mono (run_at (Q := fun v H' => v = .str t ∧ Same H H') (vs := [.ref a]) F hr hf hb I (.cons rfl .nil) (hsp H _ sm fun H' s' => ⟨rfl, s'⟩)) (fun v s' y => ?_) fun _ _ y => y
  obtain ⟨z', H', I', rz, rfl, s2⟩ := y
  obtain ⟨tk, rfl⟩ := rz
  exact ⟨t, tk, rfl, t, tk, rfl, q H' s' I' s2⟩
/-- room under a repr that is under way -/
structure Gd (c : Code) : Prop where
  fr : ∀ A : Around, (A.under c).frames = A.frames
  hd : ∀ A : Around, (A.under c).handled = A.handled
  dp : ∀ A : Around, (A.under c).depth = A.depth + 1
  un : ∀ A : Around, (A.under c).units = A.units + 1
  gd : c.isGuard = true
theorem Gd.room {c : Code} (h : Gd c) {A : Around} (r : Room (k + 1) A) : Room k (A.under c) := ⟨by rw [h.hd]; exact r.hd, by have := r.dp; rw [h.dp]; omega, by have := r.un; rw [h.un]; omega⟩
theorem gd_list (args : Args) : Gd (.builtin "list.__repr__.loop" args) := by
  refine ⟨fun A => ?_, fun A => ?_, fun A => ?_, fun A => ?_, isGuard_list_loop args⟩ <;> first | rfl | simp [Around.under, Code.weight, Code.isCreation, Code.isGuard, Code.isCaller, Code.frames, Code.isFrame, guardIds, Code.cUnits, Code.envs, pushEnvs]
theorem gd_tup (args : Args) : Gd (.builtin "tuple.__repr__" args) := by
  refine ⟨fun A => ?_, fun A => ?_, fun A => ?_, fun A => ?_, isGuard_tuple_repr args⟩ <;> first | rfl | simp [Around.under, Code.weight, Code.isCreation, Code.isGuard, Code.isCaller, Code.frames, Code.isFrame, guardIds, Code.cUnits, Code.envs, pushEnvs]
theorem gd_tupU (args : Args) : Gd (.builtin "tuple.__repr__.under" args) := by
  refine ⟨fun A => ?_, fun A => ?_, fun A => ?_, fun A => ?_, isGuard_tuple_repr_under args⟩ <;> first | rfl | simp [Around.under, Code.weight, Code.isCreation, Code.isGuard, Code.isCaller, Code.frames, Code.isFrame, guardIds, Code.cUnits, Code.envs, pushEnvs]
theorem strs_of : ∀ {ts : List Str} {its : List Value}, Vals (ts.map V.str) its → ∃ l : List (Str × Tok), its = strValues l ∧ l.map (·.1) = ts
  | [], _, h => by
    cases h
    exact ⟨[], rfl, rfl⟩
  | t :: ts, _, h => by
    cases h with
    | cons r h =>
      obtain ⟨k, rfl⟩ := r
      obtain ⟨l, rfl, e⟩ := strs_of h
      exact ⟨(t, k) :: l, rfl, by rw [List.map_cons, e]⟩
/-- the loop of a list's repr -/
theorem loop_rp {a L : Addr} {xs : List V} {ts : List Str} {z : Nat} {A : Around} {g : List Code} {pins : List (Addr × Obj)} {σ : L2.St} {H1 : Hp} {R : Result → Shared → Prop} (hf : A.frames = some X.stack) (hg : A.guards = some g) (hcl : ∀ b ∈ as, Clear g b) (hr : Room (k + 1) A) (na : a ∉ as) (hl : ts.length = xs.length)
    (hT : ∀ (i : Nat) (x : V), xs[i]? = some x → ∃ t, ts[i]? = some t ∧ Rp X as k H0 x t) (hz : z + (listText ts).length ≤ sizeLine) (s01 : Same H0 H1) (hL : H1 L = none) (hs : SqL X.K H1 a xs) (mx : Mx X.K H1 (.ref a)) (go : GOk X.K H1 g)
    (hR : ∀ H' s' u, Inv X pins σ H' s' → Same H1 H' → R (.ok (.ret (.str (listText ts) u))) s') : ∀ (n i : Nat) (s : Shared) (H : Hp), xs.length - i = n → i ≤ xs.length → Inv X pins σ H s → Same H1 H → H L = some (.lst ((ts.take i).map V.str)) →
    codeAny (model X.prog X.w) A (.builtin "list.__repr__.loop" ⟨[.ref a, rawInt i, .ref L, rawInt ((z + piled (ts.take i) : Nat) : Int)], []⟩) R s := by
  have tl : (listText ts).length = (textFrom 0 "[" ts).length + 1 := by
    unfold listText
    rw [strLen_append]
    rfl
  obtain ⟨l1, l2, _⟩ := textFrom_len ts 0 "["
  have l4 := piled_le_listText ts
  have szt : ∀ t ∈ ts, t.length ≤ sizeLine := fun t ht => by
    have := l2 t ht
    omega
  have sz1 : xs.length ≤ sizeLine := by
    rw [if_neg (Nat.lt_irrefl 0)] at l1
    omega
  intro n
  induction n with
  | zero =>
    intro i s H hn hi I sm eL
    have ei : i = ts.length := by omega
    obtain ⟨its, rv, ⟨o, m, ho, hc, _, hd⟩, _⟩ := I.list (sm.seq hs)
    obtain ⟨_, itl, m2, rl, ll, el⟩ := I.lstM eL
    rw [ei, List.take_length] at rl
    obtain ⟨l, rfl, e2⟩ := strs_of rl
    refine codeAny_builtin F.entry_list_repr_loop ?_
    show wpAny _ _ (Builtin.«list.__repr__.loop» ⟨[.ref a, .int i 0, .ref L, .int ((z + piled (ts.take i) : Nat) : Int) 0], []⟩) _ _ s
    rw [repr_loop_tree]
    refine wpAny_bind (wpAny_listItems ho hd ?_)
    have e0 : its.toArray[(i : Int).toNat]? = none := by
      have := rv.length
      simp
      omega
    simp only [e0]
    unfold reprEnd
    refine wpAny_bind (wpAny_listItems el rfl ?_)
    show wpAny _ _ (forIn ((strValues l).zipIdx) ("[" : Str) reprBody >>= _) _ _ _
    rw [repr_fold, e2]
    exact wpAny_bind (wpAny_pure (wpAny_bind (wpAny_mkStr (wpAny_pure (hR H _ _ (I.tok _) sm)) (show (listText ts).length ≤ sizeLine by omega))))
  | succ n ih =>
    intro i s H hn hi I sm eL
    have lt : i < xs.length := by omega
    obtain ⟨t, ht, hx⟩ := hT i xs[i] (List.getElem?_eq_getElem lt)
    obtain ⟨its, rv, ⟨o, m, ho, hc, _, hd⟩, _⟩ := I.list (sm.seq hs)
    obtain ⟨u, hu, ru⟩ := rv.get (List.getElem?_eq_getElem lt)
    have p1 := piled_take_succ ht
    have p2 := piled_take_le ts (i + 1)
    refine codeAny_builtin F.entry_list_repr_loop ?_
    show wpAny _ _ (Builtin.«list.__repr__.loop» ⟨[.ref a, .int i 0, .ref L, .int ((z + piled (ts.take i) : Nat) : Int) 0], []⟩) _ _ s
    rw [repr_loop_tree]
    refine wpAny_bind (wpAny_listItems ho hd ?_)
    have e0 : its.toArray[(i : Int).toNat]? = some u := by simpa using hu
    simp only [e0]
    rw [Int.toNat_natCast]
    have G := gd_list ⟨[.ref a, rawInt i, .ref L, rawInt ((z + piled (ts.take i) : Nat) : Int)], []⟩
    refine wpAny_bind (wpAny_holding (hx (z + piled (ts.take i) + 1) (by omega) _ _ pins σ H s u _ _ (by rw [G.fr]; exact hf) (guards_under_guard G.gd hg) ((go.same sm).cons (mx.same sm)) (fun b mb => (hcl b mb).cons fun e => na (e ▸ mb)) (G.room hr) I (s01.trans sm) ru fun H2 s2 I2 s12 => ?_))
    refine wpAny_bind (wpAny_mkStr ?_ (szt t (List.mem_of_getElem? ht)))
    have e2 := s12 _ _ eL
    obtain ⟨zl, itl, m2, rl, ll, el⟩ := I2.lstM e2
    refine wpAny_bind ?_
    show wpAny _ _ (updateSeq L _) _ _ _
    refine wpAny_updateSeq (s := { s2 with toks := s2.toks + 1 }) el rfl (wpAny_pure ⟨F.quiet_list_repr_loop _, ?_⟩) (by rw [List.size_toArray, ← ll]; exact zl)
    have e3 : (ts.take i).map V.str ++ [V.str t] = (ts.take (i + 1)).map V.str := by rw [List.take_add_one, ht, List.map_append]; rfl
    have I3 := I2.lset (ys := (ts.take (i + 1)).map V.str) (f := fun q => q.push (.str t s2.toks)) (t' := s2.toks + 1) e2 el (its' := itl ++ [.str t s2.toks]) (by simp) (by rw [← e3]; exact rl.append (.cons ⟨_, rfl⟩ .nil)) (by rw [List.length_map, List.length_take]; omega)
    have h4 : ((i : Int) + 1) = ((i + 1 : Nat) : Int) := by omega
    have h5 : z + piled (ts.take i) + (t.length + 2) = z + piled (ts.take (i + 1)) := by omega
    rw [h4, h5]
    exact ih (i + 1) _ _ (by omega) lt I3 (same_over (sm.trans s12) hL) upd_same
/-- what is asked of a list with own instances in it -/
structure LsRp (X : Cx) (as : List Addr) (k : Nat) (H0 : Hp) (a : Addr) (ts : List Str) : Prop where
  ex : ∃ xs : List V, xs ≠ [] ∧ SqL X.K H0 a xs ∧ (∃ x ∈ xs, Mx X.K H0 x) ∧ ts.length = xs.length ∧ ∀ (i : Nat) (x : V), xs[i]? = some x → ∃ t, ts[i]? = some t ∧ Rp X as k H0 x t
  na : a ∉ as
theorem at_list {a : Addr} {ts : List Str} {z : Nat} {A : Around} {g : List Code} {pins : List (Addr × Obj)} {σ : L2.St} {H : Hp} {s : Shared} {E : Value → Shared → Prop} {Q : Value → Shared → Prop} (h : LsRp X as k H0 a ts) (hz : z + (listText ts).length ≤ sizeLine) (hf : A.frames = some X.stack) (hg : A.guards = some g) (go : GOk X.K H g) (hcl : ∀ b ∈ a :: as, Clear g b) (hr : Room (k + 1) A) (I : Inv X pins σ H s) (sm : Same H0 H)
    (q : ∀ H' s' u, Inv X pins σ H' s' → Same H H' → Q (.str (listText ts) u) s') : wpAny (model X.prog X.w) A.in1 (Builtin.listReprAt z ⟨[.ref a], []⟩) (fun fin s' => match fin with | .done f => callEnd Q E (.ok f) s' | .again c' => c'.quiet = true ∧ codeAny (model X.prog X.w) A c' (callEnd Q E) s') (fun e s' => callEnd Q E (.error e) s') s := by
  obtain ⟨xs, hne, hs, ⟨x, mx, hx⟩, hl, hT⟩ := h.ex
  obtain ⟨its, rv, ⟨o, m, ho, hc, _, hd⟩, _⟩ := I.list (sm.seq hs)
  have hca := hcl a (List.mem_cons_self ..)
  cases its with
  | nil =>
    cases rv
    exact absurd rfl hne
  | cons y l =>
    refine wpAny_list_repr_head (A := A.in1) hg (fun v rest kw m => listSameRef_of_ne (hca _ _ _ _ m)) ho hd ?_
    refine wpAny_bind (m := newList []) (wpAny_newObj_type (wpAny_pure ⟨F.quiet_list_repr_loop _, ?_⟩))
    have hL : H s.heap.objs.size = none := I.hok.fresh (Nat.le_refl _)
    refine loop_rp (L := s.heap.objs.size) (pins := pins) (σ := σ) (H1 := H) hf hg (fun b mb => hcl b (List.mem_cons_of_mem _ mb)) hr h.na hl hT hz sm hL (sm.seq hs) (.lst (sm.seq hs) mx (hx.same sm)) go (fun H' s' u I' s2 => q H' s' u I' s2) _ 0 _ (upd H s.heap.objs.size (.lst [])) rfl (Nat.zero_le _) ?_ (same_new hL) upd_same
    exact I.laid (t' := s.toks) (fun b u e => Heap.get?_push_of_some _ e) (Nat.le_refl _) ⟨Nat.zero_le _, [], _, .nil, Heap.get?_push_size _ rfl⟩
theorem Rp.lst {a : Addr} {ts : List Str} (h : LsRp X as k H0 a ts) : Rp X (a :: as) (k + 1) H0 (.ref a) (listText ts) := fun z hz A g pins σ H s u E Q hf hg go hcl hr I sm r q => by
  obtain rfl : u = Value.ref a := r
  obtain ⟨xs, _, hs, _⟩ := h.ex
  obtain ⟨its, rv, ⟨o, m, ho, hc, _, hd⟩, _⟩ := I.list (sm.seq hs)
  refine wpAny_pyReprUnder_ref (by omega) (wpAny_pyReprObjUnder_twin (twin := "list.__repr__.under") ⟨o, ho, hc⟩ F.slot_list_repr.toG rfl hr.units0 ?_)
  exact call_twin_plain F.plain_list_repr_under F.entry_list_repr_under F.check_list_repr_under ⟨o, ho, hc⟩ F.slot_list_repr.toG (F.args_list_repr_1 _) (at_list h hz hf hg go hcl hr I sm fun H' s' t I' s2 => ⟨⟨_, _, rfl⟩, _, _, rfl, q H' s' I' s2⟩)
/-- the items of a tuple, each with its text -/
inductive RpL (X : Cx) (as : List Addr) (k : Nat) (H0 : Hp) : List V → List Str → Prop
  | nil : RpL X as k H0 [] []
  | cons {x : V} {t : Str} {xs : List V} {ts : List Str} : Rp X as k H0 x t → RpL X as k H0 xs ts → RpL X as k H0 (x :: xs) (t :: ts)
theorem RpL.len : ∀ {xs : List V} {ts : List Str}, RpL X as k H0 xs ts → ts.length = xs.length
  | _, _, .nil => rfl
  | _, _, .cons _ h => by simp [h.len]
theorem RpL.get : ∀ {xs : List V} {ts : List Str} {i : Nat} {x : V}, RpL X as k H0 xs ts → xs[i]? = some x → ∃ t, ts[i]? = some t ∧ Rp X as k H0 x t
  | _, _, 0, _, .cons (t := t) r _, e => by
    cases e
    exact ⟨t, rfl, r⟩
  | _, _, i + 1, _, .cons _ h, e => by
    obtain ⟨t, h1, h2⟩ := h.get (i := i) e
    exact ⟨t, h1, h2⟩
theorem fold_rp {A : Around} {g : List Code} {pins : List (Addr × Obj)} {σ : L2.St} {E : Value → Shared → Prop} (hf : A.frames = some X.stack) (hg : A.guards = some g) (hcl : ∀ b ∈ as, Clear g b) (hr : Room k A) : ∀ (l : List Value) (xs : List V) (ts : List Str) (acc : Array Str) (n : Nat) (s : Shared) (H : Hp) (Q : Array Str × Nat → Shared → Prop), Vals xs l → RpL X as k H0 xs ts → n + piled ts ≤ sizeLine → Inv X pins σ H s → Same H0 H → GOk X.K H g →
    (∀ H' s', Inv X pins σ H' s' → Same H H' → Q ⟨acc ++ ts.toArray, n + piled ts⟩ s') → wpAny (model X.prog X.w) A (forIn l (⟨acc, n⟩ : Array Str × Nat) tupBody) Q E s := by
  intro l
  induction l with
  | nil =>
    intro xs ts acc n s H Q r h _ I sm go q
    cases r
    cases h
    have := q H s I (fun _ _ e => e)
    rw [List.forIn_nil]
    exact wpAny_pure (by simpa [piled] using this)
  | cons y l ih =>
    intro xs ts acc n s H Q r h hn I sm go q
    cases r with
    | cons r1 r =>
      cases h with
      | cons hx h =>
        rename_i t ts
        rw [piled_cons] at hn
        rw [List.forIn_cons]
        refine wpAny_bind (wpAny_bind (hx (n + 1) (by omega) A g pins σ H s y _ _ hf hg go hcl hr I sm r1 fun H2 s2 I2 s12 => wpAny_pure ?_))
        refine ih _ ts (acc.push t) (n + (t.length + 2)) s2 H2 Q r h (by omega) I2 (sm.trans s12) (go.same s12) fun H3 s3 I3 s23 => ?_
        have := q H3 s3 I3 (s12.trans s23)
        rw [piled_cons, ← Nat.add_assoc] at this
        simpa using this
/-- what is asked of a tuple with own instances in it -/
structure TpRp (X : Cx) (as : List Addr) (k : Nat) (H0 : Hp) (a : Addr) (ts : List Str) : Prop where
  ex : ∃ xs : List V, SqT X.K H0 a xs ∧ (∃ x ∈ xs, Mx X.K H0 x) ∧ RpL X as k H0 xs ts
  na : a ∉ as
theorem at_tup {a : Addr} {ts : List Str} {z : Nat} {A : Around} {g : List Code} {pins : List (Addr × Obj)} {σ : L2.St} {H : Hp} {s : Shared} {E : Value → Shared → Prop} {Q : Value → Shared → Prop} {id : String} {rest : List Value} (G : Gd (.builtin id ⟨.ref a :: rest, []⟩)) (h : TpRp X as k H0 a ts) (hz : z + (tupleText ts).length ≤ sizeLine) (hf : A.frames = some X.stack) (hg : A.guards = some g) (go : GOk X.K H g) (hcl : ∀ b ∈ a :: as, Clear g b) (hr : Room (k + 1) A) (I : Inv X pins σ H s) (sm : Same H0 H)
    (q : ∀ H' s' u, Inv X pins σ H' s' → Same H H' → Q (.str (tupleText ts) u) s') : wpOwn (model X.prog X.w) A (.builtin id ⟨.ref a :: rest, []⟩) (Builtin.tupleReprAt z ⟨[.ref a], []⟩) (fun fin s' => match fin with | .done f => callEnd Q E (.ok f) s' | .again c' => c'.quiet = true ∧ codeAny (model X.prog X.w) A c' (callEnd Q E) s') (fun e s' => callEnd Q E (.error e) s') s := by
  obtain ⟨xs, hs, ⟨x, mx, hx⟩, hT⟩ := h.ex
  obtain ⟨its, rv, ⟨o, ho, hc, m, hd⟩, _⟩ := I.tuple (sm.tup hs)
  have hca := hcl a (List.mem_cons_self ..)
  have ll : ts.length = its.length := by rw [hT.len, rv.length]
  have l4 := piled_le_tupleText ts
  rw [tuple_repr_tree, tupleReprUnderWay_eq]
  refine wpOwn_bind (wpOwn_stackTailAny hg (tupGuardF_off _) (tupGuardF_pos _) ?_)
  rw [show (g.any fun c => tupGuardF (.ref a) (c, default)) = false from List.any_eq_false.mpr fun c mc => by rw [tupGuardF_of_clear hca c mc]; exact Bool.false_ne_true]
  refine wpOwn_of_wpAny ?_
  show wpAny _ _ (tupleReprRest z (.ref a)) _ _ s
  unfold tupleReprRest Builtin.Tuple.tupleItemsOf
  refine wpAny_bind (wpAny_bind (wpAny_seqItems ho hd (wpAny_pure ?_)))
  rw [← Array.forIn_toList]
  have mt : Mx X.K H (.ref a) := .tup (sm.tup hs) mx (hx.same sm)
  refine wpAny_bind (fold_rp (by rw [G.fr]; exact hf) (guards_under_guard G.gd hg) (fun b mb => (hcl b (List.mem_cons_of_mem _ mb)).cons fun e => h.na (e ▸ mb)) (G.room hr) _ xs ts _ _ s H _ rv hT (by omega) I sm (go.cons mt) fun H2 s2 I2 s12 => ?_)
  refine wpAny_bind (wpAny_mkStr (wpAny_pure ?_) (by simpa [tupleText, ll] using (show (tupleText ts).length ≤ sizeLine by omega)))
  have := q H2 _ s2.toks (I2.tok (s2.toks + 1)) s12
  simpa [tupleText, ll] using this
theorem Rp.tup {a : Addr} {ts : List Str} (h : TpRp X as k H0 a ts) : Rp X (a :: as) (k + 1) H0 (.ref a) (tupleText ts) := fun z hz A g pins σ H s u E Q hf hg go hcl hr I sm r q => by
  obtain rfl : u = Value.ref a := r
  obtain ⟨xs, hs, _⟩ := h.ex
  obtain ⟨its, rv, ⟨o, ho, hc, m, hd⟩, _⟩ := I.tuple (sm.tup hs)
  refine wpAny_pyReprUnder_ref (by omega) (wpAny_pyReprObjUnder_twin (twin := "tuple.__repr__.under") ⟨o, ho, hc⟩ F.slot_tuple_repr rfl hr.units0 ?_)
  exact call_twin_own (F.quiet_tuple_repr_under _) F.entry_tuple_repr_under F.check_tuple_repr_under ⟨o, ho, hc⟩ F.slot_tuple_repr (F.args_tuple_repr_1 _) (at_tup (gd_tupU _) h hz hf hg go hcl hr I sm fun H' s' t I' s2 => ⟨⟨_, _, rfl⟩, _, _, rfl, q H' s' I' s2⟩)
/-- asked at the top: no repr is under way -/
def Rt (X : Cx) (k : Nat) (H0 : Hp) (v : V) (t : Str) : Prop :=
  ∀ (A : Around) (pins : List (Addr × Obj)) (σ : L2.St) (H : Hp) (s : Shared) (u : Value) (E Q : Value → Shared → Prop), A.frames = some X.stack → A.guards = some [] → Room (k + 1) A → Inv X pins σ H s → Same H0 H → RelV v u →
    (∀ H' s' tk, Inv X pins σ H' s' → Same H H' → Q (.str t tk) s') → wpAny (model X.prog X.w) A (call (.builtin "repr") [u]) Q E s
theorem gok_nil {K : PySem.W.Frag} {H : Hp} : GOk K H [] := fun _ _ _ _ m => by simp at m
theorem Rt.lst {a : Addr} {ts : List Str} (h : LsRp X as k H0 a ts) (hz : (listText ts).length ≤ sizeLine) : Rt X (k + 1) H0 (.ref a) (listText ts) := fun A pins σ H s u E Q hf hg hr I sm r q => by
  obtain rfl : u = Value.ref a := r
  obtain ⟨xs, _, hs, _⟩ := h.ex
  obtain ⟨its, rv, ⟨o, m, ho, hc, _, hd⟩, _⟩ := I.list (sm.seq hs)
  have r1 : Room (k + 1) A.in1 := hr.in1
  refine call_repr_slot (by have := r1.units0; exact this) ⟨o, ho, hc⟩ F.slot_list_repr.toG (wpAny_call (codeAny_call_builtin F.slot_list_repr.plain F.entry_list_repr (F.slot_list_repr.check _ _ _ _ _ _ _ _ ⟨o, ho, hc⟩ (F.args_list_repr_1 _) ?_)))
  exact at_list (A := A.in1) (z := 0) h (by omega) hf hg gok_nil (fun b _ => Clear.nil b) r1 I sm fun H' s' t I' s2 => ⟨_, _, rfl, q H' s' t I' s2⟩
theorem Rt.tup {a : Addr} {ts : List Str} (h : TpRp X as k H0 a ts) (hz : (tupleText ts).length ≤ sizeLine) : Rt X (k + 1) H0 (.ref a) (tupleText ts) := fun A pins σ H s u E Q hf hg hr I sm r q => by
  obtain rfl : u = Value.ref a := r
  obtain ⟨xs, hs, _⟩ := h.ex
  obtain ⟨its, rv, ⟨o, ho, hc, m, hd⟩, _⟩ := I.tuple (sm.tup hs)
  have r1 : Room (k + 1) A.in1 := hr.in1
  refine call_repr_slot (by have := r1.units0; exact this) ⟨o, ho, hc⟩ F.slot_tuple_repr (wpAny_call (codeAny_call_builtin_own (Code.quiet_builtin _ (by decide +kernel)) F.entry_tuple_repr (F.slot_tuple_repr.check _ _ _ _ _ _ _ _ ⟨o, ho, hc⟩ (F.args_tuple_repr_1 _) ?_)))
  exact at_tup (A := A.in1) (z := 0) (gd_tup _) h (by omega) hf hg gok_nil (fun b _ => Clear.nil b) r1 I sm fun H' s' t I' s2 => ⟨_, _, rfl, q H' s' t I' s2⟩
end
/-! dicts of texts and whole numbers, their values no containers -/
def scD : V → Option PyData
  | .int i => some (.int i)
  | .str x => some (.str x)
  | .bl b => some (.bool b)
  | .non => some .none
  | _ => none
def kyD : Key → PyData
  | .inl i => .int i
  | .inr x => .str x
theorem sc_reads {h : Heap} {v : V} {u : Value} {d : PyData} (e : scD v = some d) (r : RelV v u) : Reads h u d [] := by
  cases v with
  | int i =>
    cases e
    obtain ⟨t, rfl⟩ := r
    exact .int i t
  | str x =>
    cases e
    obtain ⟨t, rfl⟩ := r
    exact .str x t
  | bl b =>
    cases e
    cases r
    exact .bool b
  | non =>
    cases e
    cases r
    exact .none
  | _ => cases e
section
variable {X : Cx} {pins : List (Addr × Obj)} {σ : L2.St} {H : Hp} {s : Shared}
theorem ents_read {P : Program} {w : World} {h : Heap} : ∀ {es : List DictEntry} {vs : List (Key × Value)} {kvs : List (Key × V)} {ds : List PyData}, Pairs (mixKind P w) es vs → KV kvs vs → kvs.map (fun p => scD p.2) = ds.map some → ReadsAll h (es.map (·.key)) (kvs.map fun p => kyD p.1) [] ∧ ReadsAll h (es.map (·.val)) ds []
  | [], vs, kvs, ds, p, r, e => by
    cases p
    cases r
    cases ds with
    | nil => exact ⟨.nil, .nil⟩
    | cons _ _ => cases e
  | en :: es, vs, kvs, ds, p, r, e => by
    cases p with
    | cons p1 p2 p =>
      cases r with
      | cons r1 r =>
        rename_i y vs x kvs
        cases ds with
        | nil => cases e
        | cons d ds =>
          rw [List.map_cons, List.map_cons, List.cons.injEq] at e
          obtain ⟨h1, h2⟩ := ents_read (h := h) p r e.2
          refine ⟨?_, ?_⟩
          · rw [List.map_cons, List.map_cons]
            refine ReadsAll.cons (as := []) (bs := []) ?_ h1
            rw [r1.1]
            obtain ⟨i, t, e1, e2⟩ | ⟨i, t, e1, e2⟩ := keyIs_shape (show keyIs _ _ = true from p1)
            · rw [e1, e2]
              exact .int i t
            · rw [e1, e2]
              exact .str i t
          · rw [List.map_cons]
            refine ReadsAll.cons (as := []) (bs := []) ?_ h2
            rw [p2]
            exact sc_reads e.1 r1.2
theorem dict_read {a : Addr} {kvs : List (Key × V)} {ds : List PyData} (I : Inv X pins σ H s) (e : H a = some (.dK kvs)) (hs : kvs.map (fun p => scD p.2) = ds.map some) : Reads s.heap (.ref a) (.dict ((kvs.map fun p => kyD p.1).zip ds)) [a] ∧ (a == sysModules) = false := by
  obtain ⟨_, ns, vs, r, o, es, ep, eo, hd, ed, hk, hp, _⟩ := I.hok _ _ e
  obtain ⟨h1, h2⟩ := ents_read (h := s.heap) hp r hs
  have l1 : (kvs.map fun p => kyD p.1).length = ds.length := by
    have := congrArg List.length hs
    simpa using this
  refine ⟨Reads.dict (as := []) (bs := []) eo hd.1 ed ?_ ?_, ns⟩
  · rw [List.map_fst_zip (by omega)]
    exact h1
  · rw [List.map_snd_zip (by omega)]
    exact h2
end
end Mv
set_option Elab.async false
set_option maxRecDepth 100000
set_option maxHeartbeats 4000000
/-! repr of any value whose text is known. -/
namespace Mv
open PySem PySem.Spec PyProof.Rows L2
section
variable {X : Cx} {as : List Addr} {k : Nat} {H0 : Hp}
theorem Rt.dat {v : V} {d : PyData} (hd : Dp X.K H0 v d) (hs : Shw d) : Rt X k H0 v d.shown := fun A pins σ H s u E Q _ hg hr I sm r q => by
  obtain ⟨s1, s2, s3, s4⟩ := hs
  have fin : ∀ tk tk', Q (.str d.shown tk) { s with toks := tk' } := fun tk tk' => q H _ tk (I.tok tk') fun _ _ e => e
  cases hd.up sm with
  | non =>
    cases r
    exact PySem.P.repr_of_none (fin _ _)
  | bl b =>
    cases r
    exact PySem.P.repr_of_bool (by have := fin s.toks (s.toks + 1); simpa [PyData.shown] using this)
  | int i =>
    obtain ⟨t, rfl⟩ := r
    exact PySem.P.repr_of_int (by simpa [PyData.showable] using s1) (by have := fin s.toks (s.toks + 1); simpa [PyData.shown] using this)
  | str x =>
    obtain ⟨t, rfl⟩ := r
    exact PySem.P.repr_of_str (by have := fin s.toks (s.toks + 1); simpa [PyData.shown] using this) (by simpa [PyData.shown] using s4)
  | lst e h =>
    obtain rfl := r
    obtain ⟨as, rd⟩ := (Dp.lst e h).reads I _ _ _ rfl
    exact repr_of_reads' rd s1 (fun y => absurd y (by rw [s2]; simp)) hg (by have := hr.un; omega) (fun _ _ e => e) (fun h' tk tk' kp => q H _ tk (I.kept kp) fun _ _ e => e) s4
  | tup e h =>
    obtain rfl := r
    obtain ⟨as, rd⟩ := (Dp.tup e h).reads I _ _ _ rfl
    exact repr_of_reads' rd s1 (fun y => absurd y (by rw [s2]; simp)) hg (by have := hr.un; omega) (fun _ _ e => e) (fun h' tk tk' kp => q H _ tk (I.kept kp) fun _ _ e => e) s4
/-- a dict of texts and whole numbers -/
structure DcR (H : Hp) (a : Addr) (d : PyData) : Prop where
  ex : ∃ kvs ds, H a = some (.dK kvs) ∧ kvs.map (fun p => scD p.2) = ds.map some ∧ d = .dict ((kvs.map fun p => kyD p.1).zip ds)
  ok : d.showable = true ∧ d.depth ≤ 60 ∧ d.shown.length ≤ sizeLine
theorem Rt.dct {a : Addr} {d : PyData} (h : DcR H0 a d) : Rt X k H0 (.ref a) d.shown := fun A pins σ H s u E Q _ hg hr I sm r q => by
  obtain rfl := r
  obtain ⟨kvs, ds, e, hs, ed⟩ := h.ex
  obtain ⟨s1, s3, s4⟩ := h.ok
  obtain ⟨rd, ns⟩ := dict_read I (sm _ _ e) hs
  rw [← ed] at rd
  exact repr_of_reads' rd s1 (fun _ m => by rw [List.mem_singleton.mp m] at ns; simp at ns) hg (by have := hr.un; omega) (fun _ _ e => e) (fun h' tk tk' kp => q H _ tk (I.kept kp) fun _ _ e => e) s4
theorem Rp.dct {a : Addr} {d : PyData} (h : DcR H0 a d) : Rp X [] k H0 (.ref a) d.shown := fun z hz A g pins σ H s u E Q _ hg go _ hr I sm r q => by
  obtain rfl := r
  obtain ⟨kvs, ds, e, hs, ed⟩ := h.ex
  obtain ⟨s1, s3, s4⟩ := h.ok
  obtain ⟨rd, ns⟩ := dict_read I (sm _ _ e) hs
  rw [← ed] at rd
  obtain ⟨bs, hb, hk⟩ := ReprK.of_reads (prog := X.prog) (w := X.w) rd s1 (fun _ m => by rw [List.mem_singleton.mp m] at ns; simp at ns) s4
  refine hk z hz A g E s Q hg (fun b mb id w rest kw m e => ?_) (by have := hr.un; omega) (fun _ _ e => e) fun h' tk kp => q H _ (I.kept kp) (fun _ _ e => e)
  obtain ⟨c, e2, mx⟩ := go id w rest kw m
  rw [e2] at e
  cases e
  obtain ⟨d', as', r', _⟩ := hb _ mb
  exact mx.no I rfl r'
theorem Rt.own {a dx C : Addr} {fs : List (Str × V)} {sp : Sp} {t : Str} (c : Op2 X.prog X.w X.K X.mg X.base k C "__repr__" sp) (ea : H0 a = some (.ins C dx fs)) (hsp : ∀ (H : Hp) (Q : VK), Same H0 H → (∀ H', Same H H' → Q (.str t) H') → sp [.ref a] H Q E0) : Rt X k H0 (.ref a) t := fun A pins σ H s u E Q hf _ hr I sm r q => by
  obtain ⟨gd, fd, ps, F, hb, hs, hfn⟩ := c.ex
  obtain rfl : u = Value.ref a := r
  obtain ⟨mA, O, _⟩ := ins_get I.hok (sm _ _ ea)
  obtain ⟨od, J, _⟩ := O.look
  obtain ⟨m, hF⟩ := I.fr
  refine PySem.W.repr_K (by have := hr.units; show A.units + 1 < cLine; omega) hF I.ok.mod.kin J hs hfn ?_
  refine wpAny_mono (run_at (Q := fun v H' => v = .str t ∧ Same H H') (vs := [.ref a]) F hr.in1 hf hb I (.cons rfl .nil) (hsp H _ sm fun H' s' => ⟨rfl, s'⟩)) (fun w s' z => ?_) fun _ _ x => x
  obtain ⟨z', H', I', rz, rfl, s2⟩ := z
  obtain ⟨tk, rfl⟩ := rz
  exact q H' s' tk I' s2
end
theorem RpL.up {X : Cx} {as : List Addr} {k : Nat} {H0 H1 : Hp} (s : Same H0 H1) : ∀ {xs : List V} {ts : List Str}, RpL X as k H0 xs ts → RpL X as k H1 xs ts
  | _, _, .nil => .nil
  | _, _, .cons a h => .cons (a.up s) (h.up s)
theorem Rt.ownG {X : Cx} {k : Nat} {H0 : Hp} {a dx C : Addr} {fs : List (Str × V)} {sp : Sp} {t : Str} {ps : List Str} (c : Op2G X.prog X.w X.K X.mg X.base k C "__repr__" ps sp) (ea : H0 a = some (.ins C dx fs)) (hsp : ∀ (H : Hp) (Q : VK), Same H0 H → (∀ H', Same H H' → Q (.str t) H') → sp [.ref a] H Q E0) : Rt X k H0 (.ref a) t := fun A pins σ H s u E Q hf ga hr I sm r q => by
  obtain ⟨gd, fd, F, hb, hs, hfn⟩ := c.ex
  obtain rfl : u = Value.ref a := r
  obtain ⟨mA, O, _⟩ := ins_get I.hok (sm _ _ ea)
  obtain ⟨od, J, _⟩ := O.look
  obtain ⟨m, hF⟩ := I.fr
  refine PySem.W.repr_K (by have := hr.units; show A.units + 1 < cLine; omega) hF I.ok.mod.kin J hs hfn ?_
  refine wpAny_mono (run_atg (Q := fun v H' => v = .str t ∧ Same H H') (vs := [.ref a]) F hr.in1 (ga_in1 ga) hf hb I (.cons rfl .nil) (hsp H _ sm fun H' s' => ⟨rfl, s'⟩)) (fun w s' z => ?_) fun _ _ x => x
  obtain ⟨z', H', I', rz, rfl, s2⟩ := z
  obtain ⟨tk, rfl⟩ := rz
  exact q H' s' tk I' s2
/-- what repr tells of a value, asked at the top -/
structure Tps (P : Program) (w : World) (K : PySem.W.Frag) (mg : Str → Option Value) (base : Heap) (k : Nat) (H : Hp) (v : V) (t : Str) : Prop where
  top : ∀ X : Cx, Over X P w K mg base → Rt X k H v t
theorem Tps.same {P : Program} {w : World} {K : PySem.W.Frag} {mg : Str → Option Value} {base : Heap} {k : Nat} {H H' : Hp} {v : V} {t : Str} (h : Tps P w K mg base k H v t) (s : Same H H') : Tps P w K mg base k H' v t := ⟨fun X o A pins σ H2 s2 u E Q h1 h2 h3 h4 h5 => h.top X o A pins σ H2 s2 u E Q h1 h2 h3 h4 (s.trans h5)⟩
theorem Tps.up {P : Program} {w : World} {K : PySem.W.Frag} {mg : Str → Option Value} {base : Heap} {j k : Nat} {H : Hp} {v : V} {t : Str} (h : Tps P w K mg base k H v t) (l : k ≤ j) : Tps P w K mg base j H v t := ⟨fun X o A pins σ H2 s2 u E Q h1 h2 h3 => h.top X o A pins σ H2 s2 u E Q h1 h2 (h3.mono (by omega))⟩
theorem Tps.ownG {P : Program} {w : World} {K : PySem.W.Frag} {mg : Str → Option Value} {base : Heap} {k : Nat} {H : Hp} {a dx C : Addr} {fs : List (Str × V)} {sp : Sp} {t : Str} {ps : List Str} (c : Op2G P w K mg base k C "__repr__" ps sp) (ea : H a = some (.ins C dx fs)) (hsp : ∀ (H' : Hp) (Q : VK), Same H H' → (∀ H2, Same H' H2 → Q (.str t) H2) → sp [.ref a] H' Q E0) : Tps P w K mg base k H (.ref a) t := ⟨fun X o => Rt.ownG (by obtain ⟨rfl, rfl, rfl, rfl, rfl⟩ := o; exact c) ea hsp⟩
/-- a value and the text that repr tells of it -/
structure Shs (P : Program) (w : World) (K : PySem.W.Frag) (mg : Str → Option Value) (base : Heap) (k : Nat) (H : Hp) (v : V) (t : Str) : Prop where
  nest : ∃ as : List Addr, (∀ b ∈ as, H b ≠ none) ∧ ∀ X : Cx, Over X P w K mg base → Rp X as k H v t
  top : ∀ X : Cx, Over X P w K mg base → Rt X k H v t
section
variable {P : Program} {w : World} {K : PySem.W.Frag} {mg : Str → Option Value} {base : Heap} {k : Nat} {H : Hp}
theorem Shs.same {H' : Hp} {v : V} {t : Str} (h : Shs P w K mg base k H v t) (s : Same H H') : Shs P w K mg base k H' v t := by
  obtain ⟨as, n, h1⟩ := h.nest
  exact ⟨⟨as, fun b m => by
    cases e : H b with
    | none => exact absurd e (n b m)
    | some o => rw [s _ _ e]; simp, fun X o => (h1 X o).up s⟩, fun X o A pins σ H2 s2 u E Q h1 h2 h3 h4 h5 => h.top X o A pins σ H2 s2 u E Q h1 h2 h3 h4 (s.trans h5)⟩
theorem Shs.up {j : Nat} {v : V} {t : Str} (h : Shs P w K mg base k H v t) (l : k ≤ j) : Shs P w K mg base j H v t := by
  obtain ⟨as, n, h1⟩ := h.nest
  exact ⟨⟨as, n, fun X o => (h1 X o).more (fun _ m => m) l⟩, fun X o A pins σ H2 s2 u E Q h1 h2 h3 h4 h5 => h.top X o A pins σ H2 s2 u E Q h1 h2 (h3.mono (by omega)) h4 h5⟩
theorem Shs.dat {v : V} {d : PyData} (hd : Dp K H v d) (hs : Shw d) : Shs P w K mg base k H v d.shown := ⟨⟨[], fun _ m => by simp at m, fun X o => Rp.dat (by obtain ⟨_, _, rfl, _, _⟩ := o; exact hd) hs⟩, fun X o => Rt.dat (by obtain ⟨_, _, rfl, _, _⟩ := o; exact hd) hs⟩
theorem Shs.dct {a : Addr} {d : PyData} (h : DcR H a d) : Shs P w K mg base k H (.ref a) d.shown := ⟨⟨[], fun _ m => by simp at m, fun X o => Rp.dct h⟩, fun X o => Rt.dct h⟩
theorem Shs.own {a dx C : Addr} {fs : List (Str × V)} {sp : Sp} {t : Str} (c : Op2 P w K mg base k C "__repr__" sp) (ea : H a = some (.ins C dx fs)) (hsp : ∀ (H' : Hp) (Q : VK), Same H H' → (∀ H2, Same H' H2 → Q (.str t) H2) → sp [.ref a] H' Q E0) : Shs P w K mg base k H (.ref a) t := ⟨⟨[], fun _ m => by simp at m, fun X o => Rp.own (by obtain ⟨rfl, rfl, rfl, rfl, rfl⟩ := o; exact c) ea hsp⟩, fun X o => Rt.own (by obtain ⟨rfl, rfl, rfl, rfl, rfl⟩ := o; exact c) ea hsp⟩
/-- values with their texts -/
inductive ShL (P : Program) (w : World) (K : PySem.W.Frag) (mg : Str → Option Value) (base : Heap) (k : Nat) (H : Hp) : List V → List Str → Prop
  | nil : ShL P w K mg base k H [] []
  | cons {x : V} {t : Str} {xs : List V} {ts : List Str} : Shs P w K mg base k H x t → ShL P w K mg base k H xs ts → ShL P w K mg base k H (x :: xs) (t :: ts)
theorem ShL.same {H' : Hp} (s : Same H H') : ∀ {xs : List V} {ts : List Str}, ShL P w K mg base k H xs ts → ShL P w K mg base k H' xs ts
  | _, _, .nil => .nil
  | _, _, .cons h hs => .cons (h.same s) (hs.same s)
theorem ShL.app : ∀ {xs : List V} {ts : List Str} {ys : List V} {us : List Str}, ShL P w K mg base k H xs ts → ShL P w K mg base k H ys us → ShL P w K mg base k H (xs ++ ys) (ts ++ us)
  | _, _, _, _, .nil, h => h
  | _, _, _, _, .cons a h, g => .cons a (h.app g)
theorem ShL.nest : ∀ {xs : List V} {ts : List Str}, ShL P w K mg base k H xs ts → ∃ as : List Addr, (∀ b ∈ as, H b ≠ none) ∧ ∀ X : Cx, Over X P w K mg base → RpL X as k H xs ts
  | _, _, .nil => ⟨[], fun _ m => by simp at m, fun _ _ => .nil⟩
  | _, _, .cons h hs => by
    obtain ⟨as, n1, h1⟩ := h.nest
    obtain ⟨bs, n2, h2⟩ := hs.nest
    have grow : ∀ {X : Cx} {cs : List Addr} {xs : List V} {ts : List Str}, RpL X bs k H xs ts → (∀ b ∈ bs, b ∈ cs) → RpL X cs k H xs ts := fun {X cs xs ts} r sub => by
      induction r with
      | nil => exact .nil
      | cons a _ ih => exact .cons (a.more sub (Nat.le_refl _)) ih
    refine ⟨as ++ bs, fun b m => (List.mem_append.mp m).elim (n1 b) (n2 b), fun X o => .cons ((h1 X o).more (fun b m => List.mem_append_left _ m) (Nat.le_refl _)) (grow (h2 X o) fun b m => List.mem_append_right _ m)⟩
theorem ovK {X : Cx} (o : Over X P w K mg base) : X.K = K := by
  obtain ⟨_, _, h, _, _⟩ := o
  exact h
/-- a new tuple with an own instance somewhere in it -/
theorem Shs.tup {H0 : Hp} {a : Addr} {xs : List V} {ts : List Str} (s : Same H0 H) (n : H0 a = none) (e : H a = some (.tup xs)) (hx : ∃ x ∈ xs, Mx K H0 x) (h : ShL P w K mg base k H0 xs ts) (hz : (tupleText ts).length ≤ sizeLine) : Shs P w K mg base (k + 1) H (.ref a) (tupleText ts) := by
  obtain ⟨as, n1, h1⟩ := h.nest
  have rr : ∀ X : Cx, Over X P w K mg base → TpRp X as k H a ts := fun X o => by
    obtain ⟨x, mx, hm⟩ := hx
    have ek := ovK o
    refine ⟨⟨xs, SqT.of e, ⟨x, mx, by rw [ek]; exact hm.same s⟩, (h1 X o).up s⟩, fun m => n1 a m n⟩
  refine ⟨⟨a :: as, fun b m => ?_, fun X o => Rp.tup (rr X o)⟩, fun X o => Rt.tup (rr X o) hz⟩
  rcases List.mem_cons.mp m with rfl | m
  · rw [e]; simp
  · cases e0 : H0 b with
    | none => exact absurd e0 (n1 b m)
    | some o => rw [s _ _ e0]; simp
/-- a new list with an own instance somewhere in it -/
theorem Shs.lst {H0 : Hp} {a : Addr} {xs : List V} {ts : List Str} (s : Same H0 H) (n : H0 a = none) (e : H a = some (.lst xs)) (hx : ∃ x ∈ xs, Mx K H0 x) (h : ShL P w K mg base k H0 xs ts) (hz : (listText ts).length ≤ sizeLine) : Shs P w K mg base (k + 1) H (.ref a) (listText ts) := by
  obtain ⟨as, n1, h1⟩ := h.nest
  have rr : ∀ X : Cx, Over X P w K mg base → LsRp X as k H a ts := fun X o => by
    obtain ⟨x, mx, hm⟩ := hx
    have ek := ovK o
    refine ⟨⟨xs, List.ne_nil_of_mem mx, SqL.of e, ⟨x, mx, by rw [ek]; exact hm.same s⟩, ((h1 X o).up s).len, fun i x h => ((h1 X o).up s).get h⟩, fun m => n1 a m n⟩
  refine ⟨⟨a :: as, fun b m => ?_, fun X o => Rp.lst (rr X o)⟩, fun X o => Rt.lst (rr X o) hz⟩
  rcases List.mem_cons.mp m with rfl | m
  · rw [e]; simp
  · cases e0 : H0 b with
    | none => exact absurd e0 (n1 b m)
    | some o => rw [s _ _ e0]; simp
/-- repr(v) -/
def rReprV (P : Program) (w : World) (K : PySem.W.Frag) (mg : Str → Option Value) (base : Heap) (k : Nat) : List V → Hp → VK → Prop := fun xs H Q => ∃ v t, xs = [v] ∧ Tps P w K mg base k H v t ∧ ∀ H', Same H H' → Q (.str t) H'
theorem call_reprV {X : Cx} {j : Nat} (ga : GA X.A) (hr : Room j X.A) (hk : k + 1 ≤ j) (o : Over X P w K mg base := by exact ⟨rfl, rfl, rfl, rfl, rfl⟩) : CallR X (.builtin "repr") (rReprV P w K mg base k) := by
  intro pins s σ H xs us Q I r h
  obtain ⟨v, t, rfl, hs, q⟩ := h
  obtain ⟨u, rfl, ru⟩ := vals1 r
  exact hs.top X o X.A pins σ H s u _ _ I.ok.frames ga (hr.mono hk) I (Same.refl _) ru fun H' s' tk I' s2 => ⟨.str t, H', I', ⟨_, rfl⟩, q H' s2⟩
theorem Shs.tps {v : V} {t : Str} (h : Shs P w K mg base k H v t) : Tps P w K mg base k H v t := ⟨h.top⟩
theorem go_reprV {v : V} {t : Str} {Q : VK} (h : Tps P w K mg base k H v t) (q : ∀ H', Same H H' → Q (.str t) H') : rReprV P w K mg base k [v] H Q := ⟨v, t, rfl, h, q⟩
end
end Mv
set_option Elab.async false
set_option maxRecDepth 100000
set_option maxHeartbeats 4000000
namespace T
open PySem L2 Mv
abbrev s_isright : Stmt := top 63
theorem sc_isright : FnScope ["_law_rounds_here", "_law_some", "_law_k", "_law_glyph"] ["_law_rounds_here", "_law_some"] (defScope s_isright) := ⟨rfl, rfl, rfl, by decide +kernel, rfl, by decide +kernel, by decide +kernel⟩
section
variable {P : Program} {w : World} {K : PySem.W.Frag} {mg : Str → Option Value} {base : Heap} {C AX CR : Addr}
/-- whole number or surely none -/
def Thg (K : PySem.W.Frag) (H : Hp) : V → Prop
  | .int _ => True
  | x => NotInt K H x
def okV (rs : List (List Pm.Cut)) (j : Nat) : V → Bool
  | .int i => decide (0 ≤ i) && decide (i < ((Pm.S rs j : Nat) : Int))
  | _ => false
/-- whether a row of values is a name -/
def rightB (rs : List (List Pm.Cut)) (xs : List V) : Bool := (List.range xs.length).all fun j => okV rs j (xs.getD j .non)
theorem Thg.split {H : Hp} {x : V} (h : Thg K H x) : (∃ i, x = .int i) ∨ (NotInt K H x ∧ ∀ rs j, okV rs j x = false) := by
  cases x with
  | int i => exact .inl ⟨i, rfl⟩
  | _ => exact .inr ⟨h, fun _ _ => rfl⟩
theorem Thg.same {H H' : Hp} {x : V} (s : Same H H') (h : Thg K H x) : Thg K H' x := by
  cases x with
  | int i => trivial
  | _ =>
    obtain ⟨t, b, c, ty, r⟩ := h
    exact ⟨t, b, c, TyX.same ty s, r⟩
/-- what a name is asked of -/
def Ask (K : PySem.W.Frag) (H : Hp) (rs : List (List Pm.Cut)) (v : V) (b : Bool) : Prop := (b = false ∧ ∃ t, TyX K H v t ∧ PySem.W.kitOne K t (.type "tuple") = some false) ∨ ∃ a xs, v = .ref a ∧ SqT K H a xs ∧ (∀ x ∈ xs, Thg K H x) ∧ xs.length ≤ 1000 ∧ b = rightB rs xs
theorem Ask.same {H H' : Hp} {rs : List (List Pm.Cut)} {v : V} {b : Bool} (s : Same H H') (h : Ask K H rs v b) : Ask K H' rs v b := by
  rcases h with ⟨e, t, ty, k⟩ | ⟨a, xs, e, hs, hx, r⟩
  · exact .inl ⟨e, t, TyX.same ty s, k⟩
  · exact .inr ⟨a, xs, e, Same.tup s hs, fun x m => (hx x m).same s, r⟩
theorem rightB_no {rs : List (List Pm.Cut)} {xs : List V} {j : Nat} {x : V} (h : xs[j]? = some x) (e : okV rs j x = false) : rightB rs xs = false := by
  have hj : j < xs.length := (List.getElem?_eq_some_iff.mp h).1
  refine List.all_eq_false.mpr ⟨j, List.mem_range.mpr hj, ?_⟩
  rw [List.getD_eq_getElem?_getD, h]
  show ¬ okV rs j x = true
  rw [e]
  exact Bool.false_ne_true
/-- for i, x in enumerate(xs) -/
theorem forEnumT {bb : Bool} {σ : L2.St} {H : Hp} {n b c : L2.St → Hp → Prop} {rt : VK} {g : TG} {tb : TS} {a : Addr} {xs : List V} (Pv : Nat → L2.St → Hp → Prop) (h0 : Pv 0 σ H) (hG : ∀ i σ H, Pv i σ H → SqK bb K H a xs)
    (hs : ∀ (i : Nat) x T σ H H', i < xs.length → xs[i]? = some x → Pv i σ H → H T = none → Same H H' → H' T = some (.tup [.int (i : Int), x]) → g (.ref T) σ H' fun σ2 H2 => tb ⟨Pv (i + 1), rt, n, Pv (i + 1)⟩ σ2 H2) (hd : ∀ σ H, Pv xs.length σ H → n σ H) :
    ForR g tb ⟨n, rt, b, c⟩ σ (IteK bb K a) H :=
  for_it (D := ⟨n, rt, b, c⟩) walk_enumK Pv h0 (fun i σ H _ h => hG i σ H h) (fun i x σ H H' hi hp hy => by
    obtain ⟨T, x', y', rfl, hT, rfl, hx, hy⟩ := hy
    obtain rfl := Option.some.inj hx
    exact hs i y' T σ H _ hi hy hp hT (same_new hT) upd_same) hd
def sp_isright (K : PySem.W.Frag) : Sp := fun vs H Q _ => ∃ (v u : V) (rs : List (List Pm.Cut)) (b : Bool), vs = [v, u] ∧ Dp K H v (lRdsD rs) ∧ Pm.RdsOk rs ∧ Ask K H rs u b ∧ ∀ H', Same H H' → Q (.bl b) H'
theorem c_isright {K : PySem.W.Frag} {v u : V} {rs : List (List Pm.Cut)} {b : Bool} {H : Hp} {Q : VK} {E : XK} (h0 : Dp K H v (lRdsD rs)) (h1 : Pm.RdsOk rs) (h2 : Ask K H rs u b) (q : ∀ H', Same H H' → Q (.bl b) H') : sp_isright K [v, u] H Q E := ⟨_, _, _, _, rfl, h0, h1, h2, q⟩
local macro_rules | `(tactic| tb_rel) => `(tactic| repeat (first
  | with_reducible assumption
  | with_reducible exact Dp.int _
  | with_reducible exact Dp.str _
  | with_reducible exact Dp.bl _
  | with_reducible exact Dp.non
  | (with_reducible apply SqT.of; with_reducible assumption)
  | (with_reducible apply SqL.of; with_reducible assumption)
  | (with_reducible apply up_dp; with_reducible assumption)
  | (with_reducible apply up_sqt; with_reducible assumption)
  | (with_reducible apply up_sql; with_reducible assumption)
  | (with_reducible apply up_get; with_reducible assumption)
  | (with_reducible apply up_pot; with_reducible assumption)
  | with_reducible exact Same.refl _
  | with_reducible exact Bu.refl _ _
  | (with_reducible apply up_same; with_reducible assumption)
  | (with_reducible apply up_bu; with_reducible assumption)
  | (with_reducible apply bu_bu; with_reducible assumption)
  | (with_reducible apply free_of; with_reducible assumption)
  | (with_reducible apply mi_fr; with_reducible assumption; (focus (tb_rel; done)))
  | (with_reducible apply mi_dp; with_reducible assumption)
  | (with_reducible apply mi_sqt; with_reducible assumption)
  | (with_reducible apply mi_sql; with_reducible assumption)
  | (with_reducible apply mi_gett; with_reducible assumption)
  | (with_reducible apply mi_getl; with_reducible assumption)
  | (with_reducible apply mi_pot; with_reducible assumption)
  | (with_reducible apply mi_refl; with_reducible assumption; (focus (with_unfolding_all exact rfl)))
  | (with_reducible apply up_mi; with_reducible assumption)
  | (with_reducible apply mi_mi; with_reducible assumption)
  | (with_reducible apply mi_bu; with_reducible assumption)
  | (with_reducible apply up_plan; with_reducible assumption)
  | (with_reducible apply bu_plan; with_reducible assumption; (focus (tb_rel; done)))
  | (with_reducible apply mi_plan; with_reducible assumption; (focus (lcg_src; done)))
  | (with_reducible apply up_lrd; with_reducible assumption)
  | (with_reducible apply bu_lrd; with_reducible assumption; (focus (tb_rel; done)))
  | (with_reducible apply bu_gett; with_reducible assumption; (focus (tb_rel; done)))
  | (with_reducible apply bu_geti; with_reducible assumption; (focus (tb_rel; done)))
  | (with_reducible apply bu_get; with_reducible assumption; (focus (tlg_ne; done)))
  | (with_reducible apply bu_sqt; with_reducible assumption; (focus (tb_rel; done)))
  | (with_reducible apply bu_sql; with_reducible assumption; (focus (tlg_ne; done)))
  | (with_reducible apply bu_dp; with_reducible assumption; (focus (tb_rel; done)); (focus (lcg_src; done)))
  | fail "up"))
local macro_rules | `(tactic| tlg_ne) => `(tactic| first
  | with_reducible assumption
  | (with_reducible apply pot_ne; with_reducible assumption; (focus (tb_rel; done)))
  | fail "ne")
local macro_rules | `(tactic| lcg_src) => `(tactic| first
  | with_reducible assumption
  | with_unfolding_all exact rfl
  | with_unfolding_all decide
  | with_unfolding_all exact Nat.ne_of_beq_eq_false rfl
  | (apply_assumption; done)
  | omega
  | (simp; done)
  | (simp; omega)
  | fail "sd")
local macro_rules | `(tactic| lcg_sub) => `(tactic| first
  | (unfold sizeLine; omega)
  | (simp only [List.length_cons, List.length_nil, List.length_append, List.length_map, List.length_replicate, List.length_take, List.length_drop]; unfold sizeLine; omega)
  | (simp; unfold sizeLine; omega)
  | fail "sz")
local macro_rules | `(tactic| nest_cls) => `(tactic| first
  | (tb_rel; done)
  | (with_reducible apply lrd_dp; (focus (tb_rel; done)))
  | (with_reducible apply nmI1; (focus (tb_rel; done)))
  | (with_reducible apply nmT; (focus (tb_rel; done)))
  | (with_reducible apply nmI; (focus (tb_rel; done)))
  | (with_reducible apply d_tup; (focus (tb_rel; done)); (focus (lsm_bools; done)))
  | (with_reducible apply d_lst; (focus (tb_rel; done)); (focus (lsm_bools; done)))
  | fail "dp")
local macro_rules | `(tactic| lsm_bools) => `(tactic| repeat (first
  | with_reducible exact DpAll.nil
  | with_reducible assumption
  | (with_reducible apply DpAll.cons; (focus (nest_cls; done)))
  | fail "dpa"))
local macro_rules | `(tactic| none_booked) => `(tactic| first | with_unfolding_all exact rfl | (with_reducible apply atI_nat; with_reducible assumption) | fail "ix")
local macro_rules | `(tactic| walk_at "go") => `(tactic| repeat (first
  | (focus (with_reducible refine go_var (v := ?_) ?_ ?_; rotate_left; (focus (with_unfolding_all exact rfl))))
  | with_reducible refine go_seq ?_
  | with_reducible refine go_cN ?_
  | with_reducible refine go_c ?_
  | with_reducible refine go_op ?_
  | with_reducible refine go_nil ?_
  | with_reducible refine go_cons ?_
  | with_reducible refine go_cb ?_
  | with_reducible refine go_call0 ?_
  | with_reducible refine go_asg ?_
  | (focus (with_reducible refine go_gname (σ' := ?_) ?_ ?_; rotate_left; (focus (simp only [List.set_cons_succ, List.set_cons_zero]; exact rfl))))
  | with_reducible refine go_par ?_
  | (focus (with_reducible refine go_par2 (σ' := ?_) ?_ ?_; rotate_left; (focus (simp only [List.set_cons_succ, List.set_cons_zero]; exact rfl))))
  | with_reducible refine go_ifs ?_
  | with_reducible refine go_test ?_
  | with_reducible refine go_tb ?_
  | with_reducible refine go_asb ?_
  | with_reducible refine go_asi ?_
  | with_reducible refine go_ret ?_
  | with_reducible refine go_retn ?_
  | with_reducible refine go_drop ?_
  | with_reducible refine go_next ?_
  | with_reducible refine go_and ?_
  | with_reducible refine go_or ?_
  | with_reducible refine go_not ?_
  | with_reducible refine go_andv ?_
  | with_reducible refine go_orv ?_
  | with_reducible refine go_notv ?_
  | with_reducible refine go_ife ?_
  | with_reducible refine go_chain ?_
  | with_reducible refine go_if1 ?_
  | with_reducible refine go_if0 ?_
  | with_reducible refine go_ifn1 ?_
  | with_reducible refine go_ifn0 ?_
  | (with_reducible apply go_ift; (focus (first | with_reducible rfl | with_reducible assumption | omega)))
  | (with_reducible apply go_ifnt; (focus (first | with_reducible rfl | with_reducible assumption | omega)))
  | (with_reducible apply go_iff; (focus (first | with_reducible assumption | omega)))
  | (with_reducible apply go_ifnf; (focus (first | with_reducible assumption | omega)))
  | with_reducible refine go_un ?_
  | with_reducible refine go_tup ?_
  | with_reducible refine go_lst ?_
  | (with_reducible apply go_newt; (focus (lcg_sub; done)); intros)
  | (with_reducible apply go_newl; (focus (lcg_sub; done)); intros)
  | with_reducible refine go_meth ?_
  | with_reducible refine go_for ?_
  | with_reducible refine go_lc ?_
  | with_reducible refine go_irng1 ?_
  | with_reducible refine go_irng2 ?_
  | with_reducible refine go_ilist ?_
  | with_reducible refine go_itup ?_
  | with_reducible refine go_izip ?_
  | with_reducible refine go_ienum ?_
  | (with_reducible apply go_rg1; (focus (lcg_src; done)))
  | (with_reducible apply go_rg2; (focus (lcg_src; done)); (focus (lcg_src; done)))
  | (with_reducible apply go_lsr; (focus (tb_rel; done)))
  | (with_reducible apply go_tpr; (focus (tb_rel; done)))
  | (with_reducible apply go_zpr; (focus (tb_rel; done)); (focus (tb_rel; done)))
  | (with_reducible apply go_zprT; (focus (tb_rel; done)); (focus (tb_rel; done)))
  | (with_reducible apply go_enrL; (focus (tb_rel; done)))
  | (with_reducible apply go_enrT; (focus (tb_rel; done)))
  | with_reducible refine go_prop ?_
  | with_reducible refine go_knr0 ?_
  | (with_reducible apply go_knr; (focus (with_unfolding_all exact rfl; done)); (focus (simp only [kSw2, kRev3, kId, List.nil_append, List.cons_append]; exact rfl)))
  | with_reducible refine go_mkn ?_
  | (with_reducible apply go_mkr; (focus (tb_rel; done)); (focus (with_unfolding_all exact rfl; done)))
  | with_reducible refine go_fld ?_
  | (with_reducible apply go_flr; (focus (tb_rel; done)); (focus (with_reducible assumption; done)); (focus (with_reducible assumption; done)); (focus (with_unfolding_all exact rfl; done)))
  | (with_reducible apply go_prr; (focus (tb_rel; done)))
  | (with_reducible apply go_mer; (focus (tb_rel; done)); (focus (with_unfolding_all exact rfl; done)))
  | with_reducible refine go_sfld ?_
  | (with_reducible apply go_sfr; (focus (tb_rel; done)); (focus (with_reducible assumption; done)); (focus (with_reducible assumption; done)); (focus (with_unfolding_all exact Nat.le_of_ble_eq_true rfl; done)); (focus (with_unfolding_all exact rfl; done)); intros)
  | with_reducible refine go_revt ?_
  | with_reducible refine go_make0 ?_
  | (focus (with_reducible refine go_aug (x := ?_) ?_ ?_; rotate_left; (focus (with_unfolding_all exact rfl))))
  | (focus (with_reducible refine go_augk (σ' := ?_) ?_ ?_; rotate_left; (focus (simp only [List.set_cons_succ, List.set_cons_zero]; exact rfl))))
  | with_reducible refine go_min2 ?_
  | with_reducible refine go_int1 ?_
  | with_reducible refine go_max2 ?_
  | with_reducible refine go_intB ?_
  | with_reducible refine go_absN ?_
  | with_reducible refine go_isN ?_
  | with_reducible refine go_notN ?_
  | (with_reducible apply go_rvt; (focus (tb_rel; done)); (focus (simp only [List.reverse_cons, List.reverse_nil, List.nil_append, List.cons_append]; exact rfl)); intros)
  | (with_reducible apply go_reprNm; (focus (tb_rel; done)); (focus (with_reducible assumption; done)))
  | (with_reducible apply go_reprPr; (focus (nest_cls; done)); (focus (lcg_src; done)); (focus (lcg_src; done)))
  | with_reducible refine go_sl ?_
  | with_reducible refine go_part ?_
  | with_reducible refine go_nopart ?_
  | (with_reducible apply go_gtup; (focus (tb_rel; done)); (focus (with_unfolding_all exact rfl; done)))
  | (with_reducible apply go_gunl; (focus (tb_rel; done)); (focus (with_unfolding_all exact rfl; done)))
  | with_reducible refine go_gcons ?_
  | with_reducible refine go_gnil ?_
  | with_reducible refine go_addN ?_
  | with_reducible refine go_ltN ?_
  | with_reducible refine go_leN ?_
  | with_reducible refine go_gtN ?_
  | with_reducible refine go_geN ?_
  | (with_reducible apply go_subN; (focus (omega; done)))
  | with_reducible refine go_rI0 ?_
  | (with_reducible apply go_mulN; (focus (omega; done)))
  | (with_reducible apply go_modN; (focus (omega; done)))
  | (with_reducible apply go_divN; (focus (omega; done)))
  | (with_reducible apply go_powN; (focus (with_unfolding_all decide; done)))
  | with_reducible refine go_rU ?_
  | with_reducible refine go_eqN ?_
  | with_reducible refine go_neN ?_
  | with_reducible refine go_isB ?_
  | with_reducible refine go_notB ?_
  | with_reducible refine go_eqS ?_
  | with_reducible refine go_neS ?_
  | with_reducible refine go_eqB ?_
  | with_reducible refine go_eqI ?_
  | with_reducible refine go_neI ?_
  | (with_reducible apply go_ixt; (focus (tb_rel; done)); (focus (none_booked; done)))
  | (with_reducible apply go_ixl; (focus (tb_rel; done)); (focus (none_booked; done)))
  | (with_reducible apply go_lent; (focus (tb_rel; done)))
  | (with_reducible apply go_lenNm; (focus (tb_rel; done)))
  | (with_reducible apply go_isiNm; (focus (tb_rel; done)))
  | (with_reducible apply go_lenl; (focus (tb_rel; done)))
  | (with_reducible apply go_catA; (focus (tb_rel; done)); (focus (tb_rel; done)); (focus (lcg_sub; done)); intros)
  | (with_reducible apply go_slaT; (focus (tb_rel; done)); intros)
  | (with_reducible apply go_slaD; (focus (tb_rel; done)); intros)
  | (with_reducible apply go_rep; (focus (tb_rel; done)); (focus (lcg_src; done)); intros)
  | (with_reducible apply go_tupofl; (focus (tb_rel; done)); intros)
  | (with_reducible apply go_sllT; (focus (tb_rel; done)); intros)
  | (with_reducible apply go_sllD; (focus (tb_rel; done)); intros)
  | (with_reducible apply go_cat; (focus (tb_rel; done)); (focus (tb_rel; done)); (focus (lcg_sub; done)); intros)
  | (with_reducible apply go_eqP; with_reducible assumption; (focus (tb_rel; done)); (focus (tb_rel; done)))
  | (with_reducible apply go_neP; with_reducible assumption; (focus (tb_rel; done)); (focus (tb_rel; done)))
  | (with_reducible apply go_mep; (focus (tb_rel; done)); (focus decide); (focus decide); (focus decide))
  | (with_reducible apply go_lenR; (focus (nest_cls; done)))
  | (with_reducible apply go_ixR; (focus (nest_cls; done)); (focus (lcg_src; done)); intros)
  | (with_reducible apply count_int; (focus omega))
  | (with_reducible apply c_hasform2; (focus (tb_rel; done)); (focus (lcg_src; done)); intros)
  | (with_reducible apply c_isname2; (focus (tb_rel; done)); (focus (lcg_src; done)); intros)
  | (with_reducible apply c_isright; (focus (nest_cls; done)); (focus (lcg_src; done)); (focus (lcg_src; done)); intros)
  | (with_reducible apply c_phaseat; (focus (tb_rel; done)); intros)
  | (with_reducible apply c_signs; (focus (tb_rel; done)); (focus (lcg_src; done)); intros)
  | (with_reducible apply c_size; (focus (nest_cls; done)); (focus (lcg_src; done)); intros)
  | (with_reducible apply c_wantplan; (focus (tb_rel; done)); intros)
  | (with_reducible apply ne_same; (focus (nest_cls; done)); (focus (nest_cls; done)); (focus (first | with_unfolding_all exact rfl | exact shaped_nm _)); (focus (first | with_unfolding_all exact rfl | exact nd_nm _)))
  | (with_reducible apply eq_same; (focus (nest_cls; done)); (focus (nest_cls; done)); (focus (first | with_unfolding_all exact rfl | exact shaped_nm _)); (focus (first | with_unfolding_all exact rfl | exact nd_nm _)))
  | fail "go"))
theorem ok_isright {f : Addr} {fd : FuncData} (F : Df K "_law_is_right" "_law_is_right" s_isright [] f fd) (B : Blt mg) (cSz : Ca P w K mg base 1 "_law_size" (sp_size K) []) : FnOk P w K mg base CX0 2 f fd ["_law_rounds_here", "_law_some"] (sp_isright K) := by
  refine dfOk F sc_isright (fun vs H Q E h => ?_) (fun cdv A outer s H vs Q E hr h => ?_)
  · obtain ⟨v, u, rs, b, rfl, _⟩ := h
    rfl
  · obtain ⟨v, u, rs, b, rfl, hd, hok, ha, q⟩ := h
    obtain ⟨ra, ys, rfl, hys, hya⟩ := hd.lstE
    have yl : ys.length = rs.length := by rw [hya.len, List.length_map]
    have l1 := hok.1
    refine ⟨_, (pss_cons (ps_if (pt_not (pt_val (pe_callB call_isi' (by rfl) B.isinstance bt_isinstance (pa_cons (pv 1) (pa_cons (pe_bltn (v := .ty "tuple") (by rfl) B.tuple bt_tuple rfl) pa_nil)))))
  (pss_one (ps_ret pe_bl))
  pss_nil)
  (pss_cons (ps_for PassesOwn.never rfl (pi_enumA' (by rfl) B.enumerate (pa_cons (pv 1) pa_nil)) (pg_tup' 2 (pgs_cons (pg_name (i := 2) sc_isright.nd rfl (Or.inl rfl)) (pgs_cons (pg_name (i := 3) sc_isright.nd rfl (Or.inl rfl)) pgs_nil)))
  (pss_cons (ps_if (PW.pt (pw_or (pt_not (pt_val (pe_callB call_isi' (by rfl) B.isinstance bt_isinstance (pa_cons (pv 3) (pa_cons (pe_bltn (v := .ty "int") (by rfl) B.int bt_int rfl) pa_nil))))) (pw_or1 (pt_val (pe_callB call_isi' (by rfl) B.isinstance bt_isinstance (pa_cons (pv 3) (pa_cons (pe_bltn (v := .ty "bool") (by rfl) B.bool bt_bool rfl) pa_nil)))))))
  (pss_one (ps_ret pe_bl))
  pss_nil)
  (pss_one (ps_if (pt_not (pt_chain op_le op_lt pe_int (pv 3) (pe_ca cSz hr (by decide) (by rfl) (pa_cons (pe_ix ix_list' (pv 0) (pe_op op_mod (pv 2) (pe_callB call_len_seq' (by rfl) B.len bt_len (pa_cons (pv 0) pa_nil))) (fun _ _ => rfl)) pa_nil))))
  (pss_one (ps_ret pe_bl))
  pss_nil))))
  (pss_one (ps_ret pe_bl)))), ?_⟩
    refine go_start (σ := [some _, some _, none, none]) rfl ?_
    walk_at "go"
    rcases ha with ⟨rfl, t, ty, kt⟩ | ⟨a, xs, rfl, hs, hx, hz, rfl⟩
    · refine ⟨_, _, t, _, false, rfl, .ty _, ty, kt, ?_⟩
      walk_at "go"
      exact q _ (Same.refl _)
    · refine ⟨_, _, _, _, true, rfl, .ty _, tyT hs, kit_ty (by decide +kernel), ?_⟩
      have y0 : 0 < ys.length := by omega
      walk_at "go"
      refine forEnumT (K := K) (bb := false) (xs := xs) (fun k σ H' => (∃ v2 v3, σ = [some (.ref ra), some (.ref a), v2, v3]) ∧ Same H H' ∧ ∀ j x, j < k → xs[j]? = some x → okV rs j x = true) ⟨⟨_, _, rfl⟩, Same.refl _, fun j x h => by omega⟩ (fun k σ H' h => Same.tup h.2.1 hs) ?_ ?_
      · rintro k x T σ H1 H2 hk hxk ⟨⟨v2, v3, rfl⟩, s1, al⟩ nT s2 e2
        have s12 := s1.trans s2
        have xk := (hx x (List.mem_of_getElem? hxk)).same s12
        clear hx s1 s2
        walk_at "go"
        have no : okV rs k x = false → Q (.bl false) H2 := fun e => by
          rw [rightB_no hxk e] at q
          exact q _ s12
        rcases xk.split with ⟨i, rfl⟩ | ⟨⟨t, b, c, ty, k1, k2, e⟩, okf⟩
        · refine ⟨_, _, .type "int", _, true, rfl, .ty _, .base (.int i), kit_ty (by decide +kernel), ?_⟩
          walk_at "go"
          refine ⟨_, _, .type "int", _, false, rfl, .ty _, .base (.int i), kit_ty (by decide +kernel), ?_⟩
          walk_at "go"
          by_cases c0 : ((0 : Nat) : Int) ≤ i
          · rw [if_pos (decide_eq_true c0)]
            obtain ⟨cu, hcu, hdc⟩ := hya.got (i := k % rs.length) (by rw [List.getElem?_map, Pm.rnd_get l1 k]; rfl)
            have hdc2 : Dp K H2 cu (lRnd (Pm.rnd rs k)) := hdc.up s12
            have okr := hok.rnd k
            walk_at "go"
            rw [yl]
            refine go_ixl (s12.seq hys) (atI_nat hcu) ?_
            walk_at "go"
            by_cases c1 : i < ((Pm.size (Pm.rnd rs k) : Nat) : Int)
            · rw [decide_eq_true c1]
              walk_at "go"
              refine ⟨⟨_, _, rfl⟩, s12, fun j x hj hjx => ?_⟩
              rcases Nat.lt_or_ge j k with z | z
              · exact al j x z hjx
              · obtain rfl : j = k := by omega
                rw [hxk] at hjx
                cases hjx
                show (decide (((0 : Nat) : Int) ≤ i) && decide (i < ((Pm.size (Pm.rnd rs j) : Nat) : Int))) = true
                rw [decide_eq_true c0, decide_eq_true c1]
                rfl
            · rw [decide_eq_false c1]
              have e0 : okV rs k (.int i) = false := by
                show (decide (((0 : Nat) : Int) ≤ i) && decide (i < ((Pm.size (Pm.rnd rs k) : Nat) : Int))) = false
                rw [decide_eq_false c1, Bool.and_false]
              walk_at "go"
              exact no e0
          · rw [if_neg (by rw [decide_eq_false c0]; exact Bool.false_ne_true)]
            have e0 : okV rs k (.int i) = false := by
              show (decide (((0 : Nat) : Int) ≤ i) && _) = false
              rw [decide_eq_false c0, Bool.false_and]
            walk_at "go"
            exact no e0
        · refine ⟨_, _, t, _, b, rfl, .ty _, ty, k1, ?_⟩
          cases b with
          | false =>
            walk_at "go"
            exact no (okf _ _)
          | true =>
            walk_at "go"
            refine ⟨_, _, t, _, c, rfl, .ty _, ty, k2, ?_⟩
            cases c with
            | false => cases e
            | true =>
              walk_at "go"
              exact no (okf _ _)
      · rintro σ H1 ⟨⟨v2, v3, rfl⟩, s1, al⟩
        walk_at "go"
        have e : rightB rs xs = true := List.all_eq_true.mpr fun j hj => by
          have lj := List.mem_range.mp hj
          rw [List.getD_eq_getElem?_getD, List.getElem?_eq_getElem lj]
          exact al j _ lj (List.getElem?_eq_getElem lj)
        rw [e] at q
        exact q _ s1
/-- has_name_form and is_name of any value -/
def sp_hasform2 (K : PySem.W.Frag) (C : Addr) : Sp := fun vs H Q _ => ∃ (v u : V) (rs : List (List Pm.Cut)) (b : Bool), vs = [v, u] ∧ PlanAt K C H v rs ∧ Ask K H rs u b ∧ ∀ H', Same H H' → Q (.bl b) H'
theorem c_hasform2 {K : PySem.W.Frag} {C : Addr} {v u : V} {rs : List (List Pm.Cut)} {b : Bool} {H : Hp} {Q : VK} {E : XK} (h0 : PlanAt K C H v rs) (h1 : Ask K H rs u b) (q : ∀ H', Same H H' → Q (.bl b) H') : sp_hasform2 K C [v, u] H Q E := ⟨_, _, _, _, rfl, h0, h1, q⟩
theorem ok_hasform2 {f : Addr} {fd : FuncData} (F : Df K "has_name_form" "has_name_form" s_hasform [] f fd) (B : Blt mg) (cCo : Ca P w K mg base 2 "is_count" (sp_count K) []) (cPh : Ca P w K mg base 3 "phase_at" (sp_phaseat K C) []) (cSi : Me P w K mg base 5 C "signs" (sp_signs K C) []) :
    FnOk P w K mg base CX0 6 f fd ["plan", "value"] (sp_hasform2 K C) := by
  refine dfOk F sc_hasform (fun vs H Q E h => ?_) (fun cdv A outer s H vs Q E hr h => ?_)
  · obtain ⟨v, u, rs, b, rfl, _⟩ := h
    rfl
  · obtain ⟨v, u, rs, b, rfl, hp, ha, q⟩ := h
    obtain ⟨pa, dx, fs, rfl, ea, hl⟩ := plan_obj hp
    have l1 := hp.ok.1
    refine ⟨_, (pss_cons (ps_if (pt_not (pt_val (pe_callB call_isi' (by rfl) B.isinstance bt_isinstance (pa_cons (pv 1) (pa_cons (pe_bltn (v := .ty "tuple") (by rfl) B.tuple bt_tuple rfl) pa_nil)))))
  (pss_one (ps_ret pe_bl))
  pss_nil)
  (pss_one (ps_ret (pe_callB (cr_all' rfl) (by rfl) B.all bt_all (pa_cons (pe_lc (own := [("at", 2), ("sign", 3)]) (by rfl) sc_hasform.nd (pi_enumA' (by rfl) B.enumerate (pa_cons (pv 1) pa_nil)) (blkOk_by (own := [("at", 2), ("sign", 3)]) (N := ["plan", "value", "at", "sign"]) (sc := defScope s_hasform) (by decide +kernel)) (fun _ _ _ _ _ => (pg_tup' 2 (pgs_cons (pg_name (i := 2) sc_hasform.nd rfl (Or.inl rfl)) (pgs_cons (pg_name (i := 3) sc_hasform.nd rfl (Or.inl rfl)) pgs_nil)))) (fun _ _ _ _ _ => pts_nil) (fun _ _ _ _ _ => (pe_and (pe_ca cCo hr (by decide) (by rfl) (pa_cons (pv 3) pa_nil)) (pe_one (pe_cmpR op_lt (pv 3) (pe_me cSi hr (by decide) (pv 0) (pa_cons (pe_ca cPh hr (by decide) (by rfl) (pa_cons (pv 0) (pa_cons (pv 2) pa_nil))) pa_nil)) (nomark _)))))) pa_nil))))), ?_⟩
    refine go_start (σ := [some _, some _, none, none]) rfl ?_
    walk_at "go"
    rcases ha with ⟨rfl, t, ty, kt⟩ | ⟨a, xs, rfl, hs, hx, hz, rfl⟩
    · refine ⟨_, _, t, _, false, rfl, .ty _, ty, kt, ?_⟩
      walk_at "go"
      exact q _ (Same.refl _)
    · refine ⟨_, _, _, _, true, rfl, .ty _, tyT hs, kit_ty (by decide +kernel), ?_⟩
      walk_at "go"
      refine fun D hD => lc_nl (K := K) (walk_enumK (b := false) (xs := xs)) ((List.range xs.length).map fun j => PyData.bool (okV rs j (xs.getD j .non))) (by simp) (by omega) (NLs.of fun d hd => by obtain ⟨j, _, rfl⟩ := List.mem_map.mp hd; rfl) hD (fun H' s' => Same.tup s' hs) ?_ ?_ gTup2_mono
      · rintro i e x H1 H2 Q2 hi he s1 ⟨T, y, z, rfl, hT, rfl, hy, hz2⟩ hq
        obtain rfl := Option.some.inj hy
        rw [List.getElem?_map, List.getElem?_range hi] at he
        obtain rfl := Option.some.inj he
        have sT := fun o => s1.trans (same_new (o := o) hT)
        have hph : i % rs.length < rs.length := Nat.mod_lt i l1
        have hz2 : xs[i]? = some z := hz2
        have ez : xs.getD i .non = z := by rw [List.getD_eq_getElem?_getD, hz2]; rfl
        have hz3 := (hx z (List.mem_of_getElem? hz2)).same (sT (.tup [.int (i : Int), z]))
        have hq2 : ∀ w, Dp K (upd H1 T (.tup [.int (i : Int), z])) w (.bool (okV rs i z)) → Q2 w (upd H1 T (.tup [.int (i : Int), z])) := fun w h => hq w _ (same_new hT) (by show Dp K _ w (.bool (okV rs i (xs.getD i .non))); rw [ez]; exact h)
        refine ⟨T, _, rfl, SqT.of upd_same, rfl, _, _, rfl, _, _, rfl, rfl, rfl, ?_⟩
        rcases hz3.split with ⟨n, rfl⟩ | ⟨nx, okf⟩
        · by_cases c0 : (0 : Int) ≤ n
          · refine ⟨_, rfl, tnil (count_int c0 ⟨_, rfl, iteT ?_⟩)⟩
            refine ⟨_, rfl, _, rfl, pa, dx, fs, rfl, sT _ _ _ ea, hl _ (by decide) (by decide) (by decide), _, rfl, _, rfl, _, rs, i, rfl, hp.same (sT _), _, rs, _, rfl, hp.same (sT _), hph, _, _, rfl, rfl, ?_⟩
            have e1 : okV rs i (.int n) = decide (n < ((Pm.S rs (i % rs.length) : Nat) : Int)) := by
              show (decide ((0 : Int) ≤ n) && decide (n < ((Pm.S rs i : Nat) : Int))) = _
              rw [decide_eq_true c0, Bool.true_and]
              unfold Pm.S
              rw [rnd_mod]
            show Q2 (.bl (decide (n < ((Pm.S rs (i % rs.length) : Nat) : Int)))) _
            rw [← e1]
            exact hq2 _ (.bl _)
          · refine ⟨_, rfl, tnil ⟨_, rfl, .inl ⟨n, rfl, ?_⟩⟩⟩
            rw [decide_eq_false c0]
            have e1 : okV rs i (.int n) = false := by
              show (decide ((0 : Int) ≤ n) && decide (n < ((Pm.S rs i : Nat) : Int))) = _
              rw [decide_eq_false c0, Bool.false_and]
            rw [e1] at hq2
            exact ⟨_, rfl, iteF (hq2 _ (.bl _))⟩
        · rw [okf] at hq2
          exact ⟨_, rfl, tnil ⟨_, rfl, .inr ⟨nx, ⟨_, rfl, iteF (hq2 _ (.bl _))⟩⟩⟩⟩
      · rintro H2 ys s2 eD hall
        have hys : ys = ((List.range xs.length).map fun j => okV rs j (xs.getD j .non)).map V.bl := DpAll.boolsE (by rw [List.map_map]; exact hall)
        subst hys
        refine go_all (SqL.of eD) ?_
        rw [List.all_map]
        exact q _ s2
def sp_isname2 (K : PySem.W.Frag) (C : Addr) : Sp := fun vs H Q _ => ∃ (v u : V) (rs : List (List Pm.Cut)) (b : Bool), vs = [v, u] ∧ PlanAt K C H v rs ∧ Ask K H rs u b ∧ ∀ H', Same H H' → Q (.bl b) H'
theorem c_isname2 {K : PySem.W.Frag} {C : Addr} {v u : V} {rs : List (List Pm.Cut)} {b : Bool} {H : Hp} {Q : VK} {E : XK} (h0 : PlanAt K C H v rs) (h1 : Ask K H rs u b) (q : ∀ H', Same H H' → Q (.bl b) H') : sp_isname2 K C [v, u] H Q E := ⟨_, _, _, _, rfl, h0, h1, q⟩
theorem ok_isname2 {f : Addr} {fd : FuncData} (F : Df K "is_name" "is_name" s_isname [] f fd) (cWpl : Ca P w K mg base 1 "want_plan" (sp_wantplan K C) []) (cHf : Ca P w K mg base 6 "has_name_form" (sp_hasform2 K C) []) :
    FnOk P w K mg base CX0 8 f fd ["plan", "value"] (sp_isname2 K C) := by
  refine dfOk F sc_isname (fun vs H Q E h => ?_) (fun cdv A outer s H vs Q E hr h => ?_)
  · obtain ⟨v, u, rs, b, rfl, _⟩ := h
    rfl
  · obtain ⟨v, u, rs, b, rfl, hp, ha, q⟩ := h
    refine ⟨_, (pss_cons (ps_expr (pe_ca cWpl hr (by decide) (by rfl) (pa_cons (pv 0) pa_nil)))
  (pss_one (ps_ret (pe_ca cHf hr (by decide) (by rfl) (pa_cons (pv 0) (pa_cons (pv 1) pa_nil)))))), ?_⟩
    refine go_start (σ := [some _, some _]) rfl ?_
    walk_at "go"
    exact ⟨_, _, _, _, rfl, hp, ha, fun H' s' => q H' s'⟩
end
end T
set_option Elab.async false
namespace Pm
/-- the sign at a place of a round, the cuts from the last one on -/
def sg : List Cut → Nat → Nat → Nat
  | [], _, _ => 0
  | (a, p) :: r, x, y => if a = 0 then x % p + p * sg r (x / p) y else y % p + p * sg r x (y / p)
theorem sg_lt {r : List Cut} (h : ∀ c ∈ r, CutOk c) (x y : Nat) : sg r x y < size r := by
  induction r generalizing x y with
  | nil => simp [sg, size]
  | cons c r ih =>
    obtain ⟨a, p⟩ := c
    have h1 := h (a, p) (List.mem_cons_self ..)
    have hp : 0 < p := Nat.lt_of_lt_of_le (by decide) h1.2.1
    have hr : ∀ c ∈ r, CutOk c := fun c hc => h c (List.mem_cons_of_mem _ hc)
    have key : ∀ z u : Nat, u < size r → z % p + p * u < p * size r := fun z u hu => by
      have hm := Nat.mod_lt z hp
      calc z % p + p * u < p + p * u := by omega
        _ = p * (u + 1) := by rw [Nat.mul_add, Nat.mul_one, Nat.add_comm]
        _ ≤ p * size r := Nat.mul_le_mul_left p hu
    simp only [sg, size]
    split
    · exact key _ _ (ih hr _ _)
    · exact key _ _ (ih hr _ _)
theorem al_sg {r : List Cut} (h : ∀ c ∈ r, CutOk c) {x y : Nat} (hx : x < wid r 0) (hy : y < wid r 1) : al r (sg r x y) 0 = x ∧ al r (sg r x y) 1 = y := by
  induction r generalizing x y with
  | nil => simp [wid] at hx hy; simp [al, hx, hy]
  | cons c r ih =>
    obtain ⟨a, p⟩ := c
    have h1 := h (a, p) (List.mem_cons_self ..)
    have hp : 0 < p := Nat.lt_of_lt_of_le (by decide) h1.2.1
    have hr : ∀ c ∈ r, CutOk c := fun c hc => h c (List.mem_cons_of_mem _ hc)
    have ha : a = 0 ∨ a = 1 := by have := h1.1; simp at this; omega
    have m1 : ∀ z u : Nat, (z % p + p * u) % p = z % p := fun z u => by rw [Nat.add_mul_mod_self_left, Nat.mod_mod]
    have d1 : ∀ z u : Nat, (z % p + p * u) / p = u := fun z u => by rw [Nat.add_mul_div_left _ _ hp, Nat.div_eq_of_lt (Nat.mod_lt z hp), Nat.zero_add]
    rcases ha with rfl | rfl
    · simp only [wid, if_true, Nat.zero_ne_one, if_false, Nat.one_mul] at hx hy
      have hx' : x / p < wid r 0 := Nat.div_lt_of_lt_mul hx
      obtain ⟨i0, i1⟩ := ih hr hx' hy
      simp only [al, sg, if_true, Nat.zero_ne_one, if_false, m1, d1, i0, i1, and_true]
      exact Nat.mod_add_div x p
    · simp only [wid, if_true, Nat.one_ne_zero, if_false, Nat.one_mul] at hx hy
      have hy' : y / p < wid r 1 := Nat.div_lt_of_lt_mul hy
      obtain ⟨i0, i1⟩ := ih hr hx hy'
      simp only [al, sg, if_true, Nat.one_ne_zero, if_false, m1, d1, i0, i1, true_and]
      exact Nat.mod_add_div y p
/-- the sign of phase k -/
def G (rs : List (List Cut)) (k x y : Nat) : Nat := sg (rnd rs k).reverse x y
theorem RdsOk.G_lt {rs : List (List Cut)} (h : RdsOk rs) (k x y : Nat) : G rs k x y < Pm.S rs k := by
  have := sg_lt (r := (Pm.rnd rs k).reverse) (fun c hc => h.cut k c (List.mem_reverse.mp hc)) x y
  rw [size_rev] at this
  exact this
theorem RdsOk.A_G {rs : List (List Cut)} (h : RdsOk rs) {k x y : Nat} (hx : x < Pm.W rs 0 k) (hy : y < Pm.W rs 1 k) : A rs 0 k (G rs k x y) = x ∧ A rs 1 k (G rs k x y) = y := by
  refine al_sg (r := (Pm.rnd rs k).reverse) (fun c hc => h.cut k c (List.mem_reverse.mp hc)) ?_ ?_
  · rw [wid_rev]; exact hx
  · rw [wid_rev]; exact hy
theorem RdsOk.G_A {rs : List (List Cut)} (h : RdsOk rs) {k s : Nat} (hs : s < Pm.S rs k) : G rs k (A rs 0 k s) (A rs 1 k s) = s := by
  have e := h.A_G (h.A_lt 0 k s) (h.A_lt 1 k s)
  refine al_inj (r := (Pm.rnd rs k).reverse) (fun c hc => h.cut k c (List.mem_reverse.mp hc)) ?_ ?_ e.1 e.2
  · rw [size_rev]; exact h.G_lt _ _ _
  · rw [size_rev]; exact hs
/-- the signs of a number pair, the last one first -/
def back (rs : List (List Cut)) : Nat → Nat → Nat → List Nat
  | 0, _, _ => []
  | k + 1, x, y => G rs k (x % W rs 0 k) (y % W rs 1 k) :: back rs k (x / W rs 0 k) (y / W rs 1 k)
def name (rs : List (List Cut)) (f x y : Nat) : List Nat := (back rs f x y).reverse
theorem back_len (rs : List (List Cut)) : ∀ f x y, (back rs f x y).length = f
  | 0, _, _ => rfl
  | f + 1, x, y => by simp [back, back_len rs f]
theorem name_len (rs : List (List Cut)) (f x y : Nat) : (name rs f x y).length = f := by simp [name, back_len]
theorem name_succ (rs : List (List Cut)) (f x y : Nat) : name rs (f + 1) x y = name rs f (x / W rs 0 f) (y / W rs 1 f) ++ [G rs f (x % W rs 0 f) (y % W rs 1 f)] := by simp [name, back]
theorem getD_app_left {a b : List Nat} {k : Nat} (h : k < a.length) : (a ++ b).getD k 0 = a.getD k 0 := by
  rw [List.getD_eq_getElem?_getD, List.getElem?_append_left h, ← List.getD_eq_getElem?_getD]
theorem getD_app_last (a : List Nat) (g : Nat) : (a ++ [g]).getD a.length 0 = g := by
  rw [List.getD_eq_getElem?_getD, List.getElem?_append_right (Nat.le_refl _)]; simp
theorem RdsOk.name_ok {rs : List (List Cut)} (h : RdsOk rs) : ∀ f x y k, k < f → (name rs f x y).getD k 0 < Pm.S rs k
  | 0, _, _, k, hk => by omega
  | f + 1, x, y, k, hk => by
    rw [name_succ]
    have hl := name_len rs f (x / Pm.W rs 0 f) (y / Pm.W rs 1 f)
    rcases Nat.lt_or_ge k f with z | z
    · rw [getD_app_left (by omega)]; exact RdsOk.name_ok h f _ _ k z
    · have : k = (name rs f (x / Pm.W rs 0 f) (y / Pm.W rs 1 f)).length := by omega
      subst this
      rw [getD_app_last, hl]
      exact h.G_lt _ _ _
theorem nm_name {rs : List (List Cut)} (h : RdsOk rs) : ∀ f x y, x < cnt rs 0 f → y < cnt rs 1 f → nm rs 0 (fun k => (name rs f x y).getD k 0) f = x ∧ nm rs 1 (fun k => (name rs f x y).getD k 0) f = y
  | 0, x, y, hx, hy => by simp [cnt] at hx hy; simp [nm, hx, hy]
  | f + 1, x, y, hx, hy => by
    have w0 := h.W 0 f
    have w1 := h.W 1 f
    have hx' : x / Pm.W rs 0 f < cnt rs 0 f := Nat.div_lt_of_lt_mul (by rw [Nat.mul_comm]; exact hx)
    have hy' : y / Pm.W rs 1 f < cnt rs 1 f := Nat.div_lt_of_lt_mul (by rw [Nat.mul_comm]; exact hy)
    obtain ⟨i0, i1⟩ := nm_name h f _ _ hx' hy'
    have hl := name_len rs f (x / Pm.W rs 0 f) (y / Pm.W rs 1 f)
    have a := h.A_G (k := f) (Nat.mod_lt x w0) (Nat.mod_lt y w1)
    have eq : ∀ ax, nm rs ax (fun k => (name rs (f + 1) x y).getD k 0) f = nm rs ax (fun k => (name rs f (x / Pm.W rs 0 f) (y / Pm.W rs 1 f)).getD k 0) f := fun ax => nm_congr fun k hk => by
      rw [name_succ, getD_app_left (by omega)]
    have lst : (name rs (f + 1) x y).getD f 0 = G rs f (x % Pm.W rs 0 f) (y % Pm.W rs 1 f) := by
      rw [name_succ]
      have := getD_app_last (name rs f (x / Pm.W rs 0 f) (y / Pm.W rs 1 f)) (G rs f (x % Pm.W rs 0 f) (y % Pm.W rs 1 f))
      rwa [hl] at this
    simp only [nm, eq, i0, i1, lst, a.1, a.2]
    exact ⟨by rw [Nat.mul_comm]; exact Nat.div_add_mod x _, by rw [Nat.mul_comm]; exact Nat.div_add_mod y _⟩
/-- the name of the number pair of a name -/
theorem name_nm {rs : List (List Cut)} (h : RdsOk rs) {ns : List Nat} (hn : ∀ k, k < ns.length → ns.getD k 0 < Pm.S rs k) : name rs ns.length (nm rs 0 (fun k => ns.getD k 0) ns.length) (nm rs 1 (fun k => ns.getD k 0) ns.length) = ns := by
  have hx := h.nm_lt 0 (fun k => ns.getD k 0) ns.length
  have hy := h.nm_lt 1 (fun k => ns.getD k 0) ns.length
  have e := nm_name h ns.length _ _ hx hy
  have hl := name_len rs ns.length (nm rs 0 (fun k => ns.getD k 0) ns.length) (nm rs 1 (fun k => ns.getD k 0) ns.length)
  have := h.inj (f := fun k => (name rs ns.length (nm rs 0 (fun k => ns.getD k 0) ns.length) (nm rs 1 (fun k => ns.getD k 0) ns.length)).getD k 0) (g := fun k => ns.getD k 0) (n := ns.length) (fun k hk => h.name_ok _ _ _ k hk) hn e.1 e.2
  refine List.ext_getElem hl fun k h1 h2 => ?_
  have t := this k h2
  have gd : ∀ (l : List Nat) (hk : k < l.length), l.getD k 0 = l[k] := fun l hk => by rw [List.getD_eq_getElem?_getD, List.getElem?_eq_getElem hk]; rfl
  exact ((gd _ h1).symm.trans t).trans (gd _ h2)
/-! a plan with its axes exchanged -/
def tu (c : Cut) : Cut := (1 - c.1, c.2)
theorem wid_tu {r : List Cut} (h : ∀ c ∈ r, CutOk c) : wid (r.map tu) 0 = wid r 1 ∧ wid (r.map tu) 1 = wid r 0 := by
  induction r with
  | nil => exact ⟨rfl, rfl⟩
  | cons c r ih =>
    obtain ⟨a, p⟩ := c
    have h1 := h (a, p) (List.mem_cons_self ..)
    obtain ⟨i0, i1⟩ := ih fun c hc => h c (List.mem_cons_of_mem _ hc)
    have ha : a = 0 ∨ a = 1 := by have := h1.1; simp at this; omega
    rcases ha with rfl | rfl <;> simp [wid, tu, i0, i1]
theorem size_tu (r : List Cut) : size (r.map tu) = size r := by
  induction r with
  | nil => rfl
  | cons c r ih => obtain ⟨a, p⟩ := c; simp [size, tu, ih]
theorem cut_tu {c : Cut} (h : CutOk c) : CutOk (tu c) := ⟨by have := h.1; simp [tu]; omega, h.2⟩
theorem rnd_tu {r : List Cut} (h : RndOk r) : RndOk (r.map tu) :=
  ⟨by rw [List.length_map]; exact h.1, by rw [List.length_map]; exact h.2.1, fun c hc => by obtain ⟨d, hd, rfl⟩ := List.mem_map.mp hc; exact cut_tu (h.2.2.1 d hd), by rw [size_tu]; exact h.2.2.2⟩
theorem tot_tu {rs : List (List Cut)} (h : ∀ r ∈ rs, RndOk r) : tot (rs.map (·.map tu)) 0 = tot rs 1 ∧ tot (rs.map (·.map tu)) 1 = tot rs 0 := by
  unfold tot
  induction rs with
  | nil => exact ⟨rfl, rfl⟩
  | cons r rs ih =>
    obtain ⟨i0, i1⟩ := ih fun r hr => h r (List.mem_cons_of_mem _ hr)
    have w := wid_tu (h r (List.mem_cons_self ..)).2.2.1
    simp only [List.map_cons, List.foldr_cons]
    rw [i0, i1, w.1, w.2]
    exact ⟨rfl, rfl⟩
def turn (rs : List (List Cut)) : List (List Cut) := rs.map (·.map tu)
theorem RdsOk.turn {rs : List (List Cut)} (h : RdsOk rs) : RdsOk (turn rs) := by
  have t := tot_tu h.2.2.1
  refine ⟨by rw [Pm.turn, List.length_map]; exact h.1, by rw [Pm.turn, List.length_map]; exact h.2.1, fun r hr => ?_, ?_⟩
  · obtain ⟨q, hq, rfl⟩ := List.mem_map.mp hr
    exact rnd_tu (h.2.2.1 q hq)
  · unfold Pm.turn
    rw [t.1, t.2]
    exact h.2.2.2.symm
theorem rnd_turn (rs : List (List Cut)) (k : Nat) : rnd (turn rs) k = (rnd rs k).map tu := by
  unfold rnd turn
  rw [List.length_map, List.getD_eq_getElem?_getD, List.getD_eq_getElem?_getD, List.getElem?_map]
  cases rs[k % rs.length]? <;> rfl
theorem RdsOk.W_turn {rs : List (List Cut)} (h : RdsOk rs) (k : Nat) : Pm.W (Pm.turn rs) 0 k = Pm.W rs 1 k ∧ Pm.W (Pm.turn rs) 1 k = Pm.W rs 0 k := by
  unfold Pm.W
  rw [rnd_turn]
  exact wid_tu (h.cut k)
theorem S_turn (rs : List (List Cut)) (k : Nat) : Pm.S (turn rs) k = Pm.S rs k := by
  unfold S
  rw [rnd_turn, size_tu]
theorem al_tu {r : List Cut} (h : ∀ c ∈ r, CutOk c) (s : Nat) : al (r.map tu) s 0 = al r s 1 ∧ al (r.map tu) s 1 = al r s 0 := by
  induction r generalizing s with
  | nil => exact ⟨rfl, rfl⟩
  | cons c r ih =>
    obtain ⟨a, p⟩ := c
    have h1 := h (a, p) (List.mem_cons_self ..)
    obtain ⟨i0, i1⟩ := ih (fun c hc => h c (List.mem_cons_of_mem _ hc)) (s / p)
    have ha : a = 0 ∨ a = 1 := by have := h1.1; simp at this; omega
    rcases ha with rfl | rfl <;> simp [al, tu, i0, i1]
theorem RdsOk.A_turn {rs : List (List Cut)} (h : RdsOk rs) (k s : Nat) : A (Pm.turn rs) 0 k s = A rs 1 k s ∧ A (Pm.turn rs) 1 k s = A rs 0 k s := by
  unfold A
  rw [rnd_turn, ← List.map_reverse]
  exact al_tu (fun c hc => h.cut k c (List.mem_reverse.mp hc)) s
theorem RdsOk.nm_turn {rs : List (List Cut)} (h : RdsOk rs) (f : Nat → Nat) (n : Nat) : nm (Pm.turn rs) 0 f n = nm rs 1 f n ∧ nm (Pm.turn rs) 1 f n = nm rs 0 f n := by
  induction n with
  | zero => exact ⟨rfl, rfl⟩
  | succ n ih =>
    have w := h.W_turn n
    have a := h.A_turn n (f n)
    simp only [nm, ih.1, ih.2, w.1, w.2, a.1, a.2]
    exact ⟨trivial, trivial⟩
theorem RdsOk.cnt_turn {rs : List (List Cut)} (h : RdsOk rs) (n : Nat) : cnt (Pm.turn rs) 0 n = cnt rs 1 n ∧ cnt (Pm.turn rs) 1 n = cnt rs 0 n := by
  induction n with
  | zero => exact ⟨rfl, rfl⟩
  | succ n ih =>
    have w := h.W_turn n
    simp only [cnt, ih.1, ih.2, w.1, w.2]
    exact ⟨trivial, trivial⟩
theorem turn_turn {rs : List (List Cut)} (h : RdsOk rs) : turn (turn rs) = rs := by
  unfold turn
  rw [List.map_map]
  conv => rhs; rw [← List.map_id rs]
  refine List.map_congr_left fun r hr => ?_
  show (r.map tu).map tu = r
  rw [List.map_map]
  conv => rhs; rw [← List.map_id r]
  refine List.map_congr_left fun c hc => ?_
  have := ((h.2.2.1 r hr).2.2.1 c hc).1
  show (1 - (1 - c.1), c.2) = c
  rw [show 1 - (1 - c.1) = c.1 by omega]
end Pm
set_option Elab.async false
set_option maxRecDepth 100000
set_option maxHeartbeats 4000000
namespace T
open PySem L2 Mv
abbrev s_wantfine : Stmt := top 37
theorem sc_wantfine : FnScope ["value"] ["value"] (defScope s_wantfine) := ⟨rfl, rfl, rfl, by decide +kernel, rfl, by decide +kernel, by decide +kernel⟩
abbrev s_pcounts : Stmt := inClass (top 44) 14
theorem sc_pcounts : FnScope ["self", "f"] ["self", "f"] (defScope s_pcounts) := ⟨rfl, rfl, rfl, by decide +kernel, rfl, by decide +kernel, by decide +kernel⟩
abbrev s_signin : Stmt := top 43
theorem sc_signin : FnScope ["cuts", "pair", "left", "found", "count", "axis", "parts", "at"] ["cuts", "pair"] (defScope s_signin) := ⟨rfl, rfl, rfl, by decide +kernel, rfl, by decide +kernel, by decide +kernel⟩
abbrev s_signat : Stmt := inClass (top 44) 13
theorem sc_signat : FnScope ["self", "phase", "pair", "number", "columns", "rows"] ["self", "phase", "pair"] (defScope s_signat) := ⟨rfl, rfl, rfl, by decide +kernel, rfl, by decide +kernel, by decide +kernel⟩
abbrev s_signsof : Stmt := top 3
theorem sc_signsof : FnScope ["plan", "f", "pair", "x", "y", "found", "position", "phase", "columns", "rows"] ["plan", "f", "pair"] (defScope s_signsof) := ⟨rfl, rfl, rfl, by decide +kernel, rfl, by decide +kernel, by decide +kernel⟩
abbrev s_ispair : Stmt := top 50
theorem sc_ispair : FnScope ["plan", "f", "value", "number", "columns", "rows"] ["plan", "f", "value"] (defScope s_ispair) := ⟨rfl, rfl, rfl, by decide +kernel, rfl, by decide +kernel, by decide +kernel⟩
abbrev s_nameof : Stmt := top 52
theorem sc_nameof : FnScope ["plan", "f", "pair"] ["plan", "f", "pair"] (defScope s_nameof) := ⟨rfl, rfl, rfl, by decide +kernel, rfl, by decide +kernel, by decide +kernel⟩
section
variable {P : Program} {w : World} {K : PySem.W.Frag} {mg : Str → Option Value} {base : Heap} {C AX : Addr}
def sp_wantfine : Sp := fun vs H Q _ => ∃ (f : Nat), vs = [.int f] ∧ f ≤ 1000 ∧ Q .non H
theorem c_wantfine {f : Nat} {H : Hp} {Q : VK} {E : XK} (h0 : f ≤ 1000) (q : Q .non H) : sp_wantfine  [.int f] H Q E := ⟨_, rfl, h0, q⟩
theorem ok_wantfine {f : Addr} {fd : FuncData} (F : Df K "want_fineness" "want_fineness" s_wantfine [] f fd) (G : PlG K mg C AX) (cCo : Ca P w K mg base 2 "is_count" (sp_count K) []) : FnOk P w K mg base CX0 3 f fd ["value"] sp_wantfine := by
  refine dfOk F sc_wantfine (fun vs H Q E h => ?_) (fun cdv A outer s H vs Q E hr h => ?_)
  · obtain ⟨f, rfl, _⟩ := h
    rfl
  · obtain ⟨f, rfl, hf, q⟩ := h
    refine ⟨_, (pss_cons (ps_if (pt_not (pt_val (pe_ca cCo hr (by decide) (by rfl) (pa_cons (pv 0) pa_nil))))
  pss_never
  pss_nil)
  (pss_one (ps_if (pt_cmpR op_gt (pv 0) (pe_globI G.fine (by rfl)) (nomark _))
  pss_never
  pss_nil))), ?_⟩
    refine ⟨_, rfl, tnil (count_int (by omega) ⟨_, rfl, iteF ?_⟩)⟩
    refine ⟨_, rfl, _, _, rfl, rfl, _, rfl, ?_⟩
    rw [decide_eq_false (show ¬ ((1000 : Int) < (f : Int)) by omega)]
    exact iteF q
def sp_pcounts (K : PySem.W.Frag) (C : Addr) : Sp := fun vs H Q _ => ∃ (v : V) (rs : List (List Pm.Cut)) (f : Nat), vs = [v, .int f] ∧ PlanAt K C H v rs ∧ f ≤ 1000 ∧
  ∀ t H', Same H H' → H' t = some (.tup [.int (Pm.cnt rs 0 f), .int (Pm.cnt rs 1 f)]) → Q (.ref t) H'
theorem c_pcounts {K : PySem.W.Frag} {C : Addr} {v : V} {rs : List (List Pm.Cut)} {f : Nat} {H : Hp} {Q : VK} {E : XK} (h0 : PlanAt K C H v rs) (h1 : f ≤ 1000) (q : ∀ t H', Same H H' → H' t = some (.tup [.int (Pm.cnt rs 0 f), .int (Pm.cnt rs 1 f)]) → Q (.ref t) H') : sp_pcounts K C [v, .int f] H Q E := ⟨_, _, _, rfl, h0, h1, q⟩
theorem ok_pcounts {f : Addr} {fd : FuncData} (F : Df K "counts" "Plan.counts" s_pcounts [] f fd) (cWf : Ca P w K mg base 3 "want_fineness" sp_wantfine []) (cPr : Me P w K mg base 1 C "product_of" (sp_prod K C) []) : FnOk P w K mg base CX0 4 f fd ["self", "f"] (sp_pcounts K C) := by
  refine dfOk F sc_pcounts (fun vs H Q E h => ?_) (fun cdv A outer s H vs Q E hr h => ?_)
  · obtain ⟨v, rs, f, rfl, _⟩ := h
    rfl
  · obtain ⟨v, rs, f, rfl, hp, hf, q⟩ := h
    obtain ⟨a, dx, R, Pt, rfl, ea, hR, hP⟩ := hp.ex
    refine ⟨_, (pss_cons (ps_expr (pe_ca cWf hr (by decide) (by rfl) (pa_cons (pv 1) pa_nil)))
  (pss_one (ps_ret (pe_me cPr hr (by decide) (pv 0) (pa_cons (pv 1) pa_nil))))), ?_⟩
    refine ⟨_, rfl, f, rfl, hf, ?_⟩
    exact ⟨_, rfl, a, dx, _, rfl, ea, rfl, _, rfl, a, dx, _, Pt, rs, f, rfl, by omega, ea, rfl, hP, hp.ok, q⟩
/-! sign_in -/
theorem dr_cons {α : Type} {l : List α} {i : Nat} {c : α} (h : l[i]? = some c) : l.drop i = c :: l.drop (i + 1) := by
  have hi := (List.getElem?_eq_some_iff.mp h).1
  rw [List.drop_eq_getElem_cons hi]
  congr 1
  rw [List.getElem?_eq_getElem hi] at h
  exact Option.some.inj h
theorem upd_id {H : Hp} {a : Addr} {o : HO} (h : H a = some o) : upd H a o = H := by
  funext b
  by_cases e : b = a
  · subst e; rw [upd_same]; exact h.symm
  · rw [upd_ne e]
def sp_signin (K : PySem.W.Frag) : Sp := fun vs H Q _ => ∃ (v u : V) (r : List Pm.Cut) (x y : Nat), vs = [v, u] ∧ Dp K H v (pRnd r) ∧ Pm.RndOk r ∧ Dp K H u (.tuple [.int x, .int y]) ∧ ∀ H', Same H H' → Q (.int (Pm.sg r.reverse x y)) H'
theorem c_signin {K : PySem.W.Frag} {v u : V} {r : List Pm.Cut} {x y : Nat} {H : Hp} {Q : VK} {E : XK} (h0 : Dp K H v (pRnd r)) (h1 : Pm.RndOk r) (h2 : Dp K H u (.tuple [.int x, .int y])) (q : ∀ H', Same H H' → Q (.int (Pm.sg r.reverse x y)) H') : sp_signin K [v, u] H Q E := ⟨_, _, _, _, _, rfl, h0, h1, h2, q⟩
theorem ok_signin {f : Addr} {fd : FuncData} (F : Df K "sign_in" "sign_in" s_signin [] f fd) (B : Blt mg) (G : PlG K mg C AX) : FnOk P w K mg base CX0 1 f fd ["cuts", "pair"] (sp_signin K) := by
  refine dfOk F sc_signin (fun vs H Q E h => ?_) (fun cdv A outer s H vs Q E hr h => ?_)
  · obtain ⟨v, u, r, x, y, rfl, _⟩ := h
    rfl
  · obtain ⟨v, u, r, x0, y0, rfl, hd, hok, hu, q⟩ := h
    obtain ⟨a, xs, rfl, hs, ha⟩ := hd.lstE
    obtain ⟨b, rfl, hb⟩ := pair_at hu
    have har := ha.rev
    rw [← List.map_reverse] at har
    have hlen : xs.reverse.length = r.reverse.length := by rw [har.len, List.length_map]
    have hcut : ∀ c ∈ r.reverse, Pm.CutOk c := fun c hc => hok.2.2.1 c (List.mem_reverse.mp hc)
    generalize r.reverse = rr at *
    refine ⟨_, (pss_cons (ps_par3 (i := 2) (j := 3) (l := 4) (by rfl) sc_signin.nd rfl rfl rfl (by decide) (by decide) (by decide) rfl rfl rfl (pa_cons (pe_callTy call_list_of' (by rfl) B.list bt_list (pa_cons (pv 1) pa_nil)) (pa_cons pe_int (pa_cons pe_int pa_nil))) (by rfl))
  (pss_cons (ps_for PassesOwn.never rfl (pi_list (pe_revL (pv 0))) (pg_tup' 2 (pgs_cons (pg_name (i := 5) sc_signin.nd rfl (Or.inl rfl)) (pgs_cons (pg_name (i := 6) sc_signin.nd rfl (Or.inl rfl)) pgs_nil)))
  (pss_cons (ps_set (i := 7) sc_signin.nd rfl (Or.inl rfl) (pe_bm PySem.F.plainAttrs_tuple PySem.F.slot_tuple_index PySem.F.type_tuple_index mt_tup_index (pe_glob (v := .ref AX) (by rfl) G.axes rfl) (pa_cons (pv 5) pa_nil)))
  (pss_cons (ps_set (i := 3) sc_signin.nd rfl (Or.inl rfl) (pe_op op_add (pv 3) (pe_op op_mul (pe_op op_mod (pe_ix ix_list' (pv 2) (pv 7) (fun _ _ => rfl)) (pv 6)) (pv 4))))
  (pss_cons (ps_set (i := 4) sc_signin.nd rfl (Or.inl rfl) (pe_op op_mul (pv 4) (pv 6)))
  (pss_one (ps_asg (pe_op op_fdiv (pe_ix ix_list' (pv 2) (pv 7) (fun _ _ => rfl)) (pv 6)) (pg_sub (pv 2) (pv 7) set_list)))))))
  (pss_one (ps_ret (pv 3))))), ?_⟩
    refine ⟨_, rfl, b, _, rfl, .inr hb, fun lf hlf => ?_⟩
    have s1 := fun o => same_new (o := o) hlf
    refine ⟨_, _, _, rfl, ?_⟩
    have elf : upd H lf (.lst [.int x0, .int y0]) lf = some (.lst [.int x0, .int y0]) := upd_same
    have s1' := s1 (.lst [.int x0, .int y0])
    generalize upd H lf (.lst [.int x0, .int y0]) = H1 at *
    refine ⟨_, rfl, a, xs, rfl, s1'.seq hs, fun l hl => ?_⟩
    have hlne : l ≠ lf := fun z => by rw [z, elf] at hl; cases hl
    have s3 := s1'.trans (same_new (o := .lst xs.reverse) hl)
    have elf3 := same_new (o := .lst xs.reverse) hl _ _ elf
    have el : upd H1 l (.lst xs.reverse) l = some (.lst xs.reverse) := upd_same
    have har3 := har.up s3
    generalize upd H1 l (.lst xs.reverse) = H3 at *
    have nlc : NLs (rr.map pCut) = true := NLs.map _ NL.pCut rr
    refine ⟨l, rfl, ⟨_, SqL.of el⟩, for_it (walk_list (xs := xs.reverse)) (fun i σ H' => ∃ (v5 v6 v7 : Option V) (fo co x y : Nat), σ = [some (.ref a), some (.ref b), some (.ref lf), some (.int fo), some (.int co), v5, v6, v7] ∧ H' = upd H3 lf (.lst [.int x, .int y]) ∧ fo + co * Pm.sg (rr.drop i) x y = Pm.sg rr x0 y0)
      ⟨_, _, _, 0, 1, x0, y0, rfl, (upd_id elf3).symm, by simp⟩ (fun i σ H' _ h => by obtain ⟨_, _, _, _, _, _, _, _, rfl, _⟩ := h; exact SqL.of (by rw [upd_ne hlne]; exact el)) ?_ ?_⟩
    · rintro i z σ H' H'' hi ⟨v5, v6, v7, fo, co, x, y, rfl, rfl, hinv⟩ ⟨rfl, hx⟩
      have bu : Bu lf H3 (upd H3 lf (.lst [.int x, .int y])) := Bu.set
      obtain ⟨d, hd1, hd2⟩ := (har3.bu nlc bu elf3).get hx
      rw [List.getElem?_map] at hd1
      obtain ⟨c, hc1, rfl⟩ := Option.map_eq_some_iff.mp hd1
      have hc := hcut c (List.mem_of_getElem? hc1)
      obtain ⟨t, rfl, ht⟩ := cut_at hd2
      have hp1 := hc.2.1
      have hp2 := hc.2.2
      rw [dr_cons hc1] at hinv
      obtain ⟨ca, cp⟩ := c
      have hca : ca = 0 ∨ ca = 1 := by have := hc.1; simp at this; omega
      simp only at hp1 hp2
      replace ht : SqT K (upd H3 lf (.lst [.int x, .int y])) t [.str (axn ca), .int cp] := ht
      refine ⟨t, _, rfl, ht, rfl, _, _, rfl, _, _, rfl, rfl, ?_⟩
      rcases hca with rfl | rfl
      · simp only [Pm.sg, if_true] at hinv
        refine ⟨.inr (.inl ⟨rfl, G.axk⟩), _, rfl, AX, ["east", "north"], "east", 0, rfl, rfl, G.axt _, rfl, fun m hm => by omega, ?_⟩
        refine ⟨_, rfl, _, rfl, _, rfl, lf, _, _, _, rfl, rfl, SqL.of upd_same, rfl, _, rfl, _, _, rfl, rfl, by show (0 : Int) < (cp : Int); omega, _, rfl, _, _, rfl, rfl, ?_, _, _, rfl, rfl, ?_⟩
        · have := Int.emod_lt_of_pos (x : Int) (show (0 : Int) < (cp : Int) by omega)
          have := Int.emod_nonneg (x : Int) (show (cp : Int) ≠ 0 by omega)
          exact .inl ⟨by omega, by omega⟩
        refine ⟨_, rfl, _, rfl, _, _, rfl, rfl, .inr ⟨by show -(2 ^ 64) < (cp : Int); omega, by show (cp : Int) < 2 ^ 64; omega⟩, ?_⟩
        refine ⟨_, rfl, _, rfl, lf, _, _, _, rfl, rfl, SqL.of upd_same, rfl, _, rfl, _, _, rfl, rfl, ⟨by omega, by omega⟩, _, rfl, _, rfl, lf, _, _, 0, rfl, rfl, upd_same, rfl, ?_⟩
        refine ⟨some (.str (axn 0)), some (.int cp), some (.int 0), fo + x % cp * co, co * cp, x / cp, y, ?_, ?_, ?_⟩
        · simp only [Int.natCast_add, Int.natCast_mul, Int.natCast_emod]
          rfl
        · rw [upd_upd]
          simp
        · rw [← hinv, Nat.mul_add, ← Nat.mul_assoc, ← Nat.add_assoc, Nat.mul_comm (x % cp)]
      · simp only [Pm.sg, Nat.one_ne_zero, if_false] at hinv
        refine ⟨.inr (.inl ⟨rfl, G.axk⟩), _, rfl, AX, ["east", "north"], "north", 1, rfl, rfl, G.axt _, rfl, fun m hm => by (obtain rfl : m = 0 := by omega); decide, ?_⟩
        refine ⟨_, rfl, _, rfl, _, rfl, lf, _, _, _, rfl, rfl, SqL.of upd_same, rfl, _, rfl, _, _, rfl, rfl, by show (0 : Int) < (cp : Int); omega, _, rfl, _, _, rfl, rfl, ?_, _, _, rfl, rfl, ?_⟩
        · have := Int.emod_lt_of_pos (y : Int) (show (0 : Int) < (cp : Int) by omega)
          have := Int.emod_nonneg (y : Int) (show (cp : Int) ≠ 0 by omega)
          exact .inl ⟨by omega, by omega⟩
        refine ⟨_, rfl, _, rfl, _, _, rfl, rfl, .inr ⟨by show -(2 ^ 64) < (cp : Int); omega, by show (cp : Int) < 2 ^ 64; omega⟩, ?_⟩
        refine ⟨_, rfl, _, rfl, lf, _, _, _, rfl, rfl, SqL.of upd_same, rfl, _, rfl, _, _, rfl, rfl, ⟨by omega, by omega⟩, _, rfl, _, rfl, lf, _, _, 1, rfl, rfl, upd_same, rfl, ?_⟩
        refine ⟨some (.str (axn 1)), some (.int cp), some (.int 1), fo + y % cp * co, co * cp, x, y / cp, ?_, ?_, ?_⟩
        · simp only [Int.natCast_add, Int.natCast_mul, Int.natCast_emod]
          rfl
        · rw [upd_upd]
          simp
        · rw [← hinv, Nat.mul_add, ← Nat.mul_assoc, ← Nat.add_assoc, Nat.mul_comm (y % cp)]
    · rintro σ H' ⟨v5, v6, v7, fo, co, x, y, rfl, rfl, hinv⟩
      refine ⟨_, rfl, ?_⟩
      rw [hlen, List.drop_length] at hinv
      simp only [Pm.sg, Nat.mul_zero, Nat.add_zero] at hinv
      rw [hinv]
      exact q _ (same_over s3 hlf)
/-! sign_at -/
def sp_signat (K : PySem.W.Frag) (C : Addr) : Sp := fun vs H Q _ => ∃ (v u : V) (rs : List (List Pm.Cut)) (ph x y : Nat), vs = [v, .int ph, u] ∧ PlanAt K C H v rs ∧ ph < rs.length ∧ Dp K H u (.tuple [.int x, .int y]) ∧ x < Pm.W rs 0 ph ∧ y < Pm.W rs 1 ph ∧
  ∀ H', Same H H' → Q (.int (Pm.G rs ph x y)) H'
theorem c_signat {K : PySem.W.Frag} {C : Addr} {v u : V} {rs : List (List Pm.Cut)} {ph x y : Nat} {H : Hp} {Q : VK} {E : XK} (h0 : PlanAt K C H v rs) (h1 : ph < rs.length) (h2 : Dp K H u (.tuple [.int x, .int y])) (h3 : x < Pm.W rs 0 ph) (h4 : y < Pm.W rs 1 ph) (q : ∀ H', Same H H' → Q (.int (Pm.G rs ph x y)) H') : sp_signat K C [v, .int ph, u] H Q E := ⟨_, _, _, _, _, _, rfl, h0, h1, h2, h3, h4, q⟩
theorem ok_signat {f : Addr} {fd : FuncData} (F : Df K "sign_at" "Plan.sign_at" s_signat [] f fd) (B : Blt mg) (G : PlG K mg C AX) (cWP : Ca P w K mg base 3 "want_phase" (sp_wantphase K C) []) (cCo : Ca P w K mg base 2 "is_count" (sp_count K) []) (cSin : Ca P w K mg base 1 "sign_in" (sp_signin K) []) :
    FnOk P w K mg base CX0 4 f fd ["self", "phase", "pair"] (sp_signat K C) := by
  refine dfOk F sc_signat (fun vs H Q E h => ?_) (fun cdv A outer s H vs Q E hr h => ?_)
  · obtain ⟨v, u, rs, ph, x, y, rfl, _⟩ := h
    rfl
  · obtain ⟨v, u, rs, ph, x, y, rfl, hp, hph, hu, hx, hy, q⟩ := h
    obtain ⟨b, rfl, hb⟩ := pair_at hu
    refine ⟨_, (pss_cons (ps_expr (pe_ca cWP hr (by decide) (by rfl) (pa_cons (pv 0) (pa_cons (pv 1) pa_nil))))
  (pss_cons (ps_if (PW.pt (pw_or (pt_not (pt_val (pe_callB call_isi' (by rfl) B.isinstance bt_isinstance (pa_cons (pv 2) (pa_cons (pe_bltn (v := .ty "tuple") (by rfl) B.tuple bt_tuple rfl) pa_nil))))) (pw_or (pt_cmpR op_ne (pe_callB call_len_seq' (by rfl) B.len bt_len (pa_cons (pv 2) pa_nil)) pe_int (nomark _)) (pw_or1 (pt_not (pt_val (pe_callB (cr_all rfl) (by rfl) B.all bt_all (pa_cons (pe_lc (own := [("number", 3)]) (by rfl) sc_signat.nd (pi_tup (pv 2)) (blkOk_by (own := [("number", 3)]) (N := ["self", "phase", "pair", "number", "columns", "rows"]) (sc := defScope s_signat) (by decide +kernel)) (fun _ _ _ _ _ => (pg_name (i := 3) sc_signat.nd rfl (Or.inl rfl))) (fun _ _ _ _ _ => pts_nil) (fun _ _ _ _ _ => (pe_ca cCo hr (by decide) (by rfl) (pa_cons (pv 3) pa_nil)))) pa_nil))))))))
  pss_never
  pss_nil)
  (pss_cons (ps_asg (pe_ix ix_list' (pe_fld (pv 0) rfl) (pv 1) (fun _ _ => rfl)) (pg_tup' 2 (pgs_cons (pg_name (i := 4) sc_signat.nd rfl (Or.inl rfl)) (pgs_cons (pg_name (i := 5) sc_signat.nd rfl (Or.inl rfl)) pgs_nil))))
  (pss_cons (ps_if (PW.pt (pw_or (pt_cmpR op_ge (pe_ix ix_tup' (pv 2) pe_int (fun _ _ => rfl)) (pv 4) (nomark _)) (pw_or1 (pt_cmpR op_ge (pe_ix ix_tup' (pv 2) pe_int (fun _ _ => rfl)) (pv 5) (nomark _)))))
  pss_never
  pss_nil)
  (pss_one (ps_ret (pe_ca cSin hr (by decide) (by rfl) (pa_cons (pe_ix ix_list' (pe_fld (pv 0) rfl) (pv 1) (fun _ _ => rfl)) (pa_cons (pv 2) pa_nil))))))))), ?_⟩
    refine ⟨_, rfl, _, rfl, _, rs, ph, rfl, hp, hph, ?_⟩
    refine ⟨_, rfl, _, _, _, _, true, rfl, .ty _, tyT hb, kit_ty (by decide +kernel), true, rfl, iteF ?_⟩
    refine ⟨_, rfl, b, _, rfl, .inr hb, rfl, _, rfl, iteF ?_⟩
    refine ⟨_, rfl, b, rfl, ⟨_, hb⟩, fun D hD => lc_nl (K := K) (walk_tup (xs := [.int x, .int y])) (List.replicate 2 (.bool true)) (by simp) (by show 2 ≤ 100000; decide) rfl hD (fun H' s' => Same.tup s' hb) ?_ ?_ gName_mono⟩
    · rintro i e z H2 _ Q2 hi he s2 ⟨rfl, hx⟩ hq
      refine ⟨rfl, ?_⟩
      obtain rfl : e = .bool true := List.eq_of_mem_replicate (List.mem_of_getElem? he)
      obtain ⟨n, rfl⟩ : ∃ n : Nat, z = .int n := by
        have hm := List.mem_of_getElem? hx
        simp only [List.mem_cons, List.not_mem_nil, or_false] at hm
        rcases hm with rfl | rfl
        · exact ⟨x, rfl⟩
        · exact ⟨y, rfl⟩
      exact ⟨_, rfl, tnil (count_int (by omega) (hq _ _ (Same.refl _) (.bl true)))⟩
    rintro H1 ys s1 eD hall
    have hys : ys = (List.replicate 2 true).map V.bl := DpAll.boolsE (by rw [List.map_replicate]; exact hall)
    refine ⟨D, List.replicate 2 true, rfl, SqL.of (by rw [eD, hys]), _, rfl, iteF ?_⟩
    have hb1 := Same.tup s1 hb
    have hp1 := hp.same s1
    have hu1 := hu.up s1
    obtain ⟨a, dx, R, Pt, rfl, ea, hR, hP⟩ := hp1.ex
    obtain ⟨pa, xs, rfl, hs, ha⟩ := hP.lstE
    obtain ⟨z, hz, hdz⟩ := ha.got (i := ph) (by rw [List.getElem?_map, rs_get hph]; rfl)
    obtain ⟨t, rfl, ht⟩ := pair_at hdz
    obtain ⟨ra, rx, rfl, hsr, har⟩ := hR.lstE
    obtain ⟨z2, hz2, hdz2⟩ := har.got (i := ph) (by rw [List.getElem?_map, rs_get hph]; rfl)
    refine ⟨_, rfl, a, C, dx, _, _, rfl, ea, G.I.cl, G.nP, rfl, _, rfl, pa, xs, _, .ref t, rfl, rfl, hs, atI_nat hz, t, _, rfl, ht, rfl, _, _, rfl, _, _, rfl, rfl, ?_⟩
    refine ⟨_, rfl, b, _, _, _, rfl, rfl, hb1, rfl, _, rfl, _, _, rfl, rfl, _, rfl, ?_⟩
    rw [decide_eq_false (show ¬ ((Pm.wid (Pm.rnd rs ph) 0 : Nat) : Int) ≤ (x : Int) by have : x < Pm.wid (Pm.rnd rs ph) 0 := hx; omega)]
    refine iteF ?_
    refine ⟨_, rfl, b, _, _, _, rfl, rfl, hb1, rfl, _, rfl, _, _, rfl, rfl, _, rfl, ?_⟩
    rw [decide_eq_false (show ¬ ((Pm.wid (Pm.rnd rs ph) 1 : Nat) : Int) ≤ (y : Int) by have : y < Pm.wid (Pm.rnd rs ph) 1 := hy; omega)]
    refine iteF ?_
    exact ⟨_, rfl, a, C, dx, _, _, rfl, ea, G.I.cl, G.nR, rfl, _, rfl, ra, rx, _, z2, rfl, rfl, hsr, atI_nat hz2, _, rfl, z2, _, _, x, y, rfl, hdz2, hp.ok.rnd ph, hu1, fun H' s' => q H' (s1.trans s')⟩
/-! signs_of -/
def sp_signsof (K : PySem.W.Frag) (C : Addr) : Sp := fun vs H Q _ => ∃ (v u : V) (rs : List (List Pm.Cut)) (f x y : Nat), vs = [v, .int f, u] ∧ PlanAt K C H v rs ∧ f ≤ 1000 ∧ Dp K H u (.tuple [.int x, .int y]) ∧
  ∀ t H', Same H H' → Dp K H' t (dNm (Pm.name rs f x y)) → Q t H'
theorem c_signsof {K : PySem.W.Frag} {C : Addr} {v u : V} {rs : List (List Pm.Cut)} {f x y : Nat} {H : Hp} {Q : VK} {E : XK} (h0 : PlanAt K C H v rs) (h1 : f ≤ 1000) (h2 : Dp K H u (.tuple [.int x, .int y])) (q : ∀ t H', Same H H' → Dp K H' t (dNm (Pm.name rs f x y)) → Q t H') : sp_signsof K C [v, .int f, u] H Q E := ⟨_, _, _, _, _, _, rfl, h0, h1, h2, q⟩
theorem ok_signsof {f : Addr} {fd : FuncData} (F : Df K "signs_of" "signs_of" s_signsof [] f fd) (B : Blt mg) (cPh : Ca P w K mg base 3 "phase_at" (sp_phaseat K C) []) (cPa : Me P w K mg base 4 C "parts" (sp_parts K C) []) (cSa : Me P w K mg base 4 C "sign_at" (sp_signat K C) []) :
    FnOk P w K mg base CX0 5 f fd ["plan", "f", "pair"] (sp_signsof K C) := by
  refine dfOk F sc_signsof (fun vs H Q E h => ?_) (fun cdv A outer s H vs Q E hr h => ?_)
  · obtain ⟨v, u, rs, f, x, y, rfl, _⟩ := h
    rfl
  · obtain ⟨v, u, rs, f, x0, y0, rfl, hp, hf, hu, q⟩ := h
    obtain ⟨b, rfl, hb⟩ := pair_at hu
    obtain ⟨a, dx, fs, rfl, ea, hl⟩ := plan_obj hp
    refine ⟨_, (pss_cons (ps_asg (pv 2) (pg_tup' 2 (pgs_cons (pg_name (i := 3) sc_signsof.nd rfl (Or.inl rfl)) (pgs_cons (pg_name (i := 4) sc_signsof.nd rfl (Or.inl rfl)) pgs_nil))))
  (pss_cons (ps_set (i := 5) sc_signsof.nd rfl (Or.inl rfl) (pe_lst pa_nil))
  (pss_cons (ps_for PassesOwn.never rfl (pi_range3 (by rfl) B.range (pa_cons (pe_op op_sub (pv 1) pe_int) (pa_cons (pe_un un_neg pe_int) (pa_cons (pe_un un_neg pe_int) pa_nil)))) (pg_name (i := 6) sc_signsof.nd rfl (Or.inl rfl))
  (pss_cons (ps_set (i := 7) sc_signsof.nd rfl (Or.inl rfl) (pe_ca cPh hr (by decide) (by rfl) (pa_cons (pv 0) (pa_cons (pv 6) pa_nil))))
  (pss_cons (ps_asg (pe_me cPa hr (by decide) (pv 0) (pa_cons (pv 7) pa_nil)) (pg_tup' 2 (pgs_cons (pg_name (i := 8) sc_signsof.nd rfl (Or.inl rfl)) (pgs_cons (pg_name (i := 9) sc_signsof.nd rfl (Or.inl rfl)) pgs_nil))))
  (pss_cons (ps_expr (pe_bm PySem.F.plainAttrs_list PySem.F.slot_list_append PySem.F.type_list_append mt_append (pv 5) (pa_cons (pe_me cSa hr (by decide) (pv 0) (pa_cons (pv 7) (pa_cons (pe_tup (pa_cons (pe_op op_mod (pv 3) (pv 8)) (pa_cons (pe_op op_mod (pv 4) (pv 9)) pa_nil))) pa_nil))) pa_nil)))
  (pss_one (ps_par (i := 3) (j := 4) (by rfl) sc_signsof.nd rfl rfl (by decide) rfl rfl (pa_cons (pe_op op_fdiv (pv 3) (pv 8)) (pa_cons (pe_op op_fdiv (pv 4) (pv 9)) pa_nil)) (by rfl)))))))
  (pss_one (ps_ret (pe_callTy call_tuple_of' (by rfl) B.tuple bt_tuple (pa_cons (pe_revL (pv 5)) pa_nil))))))), ?_⟩
    refine ⟨_, rfl, b, _, rfl, hb, rfl, _, _, rfl, _, _, rfl, rfl, ?_⟩
    refine ⟨by show 0 ≤ sizeLine; decide, fun fo hfo => ?_⟩
    have s0 := fun o => same_new (o := o) hfo
    have rg : RgC ((f : Int) - 1) (-1) (-1) f := by
      have := RgC.neg (i := (f : Int) - 1) (j := -1) (by omega) (by omega) (by omega) (by omega)
      rwa [show ((f : Int) - 1 - -1).toNat = f by omega] at this
    refine ⟨_, rfl, _, _, rfl, rfl, _, rfl, _, rfl, _, _, _, f, rfl, rg, for_it walk_rangeC (fun i σ H' => ∃ (v6 v7 v8 v9 : Option V) (x y : Nat) (ns : List Nat), σ = [some (.ref a), some (.int f), some (.ref b), some (.int x), some (.int y), some (.ref fo), v6, v7, v8, v9] ∧ Same H H' ∧ H' fo = some (.lst (vNm ns)) ∧ ns ++ Pm.back rs (f - i) x y = Pm.back rs f x0 y0 ∧ ns.length = i)
      ⟨_, _, _, _, x0, y0, [], rfl, s0 _, upd_same, rfl, rfl⟩ (fun _ _ _ _ _ => trivial) ?_ ?_⟩
    · rintro i z σ H1 Hx hi ⟨v6, v7, v8, v9, x, y, ns, rfl, s1, efo, hinv, hnl⟩ ⟨e1, ez⟩
      subst e1
      obtain ⟨k, hk⟩ : ∃ k, f - i = k + 1 := ⟨f - i - 1, by omega⟩
      obtain rfl : z = .int k := by
        rw [ez]
        show V.int ((f : Int) - 1 + (i : Int) * -1) = _
        congr 1
        omega
      rw [hk] at hinv
      simp only [Pm.back] at hinv
      have l1 := hp.ok.1
      have hph : k % rs.length < rs.length := Nat.mod_lt k l1
      have w0 := hp.ok.W 0 k
      have w1 := hp.ok.W 1 k
      have w32 := hp.ok.W32 k
      have eW : ∀ ax, Pm.W rs ax (k % rs.length) = Pm.W rs ax k := fun ax => by unfold Pm.W; rw [rnd_mod]
      refine ⟨_, rfl, _, rfl, _, rs, k, rfl, hp.same s1, ?_⟩
      refine ⟨_, rfl, a, dx, fs, rfl, s1 _ _ ea, hl _ (by decide) (by decide) (by decide), _, rfl, _, rs, _, rfl, hp.same s1, hph, fun t ht => ?_⟩
      rw [eW, eW] at ht
      refine ⟨t, _, rfl, ht, rfl, _, _, rfl, _, _, rfl, rfl, ?_⟩
      refine ⟨_, rfl, .inl ⟨rfl, _, SqL.of efo⟩, _, rfl, a, dx, fs, rfl, s1 _ _ ea, hl _ (by decide) (by decide) (by decide), _, rfl, ?_⟩
      refine ⟨_, rfl, _, rfl, _, _, rfl, rfl, by show (0 : Int) < (Pm.W rs 0 k : Nat); omega, _, rfl, _, rfl, _, _, rfl, rfl, by show (0 : Int) < (Pm.W rs 1 k : Nat); omega, ?_⟩
      refine ⟨by show 2 ≤ sizeLine; decide, fun t2 ht2 => ?_⟩
      have s2 := fun o => same_new (o := o) ht2
      have m0 := Nat.mod_lt x w0
      have m1 := Nat.mod_lt y w1
      refine ⟨_, _, rs, k % rs.length, x % Pm.W rs 0 k, y % Pm.W rs 1 k, rfl, (hp.same s1).same (s2 _), hph, Dp.tupI (is := [_, _]) (SqT.of (by rw [Int.natCast_emod, Int.natCast_emod]; exact upd_same)), by rw [eW]; exact m0, by rw [eW]; exact m1, fun H3 s3 => ?_⟩
      have s13 := (s2 _).trans s3
      have efo3 := s13 _ _ efo
      have eG : Pm.G rs (k % rs.length) (x % Pm.W rs 0 k) (y % Pm.W rs 1 k) = Pm.G rs k (x % Pm.W rs 0 k) (y % Pm.W rs 1 k) := by unfold Pm.G; rw [rnd_mod]
      rw [eG]
      refine ⟨fo, _, _, rfl, rfl, efo3, by simp only [vNm, List.length_map]; unfold sizeLine; omega, ?_⟩
      refine ⟨_, rfl, _, rfl, _, _, rfl, rfl, ⟨by omega, by omega⟩, _, rfl, _, rfl, _, _, rfl, rfl, ⟨by omega, by omega⟩, _, _, rfl, ?_⟩
      refine ⟨some (.int k), some (.int (k % rs.length : Nat)), some (.int (Pm.W rs 0 k)), some (.int (Pm.W rs 1 k)), x / Pm.W rs 0 k, y / Pm.W rs 1 k, ns ++ [Pm.G rs k (x % Pm.W rs 0 k) (y % Pm.W rs 1 k)], ?_, same_over (s1.trans s13) hfo, ?_, ?_, ?_⟩
      · simp only [Int.natCast_ediv]
        rfl
      · rw [upd_same]
        simp [vNm]
      · rw [show f - (i + 1) = k by omega, ← hinv, List.append_assoc]
        rfl
      · simp [hnl]
    · rintro σ H1 ⟨v6, v7, v8, v9, x, y, ns, rfl, s1, efo, hinv, hnl⟩
      rw [Nat.sub_self] at hinv
      simp only [Pm.back, List.append_nil] at hinv
      subst hinv
      refine ⟨_, rfl, fo, _, rfl, SqL.of efo, fun l hl' => ?_⟩
      refine ⟨l, _, rfl, .inl ⟨SqL.of upd_same, fun t ht => ?_⟩⟩
      refine q _ _ (s1.trans ((same_new hl').trans (same_new ht))) (nmI (SqT.of ?_))
      rw [upd_same]
      simp [vNm, Pm.name, List.map_reverse]
/-! is_pair, name_of -/
def sp_ispair (K : PySem.W.Frag) (C : Addr) : Sp := fun vs H Q _ => ∃ (v u : V) (rs : List (List Pm.Cut)) (f x y : Nat), vs = [v, .int f, u] ∧ PlanAt K C H v rs ∧ f ≤ 1000 ∧ Dp K H u (.tuple [.int x, .int y]) ∧
  ∀ H', Same H H' → Q (.bl (decide (x < Pm.cnt rs 0 f) && decide (y < Pm.cnt rs 1 f))) H'
theorem c_ispair {K : PySem.W.Frag} {C : Addr} {v u : V} {rs : List (List Pm.Cut)} {f x y : Nat} {H : Hp} {Q : VK} {E : XK} (h0 : PlanAt K C H v rs) (h1 : f ≤ 1000) (h2 : Dp K H u (.tuple [.int x, .int y])) (q : ∀ H', Same H H' → Q (.bl (decide (x < Pm.cnt rs 0 f) && decide (y < Pm.cnt rs 1 f))) H') : sp_ispair K C [v, .int f, u] H Q E := ⟨_, _, _, _, _, _, rfl, h0, h1, h2, q⟩
theorem ok_ispair {f : Addr} {fd : FuncData} (F : Df K "is_pair" "is_pair" s_ispair [] f fd) (B : Blt mg) (cCo : Ca P w K mg base 2 "is_count" (sp_count K) []) (cPc : Me P w K mg base 4 C "counts" (sp_pcounts K C) []) :
    FnOk P w K mg base CX0 5 f fd ["plan", "f", "value"] (sp_ispair K C) := by
  refine dfOk F sc_ispair (fun vs H Q E h => ?_) (fun cdv A outer s H vs Q E hr h => ?_)
  · obtain ⟨v, u, rs, f, x, y, rfl, _⟩ := h
    rfl
  · obtain ⟨v, u, rs, f, x, y, rfl, hp, hf, hu, q⟩ := h
    obtain ⟨b, rfl, hb⟩ := pair_at hu
    refine ⟨_, (pss_cons (ps_if (PW.pt (pw_or (pt_not (pt_val (pe_callB call_isi' (by rfl) B.isinstance bt_isinstance (pa_cons (pv 2) (pa_cons (pe_bltn (v := .ty "tuple") (by rfl) B.tuple bt_tuple rfl) pa_nil))))) (pw_or (pt_cmpR op_ne (pe_callB call_len_seq' (by rfl) B.len bt_len (pa_cons (pv 2) pa_nil)) pe_int (nomark _)) (pw_or1 (pt_not (pt_val (pe_callB (cr_all rfl) (by rfl) B.all bt_all (pa_cons (pe_lc (own := [("number", 3)]) (by rfl) sc_ispair.nd (pi_tup (pv 2)) (blkOk_by (own := [("number", 3)]) (N := ["plan", "f", "value", "number", "columns", "rows"]) (sc := defScope s_ispair) (by decide +kernel)) (fun _ _ _ _ _ => (pg_name (i := 3) sc_ispair.nd rfl (Or.inl rfl))) (fun _ _ _ _ _ => pts_nil) (fun _ _ _ _ _ => (pe_ca cCo hr (by decide) (by rfl) (pa_cons (pv 3) pa_nil)))) pa_nil))))))))
  (pss_one (ps_ret pe_bl))
  pss_nil)
  (pss_cons (ps_asg (pe_me cPc hr (by decide) (pv 0) (pa_cons (pv 1) pa_nil)) (pg_tup' 2 (pgs_cons (pg_name (i := 4) sc_ispair.nd rfl (Or.inl rfl)) (pgs_cons (pg_name (i := 5) sc_ispair.nd rfl (Or.inl rfl)) pgs_nil))))
  (pss_one (ps_ret (pe_and (pe_cmpR op_lt (pe_ix ix_tup' (pv 2) pe_int (fun _ _ => rfl)) (pv 4) (nomark _)) (pe_one (pe_cmpR op_lt (pe_ix ix_tup' (pv 2) pe_int (fun _ _ => rfl)) (pv 5) (nomark _)))))))), ?_⟩
    refine ⟨_, rfl, _, _, _, _, true, rfl, .ty _, tyT hb, kit_ty (by decide +kernel), true, rfl, iteF ?_⟩
    refine ⟨_, rfl, b, _, rfl, .inr hb, rfl, _, rfl, iteF ?_⟩
    refine ⟨_, rfl, b, rfl, ⟨_, hb⟩, fun D hD => lc_nl (K := K) (walk_tup (xs := [.int x, .int y])) (List.replicate 2 (.bool true)) (by simp) (by show 2 ≤ 100000; decide) rfl hD (fun H' s' => Same.tup s' hb) ?_ ?_ gName_mono⟩
    · rintro i e z H2 _ Q2 hi he s2 ⟨rfl, hx⟩ hq
      refine ⟨rfl, ?_⟩
      obtain rfl : e = .bool true := List.eq_of_mem_replicate (List.mem_of_getElem? he)
      obtain ⟨n, rfl⟩ : ∃ n : Nat, z = .int n := by
        have hm := List.mem_of_getElem? hx
        simp only [List.mem_cons, List.not_mem_nil, or_false] at hm
        rcases hm with rfl | rfl
        · exact ⟨x, rfl⟩
        · exact ⟨y, rfl⟩
      exact ⟨_, rfl, tnil (count_int (by omega) (hq _ _ (Same.refl _) (.bl true)))⟩
    rintro H1 ys s1 eD hall
    have hys : ys = (List.replicate 2 true).map V.bl := DpAll.boolsE (by rw [List.map_replicate]; exact hall)
    refine ⟨D, List.replicate 2 true, rfl, SqL.of (by rw [eD, hys]), _, rfl, iteF ?_⟩
    have hb1 := Same.tup s1 hb
    have hp1 := hp.same s1
    have hu1 := hu.up s1
    obtain ⟨a, dx, fs, rfl, ea, hl⟩ := plan_obj hp1
    refine ⟨_, rfl, a, dx, fs, rfl, ea, hl _ (by decide) (by decide) (by decide), _, rfl, _, rs, f, rfl, hp1, hf, fun t H2 s2 et => ?_⟩
    refine ⟨t, _, rfl, SqT.of et, rfl, _, _, rfl, _, _, rfl, rfl, ?_⟩
    have hb2 := Same.tup s2 hb1
    refine ⟨_, rfl, b, _, _, _, rfl, rfl, hb2, rfl, _, rfl, _, _, rfl, rfl, _, rfl, ?_⟩
    have q2 := q _ (s1.trans s2)
    by_cases h0 : x < Pm.cnt rs 0 f
    · rw [decide_eq_true (show (x : Int) < ((Pm.cnt rs 0 f : Nat) : Int) by omega)]
      refine iteT ⟨_, rfl, b, _, _, _, rfl, rfl, hb2, rfl, _, rfl, _, _, rfl, rfl, ?_⟩
      rw [decide_eq_true h0, Bool.true_and] at q2
      have e : decide ((y : Int) < ((Pm.cnt rs 1 f : Nat) : Int)) = decide (y < Pm.cnt rs 1 f) := decide_eq_decide.mpr (by omega)
      show Q (.bl (decide ((y : Int) < ((Pm.cnt rs 1 f : Nat) : Int)))) _
      rw [e]
      exact q2
    · rw [decide_eq_false (show ¬ (x : Int) < ((Pm.cnt rs 0 f : Nat) : Int) by omega)]
      rw [decide_eq_false h0, Bool.false_and] at q2
      exact iteF q2
def sp_nameof (K : PySem.W.Frag) (C : Addr) : Sp := fun vs H Q _ => ∃ (v u : V) (rs : List (List Pm.Cut)) (f x y : Nat), vs = [v, .int f, u] ∧ PlanAt K C H v rs ∧ f ≤ 1000 ∧ Dp K H u (.tuple [.int x, .int y]) ∧ x < Pm.cnt rs 0 f ∧ y < Pm.cnt rs 1 f ∧
  ∀ t H', Same H H' → Dp K H' t (dNm (Pm.name rs f x y)) → Q t H'
theorem c_nameof {K : PySem.W.Frag} {C : Addr} {v u : V} {rs : List (List Pm.Cut)} {f x y : Nat} {H : Hp} {Q : VK} {E : XK} (h0 : PlanAt K C H v rs) (h1 : f ≤ 1000) (h2 : Dp K H u (.tuple [.int x, .int y])) (h3 : x < Pm.cnt rs 0 f) (h4 : y < Pm.cnt rs 1 f) (q : ∀ t H', Same H H' → Dp K H' t (dNm (Pm.name rs f x y)) → Q t H') : sp_nameof K C [v, .int f, u] H Q E := ⟨_, _, _, _, _, _, rfl, h0, h1, h2, h3, h4, q⟩
theorem ok_nameof {f : Addr} {fd : FuncData} (F : Df K "name_of" "name_of" s_nameof [] f fd) (cWpl : Ca P w K mg base 1 "want_plan" (sp_wantplan K C) []) (cWf : Ca P w K mg base 3 "want_fineness" sp_wantfine []) (cIp : Ca P w K mg base 5 "is_pair" (sp_ispair K C) []) (cSof : Ca P w K mg base 5 "signs_of" (sp_signsof K C) []) :
    FnOk P w K mg base CX0 6 f fd ["plan", "f", "pair"] (sp_nameof K C) := by
  refine dfOk F sc_nameof (fun vs H Q E h => ?_) (fun cdv A outer s H vs Q E hr h => ?_)
  · obtain ⟨v, u, rs, f, x, y, rfl, _⟩ := h
    rfl
  · obtain ⟨v, u, rs, f, x, y, rfl, hp, hf, hu, hx, hy, q⟩ := h
    refine ⟨_, (pss_cons (ps_expr (pe_ca cWpl hr (by decide) (by rfl) (pa_cons (pv 0) pa_nil)))
  (pss_cons (ps_expr (pe_ca cWf hr (by decide) (by rfl) (pa_cons (pv 1) pa_nil)))
  (pss_cons (ps_if (pt_not (pt_val (pe_ca cIp hr (by decide) (by rfl) (pa_cons (pv 0) (pa_cons (pv 1) (pa_cons (pv 2) pa_nil))))))
  pss_never
  pss_nil)
  (pss_one (ps_ret (pe_ca cSof hr (by decide) (by rfl) (pa_cons (pv 0) (pa_cons (pv 1) (pa_cons (pv 2) pa_nil))))))))), ?_⟩
    refine ⟨_, rfl, v, rs, rfl, hp, ?_⟩
    refine ⟨_, rfl, f, rfl, hf, ?_⟩
    refine ⟨_, rfl, _, rfl, _, rfl, v, u, rs, f, x, y, rfl, hp, hf, hu, fun H1 s1 => ⟨_, rfl, ?_⟩⟩
    rw [decide_eq_true hx, decide_eq_true hy]
    refine iteF ?_
    exact ⟨_, rfl, _, rfl, _, rfl, v, u, rs, f, x, y, rfl, hp.same s1, hf, hu.up s1, fun t H' s' ht => q t H' (s1.trans s') ht⟩
/-- the name of a cell's number pair -/
theorem name_back {rs : List (List Pm.Cut)} (hok : Pm.RdsOk rs) {ns : List Nat} (h : NmOk rs ns) : Pm.name rs ns.length (Pm.nm rs 0 (fun k => ns.getD k 0) ns.length) (Pm.nm rs 1 (fun k => ns.getD k 0) ns.length) = ns := Pm.name_nm hok h
theorem NmOk.name {rs : List (List Pm.Cut)} (hok : Pm.RdsOk rs) (f x y : Nat) : NmOk rs (Pm.name rs f x y) := fun k hk => hok.name_ok f x y k (by rwa [Pm.name_len] at hk)
end
end T
set_option Elab.async false
set_option maxRecDepth 100000
set_option maxHeartbeats 4000000
namespace T
open PySem L2 Mv
abbrev s_isnum : Stmt := top 22
theorem sc_isnum : FnScope ["value"] ["value"] (defScope s_isnum) := ⟨rfl, rfl, rfl, by decide +kernel, rfl, by decide +kernel, by decide +kernel⟩
abbrev s_wantnum : Stmt := top 23
theorem sc_wantnum : FnScope ["value"] ["value"] (defScope s_wantnum) := ⟨rfl, rfl, rfl, by decide +kernel, rfl, by decide +kernel, by decide +kernel⟩
abbrev s_asratio : Stmt := top 24
theorem sc_asratio : FnScope ["number"] ["number"] (defScope s_asratio) := ⟨rfl, rfl, rfl, by decide +kernel, rfl, by decide +kernel, by decide +kernel⟩
abbrev s_compart : Stmt := top 27
theorem sc_compart : FnScope ["one", "other"] ["one", "other"] (defScope s_compart) := ⟨rfl, rfl, rfl, by decide +kernel, rfl, by decide +kernel, by decide +kernel⟩
abbrev s_rinit : Stmt := inClass (top 28) 0
theorem sc_rinit : FnScope ["self", "top", "bottom", "part"] ["self", "top", "bottom"] (defScope s_rinit) := ⟨rfl, rfl, rfl, by decide +kernel, rfl, by decide +kernel, by decide +kernel⟩
/-- what stands of the class Ratio -/
structure RtG (K : PySem.W.Frag) (mg : Str → Option Value) (CR : Addr) : Prop where
  I : ClsI K CR
  mgC : mg "Ratio" = some (.ref CR)
  nT : NoAttr K CR "own_top"
  nB : NoAttr K CR "own_bottom"
  ki : PySem.W.kitOne K (.ref CR) (.type "int") = some false
  kb : PySem.W.kitOne K (.ref CR) (.type "bool") = some false
  oi : PySem.W.kitOne K (.type "int") (.ref CR) = some false
section
variable {P : Program} {w : World} {K : PySem.W.Frag} {mg : Str → Option Value} {base : Heap} {CR : Addr}
def rtF (q : Rat) : List (Str × V) := [("own_top", .int q.num), ("own_bottom", .int (q.den : Int))]
/-- a Ratio -/
def RatAt (CR : Addr) (H : Hp) (v : V) (q : Rat) : Prop := ∃ a dx, v = .ref a ∧ H a = some (.ins CR dx (rtF q))
/-- an INTEGER or a Ratio -/
def NumAt (CR : Addr) (H : Hp) (v : V) (q : Rat) : Prop := (∃ i : Int, v = .int i ∧ q = (i : Rat)) ∨ RatAt CR H v q
theorem up_rat {H H' : Hp} {v : V} {q : Rat} (s : Same H H') (h : RatAt CR H v q) : RatAt CR H' v q := by
  obtain ⟨a, dx, e, ea⟩ := h
  exact ⟨a, dx, e, s _ _ ea⟩
theorem up_num {H H' : Hp} {v : V} {q : Rat} (s : Same H H') (h : NumAt CR H v q) : NumAt CR H' v q := h.imp id (up_rat s)
theorem bu_rat {p : Addr} {H H' : Hp} {v : V} {q : Rat} (s : Bu p H H') (hp : Pot H p) (h : RatAt CR H v q) : RatAt CR H' v q := by
  obtain ⟨a, dx, e, ea⟩ := h
  exact ⟨a, dx, e, bu_geti s hp ea⟩
theorem bu_num {p : Addr} {H H' : Hp} {v : V} {q : Rat} (s : Bu p H H') (hp : Pot H p) (h : NumAt CR H v q) : NumAt CR H' v q := h.imp id (bu_rat s hp)
theorem mi_rat {p : Addr} {k : Nat} {H H' : Hp} {v : V} {q : Rat} (s : Mi p k H H') (hk : k ≠ 2) (h : RatAt CR H v q) : RatAt CR H' v q := by
  obtain ⟨b, dx, e, eb⟩ := h
  refine ⟨b, dx, e, s.2 b _ (fun z => ?_) eb⟩
  obtain ⟨⟨C', dx', fs, ea, hl⟩, _⟩ := s
  rw [z, ea] at eb
  cases eb
  exact hk hl.symm
theorem mi_num {p : Addr} {k : Nat} {H H' : Hp} {v : V} {q : Rat} (s : Mi p k H H') (hk : k ≠ 2) (h : NumAt CR H v q) : NumAt CR H' v q := h.imp id (mi_rat s hk)
theorem num_int {H : Hp} (i : Int) : NumAt CR H (.int i) (i : Rat) := .inl ⟨i, rfl, rfl⟩
theorem rat_of {H : Hp} {a dx : Addr} {q : Rat} (h : H a = some (.ins CR dx (rtF q))) : RatAt CR H (.ref a) q := ⟨a, dx, rfl, h⟩
theorem num_rat {H : Hp} {v : V} {q : Rat} (h : RatAt CR H v q) : NumAt CR H v q := .inr h
/-- a method, a property of a Ratio -/
theorem go_merR {H : Hp} {v : V} {q : Rat} {m : Str} {sp : Sp} {E : XK} {t : TA} {σ : L2.St} {Q : VK} (h : RatAt CR H v q) (m1 : m ≠ "own_top") (m2 : m ≠ "own_bottom") (k : t σ H fun vs H2 => sp (v :: vs) H2 Q E) : MeR CR m sp [] E t σ Q v H := by
  obtain ⟨a, dx, rfl, ea⟩ := h
  have z : ∀ {x : Str}, m ≠ x → (m == x) = false := fun h => by simpa using h
  exact go_mer ea (by unfold rtF; simp only [List.lookup, z m1, z m2]) k
theorem go_prR {H : Hp} {v : V} {q : Rat} {sp : Sp} {E : XK} {Q : VK} (h : RatAt CR H v q) (k : sp [v] H Q E) : PrR CR sp [] E Q v H := by
  obtain ⟨a, dx, rfl, ea⟩ := h
  exact go_prr ea k
/-- the fraction in lowest terms, by the common part -/
theorem div_top {t b : Int} (hb : b ≠ 0) : (Rat.divInt t b).num = t.fdiv (if b < 0 then -(Nat.gcd t.natAbs b.natAbs : Int) else (Nat.gcd t.natAbs b.natAbs : Int)) := by
  rw [Rat.num_divInt]
  have g0 : (0 : Int) < (Nat.gcd t.natAbs b.natAbs : Int) := Int.natCast_pos.mpr (Nat.gcd_pos_of_pos_right _ (by omega))
  have eg : ((b.gcd t : Nat) : Int) = (Nat.gcd t.natAbs b.natAbs : Int) := by rw [Int.gcd_comm]; rfl
  rw [eg]
  split
  · next h =>
    rw [Int.sign_eq_neg_one_of_neg h, Int.neg_one_mul]
    obtain ⟨c, hc⟩ : (Nat.gcd t.natAbs b.natAbs : Int) ∣ t := Int.ofNat_dvd_left.mpr (Nat.gcd_dvd_left _ _)
    generalize (Nat.gcd t.natAbs b.natAbs : Int) = g at *
    have hg : g ≠ 0 := by omega
    rw [hc, ← Int.mul_neg, Int.mul_ediv_cancel_left _ hg, show g * c = -g * -c by rw [Int.neg_mul_neg], Int.mul_fdiv_cancel_left _ (by omega)]
  · next h =>
    rw [Int.sign_eq_one_of_pos (by omega), Int.one_mul]
    exact (Int.fdiv_eq_ediv_of_nonneg _ (by omega)).symm
theorem div_bot {t b : Int} (hb : b ≠ 0) : ((Rat.divInt t b).den : Int) = b.fdiv (if b < 0 then -(Nat.gcd t.natAbs b.natAbs : Int) else (Nat.gcd t.natAbs b.natAbs : Int)) := by
  rw [Rat.den_divInt, if_neg hb]
  have g0 : (0 : Int) < (Nat.gcd t.natAbs b.natAbs : Int) := Int.natCast_pos.mpr (Nat.gcd_pos_of_pos_right _ (by omega))
  have eg : b.gcd t = Nat.gcd t.natAbs b.natAbs := by rw [Int.gcd_comm]; rfl
  rw [eg, Int.natCast_ediv]
  split
  · next h =>
    rw [show ((b.natAbs : Nat) : Int) = -b by omega]
    obtain ⟨c, hc⟩ : (Nat.gcd t.natAbs b.natAbs : Int) ∣ b := Int.ofNat_dvd_left.mpr (Nat.gcd_dvd_right _ _)
    generalize (Nat.gcd t.natAbs b.natAbs : Int) = g at *
    have hg : g ≠ 0 := by omega
    rw [hc, ← Int.mul_neg, Int.mul_ediv_cancel_left _ hg, show g * c = -g * -c by rw [Int.neg_mul_neg], Int.mul_fdiv_cancel_left _ (by omega)]
  · next h =>
    rw [show ((b.natAbs : Nat) : Int) = b by omega]
    exact (Int.fdiv_eq_ediv_of_nonneg _ (by omega)).symm
theorem log2_le {m n : Nat} (h : m ≤ n) : m.log2 ≤ n.log2 := by
  rcases Nat.eq_zero_or_pos m with z | z
  · subst z; simp
  · exact (Nat.le_log2 (by omega)).mpr (Nat.le_trans (Nat.log2_self_le (by omega)) h)
theorem go_absI {i : Int} {H : Hp} {Q : VK} (q : Q (.int (i.natAbs : Int)) H) : rAb [V.int i] H Q := ⟨i, rfl, by
  by_cases h : i < 0
  · rw [if_pos h]; rw [show ((i.natAbs : Nat) : Int) = -i by omega] at q; exact q
  · rw [if_neg h]; rw [show ((i.natAbs : Nat) : Int) = i by omega] at q; exact q⟩
def sp_compart : Sp := fun vs H Q _ => ∃ (m n : Nat), vs = [.int m, .int n] ∧ Q (.int (Nat.gcd m n : Nat)) H
theorem c_compart {m n : Nat} {H : Hp} {Q : VK} {E : XK}  (q : Q (.int (Nat.gcd m n : Nat)) H) : sp_compart  [.int m, .int n] H Q E := ⟨_, _, rfl, q⟩
def sp_rinit (CR : Addr) : Sp := fun vs H Q _ => ∃ (x dx : Addr) (t b : Int), vs = [.ref x, .int t, .int b] ∧ H x = some (.ins CR dx []) ∧ b ≠ 0 ∧ b.natAbs.log2 < 9000 ∧ ∀ H', Bu x H H' → H' x = some (.ins CR dx (rtF (Rat.divInt t b))) → Q .non H'
theorem c_rinit {CR : Addr} {x dx : Addr} {t b : Int} {H : Hp} {Q : VK} {E : XK} (h0 : H x = some (.ins CR dx [])) (h1 : b ≠ 0) (h2 : b.natAbs.log2 < 9000) (q : ∀ H', Bu x H H' → H' x = some (.ins CR dx (rtF (Rat.divInt t b))) → Q .non H') : sp_rinit CR [.ref x, .int t, .int b] H Q E := ⟨_, _, _, _, rfl, h0, h1, h2, q⟩
def sp_isnum (CR : Addr) : Sp := fun vs H Q _ => ∃ (v : V) (r : Rat), vs = [v] ∧ NumAt CR H v r ∧ Q (.bl true) H
theorem c_isnum {CR : Addr} {v : V} {r : Rat} {H : Hp} {Q : VK} {E : XK} (h0 : NumAt CR H v r) (q : Q (.bl true) H) : sp_isnum CR [v] H Q E := ⟨_, _, rfl, h0, q⟩
def sp_wantnum (CR : Addr) : Sp := fun vs H Q _ => ∃ (v : V) (r : Rat), vs = [v] ∧ NumAt CR H v r ∧ Q .non H
theorem c_wantnum {CR : Addr} {v : V} {r : Rat} {H : Hp} {Q : VK} {E : XK} (h0 : NumAt CR H v r) (q : Q .non H) : sp_wantnum CR [v] H Q E := ⟨_, _, rfl, h0, q⟩
def sp_asratio (CR : Addr) : Sp := fun vs H Q _ => ∃ (v : V) (r : Rat), vs = [v] ∧ NumAt CR H v r ∧ ∀ b dy H', Same H H' → H' b = some (.ins CR dy (rtF r)) → Q (.ref b) H'
theorem c_asratio {CR : Addr} {v : V} {r : Rat} {H : Hp} {Q : VK} {E : XK} (h0 : NumAt CR H v r) (q : ∀ b dy H', Same H H' → H' b = some (.ins CR dy (rtF r)) → Q (.ref b) H') : sp_asratio CR [v] H Q E := ⟨_, _, rfl, h0, q⟩
theorem go_mkrat {H : Hp} {t b : Int} {Q : VK} {E : XK} (hb : b ≠ 0) (hz : b.natAbs.log2 < 9000) (q : ∀ x H', H x = none → Same H H' → RatAt CR H' (.ref x) (Rat.divInt t b) → Q (.ref x) H') : MakR CR (sp_rinit CR) [] E Q [.int t, .int b] H := by
  intro x dx hx hdx hne
  have s1 : Same H (upd (upd H dx (.own x)) x (.ins CR dx [])) := same_make hx hdx hne
  refine ⟨x, dx, t, b, rfl, upd_same, hb, hz, fun H' bu e => ⟨rfl, q x H' hx (fun c o z => ?_) ⟨x, dx, rfl, e⟩⟩⟩
  exact bu c o (fun y => by rw [y, hx] at z; cases z) (s1 c o z)
theorem divInt_one (t : Int) : Rat.divInt t 1 = (t : Rat) := by
  refine Rat.ext ?_ ?_
  · rw [Rat.num_divInt, Rat.num_intCast]; simp
  · rw [Rat.den_divInt, Rat.den_intCast]; simp
theorem go_mkrat1 {H : Hp} {t : Int} {Q : VK} {E : XK} (q : ∀ x H', H x = none → Same H H' → RatAt CR H' (.ref x) (t : Rat) → Q (.ref x) H') : MakR CR (sp_rinit CR) [.int 1] E Q [.int t] H := by
  intro x dx hx hdx hne
  have s1 : Same H (upd (upd H dx (.own x)) x (.ins CR dx [])) := same_make hx hdx hne
  refine ⟨x, dx, t, 1, rfl, upd_same, by decide, by decide, fun H' bu e => ⟨rfl, q x H' hx (fun c o z => ?_) ⟨x, dx, rfl, by rw [divInt_one] at e; exact e⟩⟩⟩
  exact bu c o (fun y => by rw [y, hx] at z; cases z) (s1 c o z)
local macro_rules | `(tactic| tb_rel) => `(tactic| repeat (first
  | with_reducible assumption
  | with_reducible exact Dp.int _
  | with_reducible exact Dp.str _
  | with_reducible exact Dp.bl _
  | with_reducible exact Dp.non
  | (with_reducible apply SqT.of; with_reducible assumption)
  | (with_reducible apply SqL.of; with_reducible assumption)
  | (with_reducible apply up_dp; with_reducible assumption)
  | (with_reducible apply up_sqt; with_reducible assumption)
  | (with_reducible apply up_sql; with_reducible assumption)
  | (with_reducible apply up_get; with_reducible assumption)
  | (with_reducible apply up_pot; with_reducible assumption)
  | with_reducible exact Same.refl _
  | with_reducible exact Bu.refl _ _
  | (with_reducible apply up_same; with_reducible assumption)
  | (with_reducible apply up_bu; with_reducible assumption)
  | (with_reducible apply bu_bu; with_reducible assumption)
  | (with_reducible apply free_of; with_reducible assumption)
  | (with_reducible apply mi_fr; with_reducible assumption; (focus (tb_rel; done)))
  | (with_reducible apply mi_dp; with_reducible assumption)
  | (with_reducible apply mi_sqt; with_reducible assumption)
  | (with_reducible apply mi_sql; with_reducible assumption)
  | (with_reducible apply mi_gett; with_reducible assumption)
  | (with_reducible apply mi_getl; with_reducible assumption)
  | (with_reducible apply mi_pot; with_reducible assumption)
  | (with_reducible apply mi_refl; with_reducible assumption; (focus (with_unfolding_all exact rfl)))
  | (with_reducible apply up_mi; with_reducible assumption)
  | (with_reducible apply mi_mi; with_reducible assumption)
  | (with_reducible apply mi_bu; with_reducible assumption)
  | (with_reducible apply bu_gett; with_reducible assumption; (focus (tb_rel; done)))
  | (with_reducible apply bu_geti; with_reducible assumption; (focus (tb_rel; done)))
  | (with_reducible apply bu_get; with_reducible assumption; (focus (tlg_ne; done)))
  | (with_reducible apply bu_sqt; with_reducible assumption; (focus (tb_rel; done)))
  | (with_reducible apply bu_sql; with_reducible assumption; (focus (tlg_ne; done)))
  | (with_reducible apply bu_dp; with_reducible assumption; (focus (tb_rel; done)); (focus (lcg_src; done)))
  | fail "up"))
local macro_rules | `(tactic| tlg_ne) => `(tactic| first
  | with_reducible assumption
  | (with_reducible apply pot_ne; with_reducible assumption; (focus (tb_rel; done)))
  | fail "ne")
local macro_rules | `(tactic| lcg_src) => `(tactic| first
  | with_reducible assumption
  | with_unfolding_all exact rfl
  | with_unfolding_all decide
  | with_unfolding_all exact Nat.ne_of_beq_eq_false rfl
  | (apply_assumption; done)
  | omega
  | (simp; done)
  | (simp; omega)
  | fail "sd")
local macro_rules | `(tactic| lcg_sub) => `(tactic| first
  | (unfold sizeLine; omega)
  | (simp only [List.length_cons, List.length_nil, List.length_append, List.length_map, List.length_replicate, List.length_take, List.length_drop]; unfold sizeLine; omega)
  | (simp; unfold sizeLine; omega)
  | fail "sz")
local macro_rules | `(tactic| nest_cls) => `(tactic| first
  | (tb_rel; done)
  | (with_reducible apply nmI; (focus (tb_rel; done)))
  | (with_reducible apply d_tup; (focus (tb_rel; done)); (focus (lsm_bools; done)))
  | (with_reducible apply d_lst; (focus (tb_rel; done)); (focus (lsm_bools; done)))
  | fail "dp")
local macro_rules | `(tactic| lsm_bools) => `(tactic| repeat (first
  | with_reducible exact DpAll.nil
  | with_reducible assumption
  | (with_reducible apply DpAll.cons; (focus (nest_cls; done)))
  | fail "dpa"))
local macro_rules | `(tactic| none_booked) => `(tactic| first | with_unfolding_all exact rfl | (with_reducible apply atI_nat; with_reducible assumption) | fail "ix")
local macro_rules | `(tactic| walk_at "go") => `(tactic| repeat (first
  | (focus (with_reducible refine go_var (v := ?_) ?_ ?_; rotate_left; (focus (with_unfolding_all exact rfl))))
  | with_reducible refine go_seq ?_
  | with_reducible refine go_cN ?_
  | with_reducible refine go_c ?_
  | with_reducible refine go_op ?_
  | with_reducible refine go_nil ?_
  | with_reducible refine go_cons ?_
  | with_reducible refine go_cb ?_
  | with_reducible refine go_call0 ?_
  | with_reducible refine go_asg ?_
  | (focus (with_reducible refine go_gname (σ' := ?_) ?_ ?_; rotate_left; (focus (simp only [List.set_cons_succ, List.set_cons_zero]; exact rfl))))
  | with_reducible refine go_par ?_
  | with_reducible refine go_par3 ?_
  | (focus (with_reducible refine go_par3k (σ' := ?_) ?_ ?_; rotate_left; (focus (simp only [List.set_cons_succ, List.set_cons_zero]; exact rfl))))
  | with_reducible refine go_bm ?_
  | (with_reducible apply go_bmL; (focus (tb_rel; done)))
  | (with_reducible apply go_fdX; (focus (with_reducible assumption; done)))
  | (with_reducible apply go_rI; (focus (with_reducible assumption; done)))
  | (focus (with_reducible refine go_par2 (σ' := ?_) ?_ ?_; rotate_left; (focus (simp only [List.set_cons_succ, List.set_cons_zero]; exact rfl))))
  | with_reducible refine go_ifs ?_
  | with_reducible refine go_test ?_
  | with_reducible refine go_tb ?_
  | with_reducible refine go_asb ?_
  | with_reducible refine go_asi ?_
  | with_reducible refine go_ret ?_
  | with_reducible refine go_retn ?_
  | with_reducible refine go_drop ?_
  | with_reducible refine go_next ?_
  | with_reducible refine go_and ?_
  | with_reducible refine go_or ?_
  | with_reducible refine go_not ?_
  | with_reducible refine go_andv ?_
  | with_reducible refine go_orv ?_
  | with_reducible refine go_notv ?_
  | with_reducible refine go_ife ?_
  | with_reducible refine go_chain ?_
  | with_reducible refine go_if1 ?_
  | with_reducible refine go_if0 ?_
  | with_reducible refine go_ifn1 ?_
  | with_reducible refine go_ifn0 ?_
  | (with_reducible apply go_ift; (focus (first | with_reducible rfl | with_reducible assumption | omega)))
  | (with_reducible apply go_ifnt; (focus (first | with_reducible rfl | with_reducible assumption | omega)))
  | (with_reducible apply go_iff; (focus (first | with_reducible assumption | omega)))
  | (with_reducible apply go_ifnf; (focus (first | with_reducible assumption | omega)))
  | with_reducible refine go_un ?_
  | with_reducible refine go_tup ?_
  | with_reducible refine go_lst ?_
  | (with_reducible apply go_newt; (focus (lcg_sub; done)); intros)
  | (with_reducible apply go_newl; (focus (lcg_sub; done)); intros)
  | with_reducible refine go_meth ?_
  | with_reducible refine go_for ?_
  | with_reducible refine go_lc ?_
  | with_reducible refine go_irng1 ?_
  | with_reducible refine go_irng2 ?_
  | with_reducible refine go_ilist ?_
  | with_reducible refine go_itup ?_
  | with_reducible refine go_izip ?_
  | with_reducible refine go_ienum ?_
  | (with_reducible apply go_rg1; (focus (lcg_src; done)))
  | (with_reducible apply go_rg2; (focus (lcg_src; done)); (focus (lcg_src; done)))
  | (with_reducible apply go_lsr; (focus (tb_rel; done)))
  | (with_reducible apply go_tpr; (focus (tb_rel; done)))
  | (with_reducible apply go_zpr; (focus (tb_rel; done)); (focus (tb_rel; done)))
  | (with_reducible apply go_zprT; (focus (tb_rel; done)); (focus (tb_rel; done)))
  | (with_reducible apply go_enrL; (focus (tb_rel; done)))
  | (with_reducible apply go_enrT; (focus (tb_rel; done)))
  | with_reducible refine go_prop ?_
  | with_reducible refine go_knr0 ?_
  | (with_reducible apply go_knr; (focus (with_unfolding_all exact rfl; done)); (focus (simp only [kSw2, kRev3, kId, List.nil_append, List.cons_append]; exact rfl)))
  | with_reducible refine go_mkn ?_
  | (with_reducible apply go_mkr; (focus (tb_rel; done)); (focus (with_unfolding_all exact rfl; done)))
  | with_reducible refine go_fld ?_
  | (with_reducible apply go_flr; (focus (tb_rel; done)); (focus (with_reducible assumption; done)); (focus (with_reducible assumption; done)); (focus (with_unfolding_all exact rfl; done)))
  | (with_reducible apply go_prr; (focus (tb_rel; done)))
  | (with_reducible apply go_mer; (focus (tb_rel; done)); (focus (with_unfolding_all exact rfl; done)))
  | with_reducible refine go_sfld ?_
  | (with_reducible apply go_sfr; (focus (tb_rel; done)); (focus (with_reducible assumption; done)); (focus (with_reducible assumption; done)); (focus (with_unfolding_all exact Nat.le_of_ble_eq_true rfl; done)); (focus (with_unfolding_all exact rfl; done)); intros)
  | with_reducible refine go_revt ?_
  | with_reducible refine go_make0 ?_
  | (focus (with_reducible refine go_aug (x := ?_) ?_ ?_; rotate_left; (focus (with_unfolding_all exact rfl))))
  | (focus (with_reducible refine go_augk (σ' := ?_) ?_ ?_; rotate_left; (focus (simp only [List.set_cons_succ, List.set_cons_zero]; exact rfl))))
  | with_reducible refine go_min2 ?_
  | with_reducible refine go_int1 ?_
  | with_reducible refine go_max2 ?_
  | with_reducible refine go_intB ?_
  | with_reducible refine go_absN ?_
  | with_reducible refine go_isN ?_
  | with_reducible refine go_notN ?_
  | (with_reducible apply go_rvt; (focus (tb_rel; done)); (focus (simp only [List.reverse_cons, List.reverse_nil, List.nil_append, List.cons_append]; exact rfl)); intros)
  | (with_reducible apply go_reprNm; (focus (tb_rel; done)); (focus (with_reducible assumption; done)))
  | (with_reducible apply go_reprPr; (focus (nest_cls; done)); (focus (lcg_src; done)); (focus (lcg_src; done)))
  | with_reducible refine go_sl ?_
  | with_reducible refine go_part ?_
  | with_reducible refine go_nopart ?_
  | (with_reducible apply go_gtup; (focus (tb_rel; done)); (focus (with_unfolding_all exact rfl; done)))
  | (with_reducible apply go_gunl; (focus (tb_rel; done)); (focus (with_unfolding_all exact rfl; done)))
  | with_reducible refine go_gcons ?_
  | with_reducible refine go_gnil ?_
  | with_reducible refine go_addN ?_
  | with_reducible refine go_ltN ?_
  | with_reducible refine go_leN ?_
  | with_reducible refine go_gtN ?_
  | with_reducible refine go_geN ?_
  | (with_reducible apply go_subN; (focus (omega; done)))
  | with_reducible refine go_rI0 ?_
  | (with_reducible apply go_mulN; (focus (omega; done)))
  | (with_reducible apply go_modN; (focus (omega; done)))
  | (with_reducible apply go_divN; (focus (omega; done)))
  | (with_reducible apply go_powN; (focus (with_unfolding_all decide; done)))
  | with_reducible refine go_rU ?_
  | with_reducible refine go_eqN ?_
  | with_reducible refine go_neN ?_
  | with_reducible refine go_isB ?_
  | with_reducible refine go_notB ?_
  | with_reducible refine go_eqS ?_
  | with_reducible refine go_neS ?_
  | with_reducible refine go_eqB ?_
  | with_reducible refine go_eqI ?_
  | with_reducible refine go_neI ?_
  | (with_reducible apply go_ixt; (focus (tb_rel; done)); (focus (none_booked; done)))
  | (with_reducible apply go_ixl; (focus (tb_rel; done)); (focus (none_booked; done)))
  | (with_reducible apply go_lent; (focus (tb_rel; done)))
  | (with_reducible apply go_lenNm; (focus (tb_rel; done)))
  | (with_reducible apply go_isiNm; (focus (tb_rel; done)))
  | (with_reducible apply go_lenl; (focus (tb_rel; done)))
  | (with_reducible apply go_catA; (focus (tb_rel; done)); (focus (tb_rel; done)); (focus (lcg_sub; done)); intros)
  | (with_reducible apply go_slaT; (focus (tb_rel; done)); intros)
  | (with_reducible apply go_slaD; (focus (tb_rel; done)); intros)
  | (with_reducible apply go_rep; (focus (tb_rel; done)); (focus (lcg_src; done)); intros)
  | (with_reducible apply go_tupofl; (focus (tb_rel; done)); intros)
  | (with_reducible apply go_sllT; (focus (tb_rel; done)); intros)
  | (with_reducible apply go_sllD; (focus (tb_rel; done)); intros)
  | (with_reducible apply go_cat; (focus (tb_rel; done)); (focus (tb_rel; done)); (focus (lcg_sub; done)); intros)
  | (with_reducible apply c_asratio; (focus (tb_rel; done)); intros)
  | (with_reducible apply c_compart; intros)
  | with_reducible refine isint_int ?_
  | (with_reducible apply c_isnum; (focus (tb_rel; done)); intros)
  | (with_reducible apply c_rinit; (focus (tb_rel; done)); (focus (lcg_src; done)); (focus (lcg_src; done)); intros)
  | (with_reducible apply c_wantnum; (focus (tb_rel; done)); intros)
  | with_reducible refine go_absI ?_
  | fail "go"))
theorem ok_compart {f : Addr} {fd : FuncData} (F : Df K "common_part" "common_part" s_compart [] f fd) : FnOk P w K mg base CX0 1 f fd ["one", "other"] sp_compart := by
  refine dfOk F sc_compart (fun vs H Q E h => ?_) (fun cdv A outer s H vs Q E hr h => ?_)
  · obtain ⟨m, n, rfl, _⟩ := h
    rfl
  · obtain ⟨m, n, rfl, q⟩ := h
    refine ⟨_, (pss_cons (ps_while PassesOwn.never (pt_cmpR op_gt (pv 1) pe_int (nomark _))
  (pss_one (ps_par (i := 0) (j := 1) (by rfl) sc_compart.nd rfl rfl (by decide) rfl rfl (pa_cons (pv 1) (pa_cons (pe_op op_mod (pv 0) (pv 1)) pa_nil)) (by rfl))))
  (pss_one (ps_ret (pv 0)))), ?_⟩
    refine go_start (σ := [some _, some _]) rfl ?_
    walk_at "go"
    refine whileN (fun k σ H' => ∃ a b : Nat, k = b ∧ σ = [some (.int (a : Int)), some (.int (b : Int))] ∧ H' = H ∧ Nat.gcd a b = Nat.gcd m n) n ⟨m, n, rfl, rfl, rfl, rfl⟩ ?_
    rintro k σ H1 ⟨a, b, rfl, rfl, rfl, hg⟩
    walk_at "go"
    by_cases hb : 0 < k
    · rw [decide_eq_true hb]
      refine wh_t ?_
      walk_at "go"
      exact ⟨a % k, Nat.mod_lt _ hb, k, a % k, rfl, rfl, rfl, by rw [← hg, Nat.gcd_comm k, ← Nat.gcd_rec, Nat.gcd_comm]⟩
    · rw [decide_eq_false hb]
      refine wh_f ?_
      walk_at "go"
      have : k = 0 := by omega
      subst this
      rw [Nat.gcd_zero_right] at hg
      rw [hg]
      exact q
theorem ok_rinit {f : Addr} {fd : FuncData} {dvs : List V} (F : Df K "__init__" "Ratio.__init__" s_rinit dvs f fd) (B : Blt mg) (GR : RtG K mg CR) (cI : Ca P w K mg base 1 "is_integer" (sp_isint K) []) (cCp : Ca P w K mg base 1 "common_part" sp_compart []) : FnOk P w K mg base CX0 2 f fd ["self", "top", "bottom"] (sp_rinit CR) := by
  refine dfOk F sc_rinit (fun vs H Q E h => ?_) (fun cdv A outer s H vs Q E hr h => ?_)
  · obtain ⟨x, dx, t, b, rfl, _⟩ := h
    rfl
  · obtain ⟨x, dx, t, b, rfl, ex, hb, hz, q⟩ := h
    have cl := GR.I.cl
    have nT := GR.nT
    have nB := GR.nB
    have g0 : 0 < Nat.gcd t.natAbs b.natAbs := Nat.gcd_pos_of_pos_right _ (by omega)
    have gl : (Nat.gcd t.natAbs b.natAbs).log2 < 9000 := Nat.lt_of_le_of_lt (log2_le (Nat.gcd_le_right _ (by omega))) hz
    have d1 : CDivX t (Nat.gcd t.natAbs b.natAbs : Int) := ⟨by omega, by rw [Int.natAbs_natCast]; exact gl⟩
    have d2 : CDivX b (Nat.gcd t.natAbs b.natAbs : Int) := ⟨by omega, by rw [Int.natAbs_natCast]; exact gl⟩
    have d3 : CDivX t (-(Nat.gcd t.natAbs b.natAbs : Int)) := ⟨by omega, by rw [Int.natAbs_neg, Int.natAbs_natCast]; exact gl⟩
    have d4 : CDivX b (-(Nat.gcd t.natAbs b.natAbs : Int)) := ⟨by omega, by rw [Int.natAbs_neg, Int.natAbs_natCast]; exact gl⟩
    have e1 := div_top (t := t) hb
    have e2 := div_bot (t := t) hb
    refine ⟨_, (pss_cons (ps_if (pt_not (pt_val (pe_ca cI hr (by decide) (by rfl) (pa_cons (pv 1) pa_nil))))
  pss_never
  pss_nil)
  (pss_cons (ps_if (PW.pt (pw_or (pt_not (pt_val (pe_ca cI hr (by decide) (by rfl) (pa_cons (pv 2) pa_nil)))) (pw_or1 (pt_cmpR op_eq (pv 2) pe_int (nomark _)))))
  pss_never
  pss_nil)
  (pss_cons (ps_set (i := 3) sc_rinit.nd rfl (Or.inl rfl) (pe_ca cCp hr (by decide) (by rfl) (pa_cons (pe_callB call_abs' (by rfl) B.abs bt_abs (pa_cons (pv 1) pa_nil)) (pa_cons (pe_callB call_abs' (by rfl) B.abs bt_abs (pa_cons (pv 2) pa_nil)) pa_nil))))
  (pss_cons (ps_if (pt_cmpR op_lt (pv 2) pe_int (nomark _))
  (pss_one (ps_set (i := 3) sc_rinit.nd rfl (Or.inl rfl) (pe_un un_neg (pv 3))))
  pss_nil)
  (pss_cons (ps_fld' (pv 0) (pe_op op_fdivX (pv 1) (pv 3)) rfl)
  (pss_one (ps_fld' (pv 0) (pe_op op_fdivX (pv 2) (pv 3)) rfl))))))), ?_⟩
    refine go_start (σ := [some _, some _, some _, none]) rfl ?_
    walk_at "go"
    by_cases h : b < 0
    · rw [if_pos h] at e1 e2
      refine go_ift (show b < ((0 : Nat) : Int) from h) ?_
      walk_at "go"
      rename_i H1 m1 f1 H2 m2 f2
      refine q _ (by tb_rel) ?_
      rw [f2]
      unfold rtF
      rw [e1, e2]
      rfl
    · rw [if_neg h] at e1 e2
      refine go_iff (show ¬ b < ((0 : Nat) : Int) from h) ?_
      walk_at "go"
      rename_i H1 m1 f1 H2 m2 f2
      refine q _ (by tb_rel) ?_
      rw [f2]
      unfold rtF
      rw [e1, e2]
      rfl
theorem ok_isnum {f : Addr} {fd : FuncData} (F : Df K "is_number" "is_number" s_isnum [] f fd) (B : Blt mg) (GR : RtG K mg CR) (cI : Ca P w K mg base 1 "is_integer" (sp_isint K) []) : FnOk P w K mg base CX0 2 f fd ["value"] (sp_isnum CR) := by
  refine dfOk F sc_isnum (fun vs H Q E h => ?_) (fun cdv A outer s H vs Q E hr h => ?_)
  · obtain ⟨v, r, rfl, _⟩ := h
    rfl
  · obtain ⟨v, r, rfl, hv, q⟩ := h
    rcases hv with ⟨i, rfl, rfl⟩ | ⟨a, dx, rfl, ea⟩
    · skip
      refine ⟨_, (pss_one (ps_ret (pe_or (pe_ca cI hr (by decide) (by rfl) (pa_cons (pv 0) pa_nil)) (pe_one (pe_callB call_isi' (by rfl) B.isinstance bt_isinstance (pa_cons (pv 0) (pa_cons (pe_glob (by rfl) GR.mgC (v := .ref CR) rfl) pa_nil))))))), ?_⟩
      refine go_start (σ := [some _]) rfl ?_
      walk_at "go"
      exact q
    · skip
      refine ⟨_, (pss_one (ps_ret (pe_or (pe_ca cI hr (by decide) (by rfl) (pa_cons (pv 0) pa_nil)) (pe_one (pe_callB call_isi' (by rfl) B.isinstance bt_isinstance (pa_cons (pv 0) (pa_cons (pe_glob (by rfl) GR.mgC (v := .ref CR) rfl) pa_nil))))))), ?_⟩
      refine go_start (σ := [some _]) rfl ?_
      walk_at "go"
      refine isint_not ⟨.ref CR, false, false, GR.I.ty ea, GR.ki, GR.kb, rfl⟩ ?_
      walk_at "go"
      refine go_isi (GR.I.ty ea) GR.I.me ?_
      walk_at "go"
      exact q
theorem ok_wantnum {f : Addr} {fd : FuncData} (F : Df K "want_number" "want_number" s_wantnum [] f fd) (cNum : Ca P w K mg base 2 "is_number" (sp_isnum CR) []) : FnOk P w K mg base CX0 3 f fd ["value"] (sp_wantnum CR) := by
  refine dfOk F sc_wantnum (fun vs H Q E h => ?_) (fun cdv A outer s H vs Q E hr h => ?_)
  · obtain ⟨v, r, rfl, _⟩ := h
    rfl
  · obtain ⟨v, r, rfl, hv, q⟩ := h
    refine ⟨_, (pss_one (ps_if (pt_not (pt_val (pe_ca cNum hr (by decide) (by rfl) (pa_cons (pv 0) pa_nil))))
  pss_never
  pss_nil)), ?_⟩
    refine go_start (σ := [some _]) rfl ?_
    walk_at "go"
    exact q
theorem ok_asratio {f : Addr} {fd : FuncData} (F : Df K "as_ratio" "as_ratio" s_asratio [] f fd) (B : Blt mg) (GR : RtG K mg CR) (cRt1 : Ma P w K mg base 2 "Ratio" CR (sp_rinit CR) [.int 1]) : FnOk P w K mg base CX0 4 f fd ["number"] (sp_asratio CR) := by
  refine dfOk F sc_asratio (fun vs H Q E h => ?_) (fun cdv A outer s H vs Q E hr h => ?_)
  · obtain ⟨v, r, rfl, _⟩ := h
    rfl
  · obtain ⟨v, r, rfl, hv, q⟩ := h
    rcases hv with ⟨i, rfl, rfl⟩ | ⟨a, dx, rfl, ea⟩
    · skip
      refine ⟨_, (pss_one (ps_ret (pe_ifExp (pt_val (pe_callB call_isi' (by rfl) B.isinstance bt_isinstance (pa_cons (pv 0) (pa_cons (pe_glob (by rfl) GR.mgC (v := .ref CR) rfl) pa_nil)))) (pv 0) (pe_ma cRt1 hr (by decide) (by rfl) (pa_cons (pv 0) pa_nil))))), ?_⟩
      refine go_start (σ := [some _]) rfl ?_
      walk_at "go"
      refine go_isi (.base (.int i)) GR.oi ?_
      walk_at "go"
      refine go_mkrat1 ?_
      intro x H1 nx s1 hx
      obtain ⟨b, dy, e, eb⟩ := hx
      cases e
      exact q _ _ _ (by tb_rel) eb
    · skip
      refine ⟨_, (pss_one (ps_ret (pe_ifExp (pt_val (pe_callB call_isi' (by rfl) B.isinstance bt_isinstance (pa_cons (pv 0) (pa_cons (pe_glob (by rfl) GR.mgC (v := .ref CR) rfl) pa_nil)))) (pv 0) (pe_ma cRt1 hr (by decide) (by rfl) (pa_cons (pv 0) pa_nil))))), ?_⟩
      refine go_start (σ := [some _]) rfl ?_
      walk_at "go"
      refine go_isi (GR.I.ty ea) GR.I.me ?_
      walk_at "go"
      exact q _ _ _ (by tb_rel) ea
theorem rinit_b1 {f : Addr} {fd : FuncData} {v : V} (F : Df K "__init__" "Ratio.__init__" s_rinit [v] f fd) : ∃ ds, Vals [v] ds ∧ Binds K fd ["self", "top", "bottom"] ds :=
  FunD.binds1 F (ps := ["self", "top", "bottom"]) 2 0 (by simp) rfl fun T kV doc pm an cdv ct us its hl hi => match us, its, hl, hi with
    | [_, _], [_], _, _ => ⟨_, rfl, rfl⟩
theorem rinit_b2 {f : Addr} {fd : FuncData} {v : V} (F : Df K "__init__" "Ratio.__init__" s_rinit [v] f fd) : ∃ ds, Vals [] ds ∧ Binds K fd ["self", "top", "bottom"] ds :=
  FunD.binds1 F (ps := ["self", "top", "bottom"]) 3 1 (by simp) rfl fun T kV doc pm an cdv ct us its hl hi => match us, its, hl, hi with
    | [_, _, _], [_], _, _ => ⟨_, rfl, rfl⟩
end
end T
set_option Elab.async false
set_option maxRecDepth 100000
set_option maxHeartbeats 4000000
namespace T
open PySem L2 Mv
abbrev s_rrepr : Stmt := inClass (top 28) 17
theorem sc_rrepr : FnScope ["self"] ["self"] (defScope s_rrepr) := ⟨rfl, rfl, rfl, by decide +kernel, rfl, by decide +kernel, by decide +kernel⟩
section
variable {P : Program} {w : World} {K : PySem.W.Frag} {mg : Str → Option Value} {base : Heap} {C AX CR : Addr}
/-- a whole number as a text -/
def numT (i : Int) : Str := Str.ofString (toString i)
/-- what repr tells of a ratio -/
def ratTxt (q : Rat) : Str := Str.empty ++ "Ratio(" ++ numT q.num ++ ", " ++ numT (q.den : Int) ++ ")"
def sp_rrepr (CR : Addr) : Sp := fun vs H Q _ => ∃ (v : V) (q : Rat), vs = [v] ∧ RatAt CR H v q ∧ q.num.natAbs.log2 < 1000 ∧ q.den.log2 < 1000 ∧ ∀ H', Same H H' → Q (.str (ratTxt q)) H'
theorem c_rrepr {CR : Addr} {v : V} {q : Rat} {H : Hp} {Q : VK} {E : XK} (h0 : RatAt CR H v q) (h1 : q.num.natAbs.log2 < 1000) (h2 : q.den.log2 < 1000) (q : ∀ H', Same H H' → Q (.str (ratTxt q)) H') : sp_rrepr CR [v] H Q E := ⟨_, _, rfl, h0, h1, h2, q⟩
local macro_rules | `(tactic| tb_rel) => `(tactic| repeat (first
  | with_reducible assumption
  | with_reducible exact Dp.int _
  | with_reducible exact Dp.str _
  | with_reducible exact Dp.bl _
  | with_reducible exact Dp.non
  | (with_reducible apply SqT.of; with_reducible assumption)
  | (with_reducible apply SqL.of; with_reducible assumption)
  | (with_reducible apply up_dp; with_reducible assumption)
  | (with_reducible apply up_sqt; with_reducible assumption)
  | (with_reducible apply up_sql; with_reducible assumption)
  | (with_reducible apply up_get; with_reducible assumption)
  | (with_reducible apply up_pot; with_reducible assumption)
  | with_reducible exact Same.refl _
  | with_reducible exact Bu.refl _ _
  | (with_reducible apply up_same; with_reducible assumption)
  | (with_reducible apply up_bu; with_reducible assumption)
  | (with_reducible apply bu_bu; with_reducible assumption)
  | (with_reducible apply free_of; with_reducible assumption)
  | (with_reducible apply mi_fr; with_reducible assumption; (focus (tb_rel; done)))
  | (with_reducible apply mi_dp; with_reducible assumption)
  | (with_reducible apply mi_sqt; with_reducible assumption)
  | (with_reducible apply mi_sql; with_reducible assumption)
  | (with_reducible apply mi_gett; with_reducible assumption)
  | (with_reducible apply mi_getl; with_reducible assumption)
  | (with_reducible apply mi_pot; with_reducible assumption)
  | (with_reducible apply mi_refl; with_reducible assumption; (focus (with_unfolding_all exact rfl)))
  | (with_reducible apply up_mi; with_reducible assumption)
  | (with_reducible apply mi_mi; with_reducible assumption)
  | (with_reducible apply mi_bu; with_reducible assumption)
  | with_reducible exact num_int _
  | (with_reducible apply rat_of; with_reducible assumption)
  | (with_reducible apply num_rat; (focus (tb_rel; done)))
  | (with_reducible apply up_rat; with_reducible assumption)
  | (with_reducible apply up_num; with_reducible assumption)
  | (with_reducible apply mi_rat; with_reducible assumption; (focus (lcg_src; done)))
  | (with_reducible apply mi_num; with_reducible assumption; (focus (lcg_src; done)))
  | (with_reducible apply bu_rat; with_reducible assumption; (focus (tb_rel; done)))
  | (with_reducible apply bu_num; with_reducible assumption; (focus (tb_rel; done)))
  | (with_reducible apply bu_gett; with_reducible assumption; (focus (tb_rel; done)))
  | (with_reducible apply bu_geti; with_reducible assumption; (focus (tb_rel; done)))
  | (with_reducible apply bu_get; with_reducible assumption; (focus (tlg_ne; done)))
  | (with_reducible apply bu_sqt; with_reducible assumption; (focus (tb_rel; done)))
  | (with_reducible apply bu_sql; with_reducible assumption; (focus (tlg_ne; done)))
  | (with_reducible apply bu_dp; with_reducible assumption; (focus (tb_rel; done)); (focus (lcg_src; done)))
  | fail "up"))
local macro_rules | `(tactic| tlg_ne) => `(tactic| first
  | with_reducible assumption
  | (with_reducible apply pot_ne; with_reducible assumption; (focus (tb_rel; done)))
  | fail "ne")
local macro_rules | `(tactic| lcg_src) => `(tactic| first
  | with_reducible assumption
  | with_unfolding_all exact rfl
  | with_unfolding_all decide
  | with_unfolding_all exact Nat.ne_of_beq_eq_false rfl
  | (apply_assumption; done)
  | omega
  | (simp; done)
  | (simp; omega)
  | fail "sd")
local macro_rules | `(tactic| lcg_sub) => `(tactic| first
  | (unfold sizeLine; omega)
  | (simp only [List.length_cons, List.length_nil, List.length_append, List.length_map, List.length_replicate, List.length_take, List.length_drop]; unfold sizeLine; omega)
  | (simp; unfold sizeLine; omega)
  | fail "sz")
local macro_rules | `(tactic| nest_cls) => `(tactic| first
  | (tb_rel; done)
  | (with_reducible apply nmI; (focus (tb_rel; done)))
  | (with_reducible apply d_tup; (focus (tb_rel; done)); (focus (lsm_bools; done)))
  | (with_reducible apply d_lst; (focus (tb_rel; done)); (focus (lsm_bools; done)))
  | fail "dp")
local macro_rules | `(tactic| lsm_bools) => `(tactic| repeat (first
  | with_reducible exact DpAll.nil
  | with_reducible assumption
  | (with_reducible apply DpAll.cons; (focus (nest_cls; done)))
  | fail "dpa"))
local macro_rules | `(tactic| none_booked) => `(tactic| first | with_unfolding_all exact rfl | (with_reducible apply atI_nat; with_reducible assumption) | fail "ix")
local macro_rules | `(tactic| walk_at "go") => `(tactic| repeat (first
  | (focus (with_reducible refine go_var (v := ?_) ?_ ?_; rotate_left; (focus (with_unfolding_all exact rfl))))
  | with_reducible refine go_seq ?_
  | with_reducible refine go_cN ?_
  | with_reducible refine go_c ?_
  | with_reducible refine go_op ?_
  | with_reducible refine go_nil ?_
  | with_reducible refine go_cons ?_
  | with_reducible refine go_cb ?_
  | with_reducible refine go_call0 ?_
  | with_reducible refine go_asg ?_
  | (focus (with_reducible refine go_gname (σ' := ?_) ?_ ?_; rotate_left; (focus (simp only [List.set_cons_succ, List.set_cons_zero]; exact rfl))))
  | with_reducible refine go_par ?_
  | (focus (with_reducible refine go_par2 (σ' := ?_) ?_ ?_; rotate_left; (focus (simp only [List.set_cons_succ, List.set_cons_zero]; exact rfl))))
  | with_reducible refine go_ifs ?_
  | with_reducible refine go_test ?_
  | with_reducible refine go_tb ?_
  | with_reducible refine go_asb ?_
  | with_reducible refine go_asi ?_
  | with_reducible refine go_ret ?_
  | with_reducible refine go_retn ?_
  | with_reducible refine go_drop ?_
  | with_reducible refine go_next ?_
  | with_reducible refine go_and ?_
  | with_reducible refine go_or ?_
  | with_reducible refine go_not ?_
  | with_reducible refine go_andv ?_
  | with_reducible refine go_orv ?_
  | with_reducible refine go_notv ?_
  | with_reducible refine go_ife ?_
  | with_reducible refine go_chain ?_
  | with_reducible refine go_if1 ?_
  | with_reducible refine go_if0 ?_
  | with_reducible refine go_ifn1 ?_
  | with_reducible refine go_ifn0 ?_
  | (with_reducible apply go_ift; (focus (first | with_reducible rfl | with_reducible assumption | omega)))
  | (with_reducible apply go_ifnt; (focus (first | with_reducible rfl | with_reducible assumption | omega)))
  | (with_reducible apply go_iff; (focus (first | with_reducible assumption | omega)))
  | (with_reducible apply go_ifnf; (focus (first | with_reducible assumption | omega)))
  | with_reducible refine go_un ?_
  | with_reducible refine go_tup ?_
  | with_reducible refine go_lst ?_
  | (with_reducible apply go_newt; (focus (lcg_sub; done)); intros)
  | (with_reducible apply go_newl; (focus (lcg_sub; done)); intros)
  | with_reducible refine go_meth ?_
  | with_reducible refine go_for ?_
  | with_reducible refine go_lc ?_
  | with_reducible refine go_irng1 ?_
  | with_reducible refine go_irng2 ?_
  | with_reducible refine go_ilist ?_
  | with_reducible refine go_itup ?_
  | with_reducible refine go_izip ?_
  | with_reducible refine go_ienum ?_
  | (with_reducible apply go_rg1; (focus (lcg_src; done)))
  | (with_reducible apply go_rg2; (focus (lcg_src; done)); (focus (lcg_src; done)))
  | (with_reducible apply go_lsr; (focus (tb_rel; done)))
  | (with_reducible apply go_tpr; (focus (tb_rel; done)))
  | (with_reducible apply go_zpr; (focus (tb_rel; done)); (focus (tb_rel; done)))
  | (with_reducible apply go_zprT; (focus (tb_rel; done)); (focus (tb_rel; done)))
  | (with_reducible apply go_enrL; (focus (tb_rel; done)))
  | (with_reducible apply go_enrT; (focus (tb_rel; done)))
  | with_reducible refine go_prop ?_
  | with_reducible refine go_knr0 ?_
  | (with_reducible apply go_knr; (focus (with_unfolding_all exact rfl; done)); (focus (simp only [kSw2, kRev3, kId, List.nil_append, List.cons_append]; exact rfl)))
  | with_reducible refine go_mkn ?_
  | (with_reducible apply go_mkr; (focus (tb_rel; done)); (focus (with_unfolding_all exact rfl; done)))
  | with_reducible refine go_fld ?_
  | (with_reducible apply go_flr; (focus (tb_rel; done)); (focus (with_reducible assumption; done)); (focus (with_reducible assumption; done)); (focus (with_unfolding_all exact rfl; done)))
  | (with_reducible apply go_prr; (focus (tb_rel; done)))
  | (with_reducible apply go_mer; (focus (tb_rel; done)); (focus (with_unfolding_all exact rfl; done)))
  | with_reducible refine go_sfld ?_
  | (with_reducible apply go_sfr; (focus (tb_rel; done)); (focus (with_reducible assumption; done)); (focus (with_reducible assumption; done)); (focus (with_unfolding_all exact Nat.le_of_ble_eq_true rfl; done)); (focus (with_unfolding_all exact rfl; done)); intros)
  | with_reducible refine go_revt ?_
  | with_reducible refine go_make0 ?_
  | (focus (with_reducible refine go_aug (x := ?_) ?_ ?_; rotate_left; (focus (with_unfolding_all exact rfl))))
  | (focus (with_reducible refine go_augk (σ' := ?_) ?_ ?_; rotate_left; (focus (simp only [List.set_cons_succ, List.set_cons_zero]; exact rfl))))
  | with_reducible refine go_min2 ?_
  | with_reducible refine go_int1 ?_
  | with_reducible refine go_max2 ?_
  | with_reducible refine go_intB ?_
  | with_reducible refine go_absN ?_
  | with_reducible refine go_isN ?_
  | with_reducible refine go_notN ?_
  | (with_reducible apply go_rvt; (focus (tb_rel; done)); (focus (simp only [List.reverse_cons, List.reverse_nil, List.nil_append, List.cons_append]; exact rfl)); intros)
  | (with_reducible apply go_reprNm; (focus (tb_rel; done)); (focus (with_reducible assumption; done)))
  | (with_reducible apply go_reprPr; (focus (nest_cls; done)); (focus (lcg_src; done)); (focus (lcg_src; done)))
  | with_reducible refine go_sl ?_
  | with_reducible refine go_part ?_
  | with_reducible refine go_nopart ?_
  | (with_reducible apply go_gtup; (focus (tb_rel; done)); (focus (with_unfolding_all exact rfl; done)))
  | (with_reducible apply go_gunl; (focus (tb_rel; done)); (focus (with_unfolding_all exact rfl; done)))
  | with_reducible refine go_gcons ?_
  | with_reducible refine go_gnil ?_
  | with_reducible refine go_addN ?_
  | with_reducible refine go_ltN ?_
  | with_reducible refine go_leN ?_
  | with_reducible refine go_gtN ?_
  | with_reducible refine go_geN ?_
  | (with_reducible apply go_subN; (focus (omega; done)))
  | with_reducible refine go_rI0 ?_
  | (with_reducible apply go_mulN; (focus (omega; done)))
  | (with_reducible apply go_modN; (focus (omega; done)))
  | (with_reducible apply go_divN; (focus (omega; done)))
  | (with_reducible apply go_powN; (focus (with_unfolding_all decide; done)))
  | with_reducible refine go_rU ?_
  | with_reducible refine go_eqN ?_
  | with_reducible refine go_neN ?_
  | with_reducible refine go_isB ?_
  | with_reducible refine go_notB ?_
  | with_reducible refine go_eqS ?_
  | with_reducible refine go_neS ?_
  | with_reducible refine go_eqB ?_
  | with_reducible refine go_eqI ?_
  | with_reducible refine go_neI ?_
  | (with_reducible apply go_ixt; (focus (tb_rel; done)); (focus (none_booked; done)))
  | (with_reducible apply go_ixl; (focus (tb_rel; done)); (focus (none_booked; done)))
  | (with_reducible apply go_lent; (focus (tb_rel; done)))
  | (with_reducible apply go_lenNm; (focus (tb_rel; done)))
  | (with_reducible apply go_isiNm; (focus (tb_rel; done)))
  | (with_reducible apply go_lenl; (focus (tb_rel; done)))
  | (with_reducible apply go_catA; (focus (tb_rel; done)); (focus (tb_rel; done)); (focus (lcg_sub; done)); intros)
  | (with_reducible apply go_slaT; (focus (tb_rel; done)); intros)
  | (with_reducible apply go_slaD; (focus (tb_rel; done)); intros)
  | (with_reducible apply go_rep; (focus (tb_rel; done)); (focus (lcg_src; done)); intros)
  | (with_reducible apply go_tupofl; (focus (tb_rel; done)); intros)
  | (with_reducible apply go_sllT; (focus (tb_rel; done)); intros)
  | (with_reducible apply go_sllD; (focus (tb_rel; done)); intros)
  | (with_reducible apply go_cat; (focus (tb_rel; done)); (focus (tb_rel; done)); (focus (lcg_sub; done)); intros)
  | (with_reducible apply go_mkrat; with_reducible assumption; with_reducible assumption; intros)
  | (with_reducible apply go_mkrat1; intros)
  | (with_reducible apply go_merR; (focus (tb_rel; done)); (focus decide); (focus decide))
  | (with_reducible apply go_prR; (focus (tb_rel; done)))
  | (with_reducible apply c_rrepr; (focus (tb_rel; done)); (focus (lcg_src; done)); (focus (lcg_src; done)); intros)
  | fail "go"))
theorem ok_rrepr {f : Addr} {fd : FuncData} (F : Df K "__repr__" "Ratio.__repr__" s_rrepr [] f fd) (GR : RtG K mg CR) : FnOk P w K mg base CX0 1 f fd ["self"] (sp_rrepr CR) := by
  refine dfOk F sc_rrepr (fun vs H Q E h => ?_) (fun cdv A outer s H vs Q E hr h => ?_)
  · obtain ⟨v, q, rfl, _⟩ := h
    rfl
  · obtain ⟨v, q, rfl, hq, n1, n2, k⟩ := h
    refine ⟨_, (pss_one (ps_ret (pe_joined (.cons pe_str (.cons (pe_fmt (pe_fld' (pv 0) rfl)) (.cons pe_str (.cons (pe_fmt (pe_fld' (pv 0) rfl)) (.cons pe_str .nil)))))))), ?_⟩
    refine go_start (σ := [some _]) rfl ?_
    walk_at "go"
    obtain ⟨a, dx, rfl, ea⟩ := hq
    have cl := GR.I.cl
    have l1 : (numT q.num).length ≤ 1921 := PyProof.Rows.int_text_len_1921 (by omega)
    have n2' : ((q.den : Nat) : Int).natAbs.log2 < 1920 := by rw [Int.natAbs_natCast]; omega
    have l2 : (numT (q.den : Int)).length ≤ 1921 := PyProof.Rows.int_text_len_1921 n2'
    have z0 : (Str.empty : Str).length = 0 := rfl
    have z2 : ("Ratio(" : Str).length = 6 := rfl
    have z3 : (", " : Str).length = 2 := rfl
    have z4 : (")" : Str).length = 1 := rfl
    refine ⟨_, rfl, ?_, _, rfl, a, CR, dx, _, _, rfl, ea, cl, GR.nT, rfl, .inr ⟨_, rfl, by omega, _, rfl, ?_, _, rfl, ?_, _, rfl, a, CR, dx, _, _, rfl, ea, cl, GR.nB, rfl, .inr ⟨_, rfl, n2', _, rfl, ?_, _, rfl, ?_, ?_⟩⟩⟩
    · rw [strLen_append]; unfold sizeLine; omega
    · show (Str.empty ++ "Ratio(" ++ numT q.num).length ≤ sizeLine
      rw [strLen_append, strLen_append]; unfold sizeLine; omega
    · show (Str.empty ++ "Ratio(" ++ numT q.num ++ ", ").length ≤ sizeLine
      rw [strLen_append, strLen_append, strLen_append]; unfold sizeLine; omega
    · show (Str.empty ++ "Ratio(" ++ numT q.num ++ ", " ++ numT (q.den : Int)).length ≤ sizeLine
      rw [strLen_append, strLen_append, strLen_append, strLen_append]; unfold sizeLine; omega
    · show (Str.empty ++ "Ratio(" ++ numT q.num ++ ", " ++ numT (q.den : Int) ++ ")").length ≤ sizeLine
      rw [strLen_append, strLen_append, strLen_append, strLen_append, strLen_append]; unfold sizeLine; omega
    · exact k _ (Same.refl _)
end
end T
set_option Elab.async false
set_option maxRecDepth 100000
set_option maxHeartbeats 4000000
namespace T
open PySem L2 Mv
abbrev s_asked : Stmt := top 65
theorem sc_asked : FnScope ["_law_tome", "_law_rounds_here", "_law_thing", "_law_due", "_law_shown", "_law_told"] ["_law_tome", "_law_rounds_here", "_law_thing"] (defScope s_asked) := ⟨rfl, rfl, rfl, by decide +kernel, rfl, by decide +kernel, by decide +kernel⟩
section
variable {P : Program} {w : World} {K : PySem.W.Frag} {mg : Str → Option Value} {base : Heap} {C AX CR : Addr}
def sp_asked (P : Program) (w : World) (K : PySem.W.Frag) (mg : Str → Option Value) (base : Heap) (C : Addr) : Sp := fun vs H Q _ => ∃ (m v u : V) (rs : List (List Pm.Cut)) (b : Bool) (t : Str), vs = [m, v, u] ∧ PlanAt K C H m rs ∧ Dp K H v (lRdsD rs) ∧ Pm.RdsOk rs ∧ Ask K H rs u b ∧ Tps P w K mg base 4 H u t ∧ ∀ H', Same H H' → Q (.bl true) H'
theorem c_asked {P : Program} {w : World} {K : PySem.W.Frag} {mg : Str → Option Value} {base : Heap} {C : Addr} {m v u : V} {rs : List (List Pm.Cut)} {b : Bool} {t : Str} {H : Hp} {Q : VK} {E : XK} (h0 : PlanAt K C H m rs) (h1 : Dp K H v (lRdsD rs)) (h2 : Pm.RdsOk rs) (h3 : Ask K H rs u b) (h4 : Tps P w K mg base 4 H u t) (q : ∀ H', Same H H' → Q (.bl true) H') : sp_asked P w K mg base C [m, v, u] H Q E := ⟨_, _, _, _, _, _, rfl, h0, h1, h2, h3, h4, q⟩
local macro_rules | `(tactic| tb_rel) => `(tactic| repeat (first
  | with_reducible assumption
  | with_reducible exact Dp.int _
  | with_reducible exact Dp.str _
  | with_reducible exact Dp.bl _
  | with_reducible exact Dp.non
  | (with_reducible apply SqT.of; with_reducible assumption)
  | (with_reducible apply SqL.of; with_reducible assumption)
  | (with_reducible apply up_dp; with_reducible assumption)
  | (with_reducible apply up_sqt; with_reducible assumption)
  | (with_reducible apply up_sql; with_reducible assumption)
  | (with_reducible apply up_get; with_reducible assumption)
  | (with_reducible apply up_pot; with_reducible assumption)
  | with_reducible exact Same.refl _
  | with_reducible exact Bu.refl _ _
  | (with_reducible apply up_same; with_reducible assumption)
  | (with_reducible apply up_bu; with_reducible assumption)
  | (with_reducible apply bu_bu; with_reducible assumption)
  | (with_reducible apply free_of; with_reducible assumption)
  | (with_reducible apply mi_fr; with_reducible assumption; (focus (tb_rel; done)))
  | (with_reducible apply mi_dp; with_reducible assumption)
  | (with_reducible apply mi_sqt; with_reducible assumption)
  | (with_reducible apply mi_sql; with_reducible assumption)
  | (with_reducible apply mi_gett; with_reducible assumption)
  | (with_reducible apply mi_getl; with_reducible assumption)
  | (with_reducible apply mi_pot; with_reducible assumption)
  | (with_reducible apply mi_refl; with_reducible assumption; (focus (with_unfolding_all exact rfl)))
  | (with_reducible apply up_mi; with_reducible assumption)
  | (with_reducible apply mi_mi; with_reducible assumption)
  | (with_reducible apply mi_bu; with_reducible assumption)
  | (with_reducible apply up_plan; with_reducible assumption)
  | (with_reducible apply bu_plan; with_reducible assumption; (focus (tb_rel; done)))
  | (with_reducible apply mi_plan; with_reducible assumption; (focus (lcg_src; done)))
  | (with_reducible apply up_lrd; with_reducible assumption)
  | (with_reducible apply bu_lrd; with_reducible assumption; (focus (tb_rel; done)))
  | (with_reducible apply bu_gett; with_reducible assumption; (focus (tb_rel; done)))
  | (with_reducible apply bu_geti; with_reducible assumption; (focus (tb_rel; done)))
  | (with_reducible apply bu_get; with_reducible assumption; (focus (tlg_ne; done)))
  | (with_reducible apply bu_sqt; with_reducible assumption; (focus (tb_rel; done)))
  | (with_reducible apply bu_sql; with_reducible assumption; (focus (tlg_ne; done)))
  | (with_reducible apply bu_dp; with_reducible assumption; (focus (tb_rel; done)); (focus (lcg_src; done)))
  | fail "up"))
local macro_rules | `(tactic| tlg_ne) => `(tactic| first
  | with_reducible assumption
  | (with_reducible apply pot_ne; with_reducible assumption; (focus (tb_rel; done)))
  | fail "ne")
local macro_rules | `(tactic| lcg_src) => `(tactic| first
  | with_reducible assumption
  | with_unfolding_all exact rfl
  | with_unfolding_all decide
  | with_unfolding_all exact Nat.ne_of_beq_eq_false rfl
  | (apply_assumption; done)
  | omega
  | (simp; done)
  | (simp; omega)
  | fail "sd")
local macro_rules | `(tactic| lcg_sub) => `(tactic| first
  | (unfold sizeLine; omega)
  | (simp only [List.length_cons, List.length_nil, List.length_append, List.length_map, List.length_replicate, List.length_take, List.length_drop]; unfold sizeLine; omega)
  | (simp; unfold sizeLine; omega)
  | fail "sz")
local macro_rules | `(tactic| nest_cls) => `(tactic| first
  | (tb_rel; done)
  | (with_reducible apply lrd_dp; (focus (tb_rel; done)))
  | (with_reducible apply nmI1; (focus (tb_rel; done)))
  | (with_reducible apply nmT; (focus (tb_rel; done)))
  | (with_reducible apply nmI; (focus (tb_rel; done)))
  | (with_reducible apply d_tup; (focus (tb_rel; done)); (focus (lsm_bools; done)))
  | (with_reducible apply d_lst; (focus (tb_rel; done)); (focus (lsm_bools; done)))
  | fail "dp")
local macro_rules | `(tactic| lsm_bools) => `(tactic| repeat (first
  | with_reducible exact DpAll.nil
  | with_reducible assumption
  | (with_reducible apply DpAll.cons; (focus (nest_cls; done)))
  | fail "dpa"))
local macro_rules | `(tactic| none_booked) => `(tactic| first | with_unfolding_all exact rfl | (with_reducible apply atI_nat; with_reducible assumption) | fail "ix")
local macro_rules | `(tactic| walk_at "go") => `(tactic| repeat (first
  | (focus (with_reducible refine go_var (v := ?_) ?_ ?_; rotate_left; (focus (with_unfolding_all exact rfl))))
  | with_reducible refine go_seq ?_
  | with_reducible refine go_cN ?_
  | with_reducible refine go_c ?_
  | with_reducible refine go_op ?_
  | with_reducible refine go_nil ?_
  | with_reducible refine go_cons ?_
  | with_reducible refine go_cb ?_
  | with_reducible refine go_call0 ?_
  | with_reducible refine go_asg ?_
  | (focus (with_reducible refine go_gname (σ' := ?_) ?_ ?_; rotate_left; (focus (simp only [List.set_cons_succ, List.set_cons_zero]; exact rfl))))
  | with_reducible refine go_par ?_
  | (focus (with_reducible refine go_par2 (σ' := ?_) ?_ ?_; rotate_left; (focus (simp only [List.set_cons_succ, List.set_cons_zero]; exact rfl))))
  | with_reducible refine go_ifs ?_
  | with_reducible refine go_test ?_
  | with_reducible refine go_tb ?_
  | with_reducible refine go_asb ?_
  | with_reducible refine go_asi ?_
  | with_reducible refine go_ret ?_
  | with_reducible refine go_retn ?_
  | with_reducible refine go_drop ?_
  | with_reducible refine go_next ?_
  | with_reducible refine go_and ?_
  | with_reducible refine go_or ?_
  | with_reducible refine go_not ?_
  | with_reducible refine go_andv ?_
  | with_reducible refine go_orv ?_
  | with_reducible refine go_notv ?_
  | with_reducible refine go_ife ?_
  | with_reducible refine go_chain ?_
  | with_reducible refine go_if1 ?_
  | with_reducible refine go_if0 ?_
  | with_reducible refine go_ifn1 ?_
  | with_reducible refine go_ifn0 ?_
  | (with_reducible apply go_ift; (focus (first | with_reducible rfl | with_reducible assumption | omega)))
  | (with_reducible apply go_ifnt; (focus (first | with_reducible rfl | with_reducible assumption | omega)))
  | (with_reducible apply go_iff; (focus (first | with_reducible assumption | omega)))
  | (with_reducible apply go_ifnf; (focus (first | with_reducible assumption | omega)))
  | with_reducible refine go_un ?_
  | with_reducible refine go_tup ?_
  | with_reducible refine go_lst ?_
  | (with_reducible apply go_newt; (focus (lcg_sub; done)); intros)
  | (with_reducible apply go_newl; (focus (lcg_sub; done)); intros)
  | with_reducible refine go_meth ?_
  | with_reducible refine go_for ?_
  | with_reducible refine go_lc ?_
  | with_reducible refine go_irng1 ?_
  | with_reducible refine go_irng2 ?_
  | with_reducible refine go_ilist ?_
  | with_reducible refine go_itup ?_
  | with_reducible refine go_izip ?_
  | with_reducible refine go_ienum ?_
  | (with_reducible apply go_rg1; (focus (lcg_src; done)))
  | (with_reducible apply go_rg2; (focus (lcg_src; done)); (focus (lcg_src; done)))
  | (with_reducible apply go_lsr; (focus (tb_rel; done)))
  | (with_reducible apply go_tpr; (focus (tb_rel; done)))
  | (with_reducible apply go_zpr; (focus (tb_rel; done)); (focus (tb_rel; done)))
  | (with_reducible apply go_zprT; (focus (tb_rel; done)); (focus (tb_rel; done)))
  | (with_reducible apply go_enrL; (focus (tb_rel; done)))
  | (with_reducible apply go_enrT; (focus (tb_rel; done)))
  | with_reducible refine go_prop ?_
  | with_reducible refine go_knr0 ?_
  | (with_reducible apply go_knr; (focus (with_unfolding_all exact rfl; done)); (focus (simp only [kSw2, kRev3, kId, List.nil_append, List.cons_append]; exact rfl)))
  | with_reducible refine go_mkn ?_
  | (with_reducible apply go_mkr; (focus (tb_rel; done)); (focus (with_unfolding_all exact rfl; done)))
  | with_reducible refine go_fld ?_
  | (with_reducible apply go_flr; (focus (tb_rel; done)); (focus (with_reducible assumption; done)); (focus (with_reducible assumption; done)); (focus (with_unfolding_all exact rfl; done)))
  | (with_reducible apply go_prr; (focus (tb_rel; done)))
  | (with_reducible apply go_mer; (focus (tb_rel; done)); (focus (with_unfolding_all exact rfl; done)))
  | with_reducible refine go_sfld ?_
  | (with_reducible apply go_sfr; (focus (tb_rel; done)); (focus (with_reducible assumption; done)); (focus (with_reducible assumption; done)); (focus (with_unfolding_all exact Nat.le_of_ble_eq_true rfl; done)); (focus (with_unfolding_all exact rfl; done)); intros)
  | with_reducible refine go_revt ?_
  | with_reducible refine go_make0 ?_
  | (focus (with_reducible refine go_aug (x := ?_) ?_ ?_; rotate_left; (focus (with_unfolding_all exact rfl))))
  | (focus (with_reducible refine go_augk (σ' := ?_) ?_ ?_; rotate_left; (focus (simp only [List.set_cons_succ, List.set_cons_zero]; exact rfl))))
  | with_reducible refine go_min2 ?_
  | with_reducible refine go_int1 ?_
  | with_reducible refine go_max2 ?_
  | with_reducible refine go_intB ?_
  | with_reducible refine go_absN ?_
  | with_reducible refine go_isN ?_
  | with_reducible refine go_notN ?_
  | (with_reducible apply go_rvt; (focus (tb_rel; done)); (focus (simp only [List.reverse_cons, List.reverse_nil, List.nil_append, List.cons_append]; exact rfl)); intros)
  | (with_reducible apply go_reprNm; (focus (tb_rel; done)); (focus (with_reducible assumption; done)))
  | (with_reducible apply go_reprPr; (focus (nest_cls; done)); (focus (lcg_src; done)); (focus (lcg_src; done)))
  | with_reducible refine go_sl ?_
  | with_reducible refine go_part ?_
  | with_reducible refine go_nopart ?_
  | (with_reducible apply go_gtup; (focus (tb_rel; done)); (focus (with_unfolding_all exact rfl; done)))
  | (with_reducible apply go_gunl; (focus (tb_rel; done)); (focus (with_unfolding_all exact rfl; done)))
  | with_reducible refine go_gcons ?_
  | with_reducible refine go_gnil ?_
  | with_reducible refine go_addN ?_
  | with_reducible refine go_ltN ?_
  | with_reducible refine go_leN ?_
  | with_reducible refine go_gtN ?_
  | with_reducible refine go_geN ?_
  | (with_reducible apply go_subN; (focus (omega; done)))
  | with_reducible refine go_rI0 ?_
  | (with_reducible apply go_mulN; (focus (omega; done)))
  | (with_reducible apply go_modN; (focus (omega; done)))
  | (with_reducible apply go_divN; (focus (omega; done)))
  | (with_reducible apply go_powN; (focus (with_unfolding_all decide; done)))
  | with_reducible refine go_rU ?_
  | with_reducible refine go_eqN ?_
  | with_reducible refine go_neN ?_
  | with_reducible refine go_isB ?_
  | with_reducible refine go_notB ?_
  | with_reducible refine go_eqS ?_
  | with_reducible refine go_neS ?_
  | with_reducible refine go_eqB ?_
  | with_reducible refine go_eqI ?_
  | with_reducible refine go_neI ?_
  | (with_reducible apply go_ixt; (focus (tb_rel; done)); (focus (none_booked; done)))
  | (with_reducible apply go_ixl; (focus (tb_rel; done)); (focus (none_booked; done)))
  | (with_reducible apply go_lent; (focus (tb_rel; done)))
  | (with_reducible apply go_lenNm; (focus (tb_rel; done)))
  | (with_reducible apply go_isiNm; (focus (tb_rel; done)))
  | (with_reducible apply go_lenl; (focus (tb_rel; done)))
  | (with_reducible apply go_catA; (focus (tb_rel; done)); (focus (tb_rel; done)); (focus (lcg_sub; done)); intros)
  | (with_reducible apply go_slaT; (focus (tb_rel; done)); intros)
  | (with_reducible apply go_slaD; (focus (tb_rel; done)); intros)
  | (with_reducible apply go_rep; (focus (tb_rel; done)); (focus (lcg_src; done)); intros)
  | (with_reducible apply go_tupofl; (focus (tb_rel; done)); intros)
  | (with_reducible apply go_sllT; (focus (tb_rel; done)); intros)
  | (with_reducible apply go_sllD; (focus (tb_rel; done)); intros)
  | (with_reducible apply go_cat; (focus (tb_rel; done)); (focus (tb_rel; done)); (focus (lcg_sub; done)); intros)
  | (with_reducible apply go_eqP; with_reducible assumption; (focus (tb_rel; done)); (focus (tb_rel; done)))
  | (with_reducible apply go_neP; with_reducible assumption; (focus (tb_rel; done)); (focus (tb_rel; done)))
  | (with_reducible apply go_mep; (focus (tb_rel; done)); (focus decide); (focus decide); (focus decide))
  | (with_reducible apply go_lenR; (focus (nest_cls; done)))
  | (with_reducible apply go_ixR; (focus (nest_cls; done)); (focus (lcg_src; done)); intros)
  | (with_reducible apply c_asked; (focus (tb_rel; done)); (focus (nest_cls; done)); (focus (lcg_src; done)); (focus (lcg_src; done)); (focus (lcg_src; done)); intros)
  | (with_reducible apply c_isname2; (focus (tb_rel; done)); (focus (lcg_src; done)); intros)
  | (with_reducible apply c_isright; (focus (nest_cls; done)); (focus (lcg_src; done)); (focus (lcg_src; done)); intros)
  | (with_reducible apply ne_same; (focus (nest_cls; done)); (focus (nest_cls; done)); (focus (first | with_unfolding_all exact rfl | exact shaped_nm _)); (focus (first | with_unfolding_all exact rfl | exact nd_nm _)))
  | (with_reducible apply eq_same; (focus (nest_cls; done)); (focus (nest_cls; done)); (focus (first | with_unfolding_all exact rfl | exact shaped_nm _)); (focus (first | with_unfolding_all exact rfl | exact nd_nm _)))
  | fail "go"))
theorem ok_asked {f : Addr} {fd : FuncData} (F : Df K "_law_asked" "_law_asked" s_asked [] f fd) (B : Blt mg) (cIr : Ca P w K mg base 2 "_law_is_right" (sp_isright K) []) (cIn : Ca P w K mg base 8 "is_name" (sp_isname2 K C) []) (cInK : CaK P w K mg base 8 "is_name" (sp_isname2 K C) ["value", "plan"] kSw2) : FnG P w K mg base 9 f fd ["_law_tome", "_law_rounds_here", "_law_thing"] (sp_asked P w K mg base C) := by
  refine dfG F sc_asked (fun vs H Q E h => ?_) (fun cdv A outer s H vs Q E hr ga h => ?_)
  · obtain ⟨m, v, u, rs, b, t, rfl, _⟩ := h
    rfl
  · obtain ⟨m, v, u, rs, b, t, rfl, hp, hd, hok, ha, ht, q⟩ := h
    refine ⟨_, (pss_cons (ps_par (i := 3) (j := 4) (by rfl) sc_asked.nd rfl rfl (by decide) rfl rfl (pa_cons (pe_ca cIr hr (by decide) (by rfl) (pa_cons (pv 1) (pa_cons (pv 2) pa_nil))) (pa_cons (pe_callB (call_reprV (P := P) (w := w) (K := K) (mg := mg) (base := base) (k := 4) ga hr (by decide)) (by rfl) B.repr bt_repr (pa_cons (pv 2) pa_nil)) pa_nil)) (by rfl))
  (pss_cons (ps_set (i := 5) sc_asked.nd rfl (Or.inl rfl) (pe_lst (pa_cons (pe_ca cIn hr (by decide) (by rfl) (pa_cons (pv 0) (pa_cons (pv 2) pa_nil))) (pa_cons (pe_cak cInK hr (by decide) (by rfl) (pk_cons (pv 2) (pk_cons (pv 0) pk_nil))) (pa_cons (pe_ca cIn hr (by decide) (by rfl) (pa_cons (pv 0) (pa_cons (pv 2) pa_nil))) pa_nil)))))
  (pss_one (ps_ret (pe_and (pe_cmpR op_eq (pe_callB (call_reprD' ga hr) (by rfl) B.repr bt_repr (pa_cons (pv 5) pa_nil)) (pe_callB (call_reprD' ga hr) (by rfl) B.repr bt_repr (pa_cons (pe_op op_rep (pe_lst (pa_cons (pv 3) pa_nil)) pe_int) pa_nil)) (nomark _)) (pe_one (pe_cmpR op_eq (pe_callB (call_reprV (P := P) (w := w) (K := K) (mg := mg) (base := base) (k := 4) ga hr (by decide)) (by rfl) B.repr bt_repr (pa_cons (pv 2) pa_nil)) (pv 4) (nomark _)))))))), ?_⟩
    refine go_start (σ := [some _, some _, some _, none, none, none]) rfl ?_
    walk_at "go"
    rename_i H1 s1
    refine go_reprV (ht.same s1) fun H2 s2 => ?_
    have s02 := s1.trans s2
    walk_at "go"
    refine ⟨_, _, _, _, rfl, hp.same s02, ha.same s02, fun H3 s3 => ?_⟩
    have s03 := s02.trans s3
    walk_at "go"
    refine ⟨_, _, _, _, rfl, hp.same s03, ha.same s03, fun H4 s4 => ?_⟩
    have s04 := s03.trans s4
    walk_at "go"
    refine ⟨_, _, _, _, rfl, hp.same s04, ha.same s04, fun H5 s5 => ?_⟩
    have s05 := s04.trans s5
    walk_at "go"
    rename_i L6 H6 n6 s6 e6
    have sh : Shw (.list [.bool b, .bool b, .bool b]) := by cases b <;> exact ⟨by decide +kernel, by decide +kernel, by decide +kernel, by decide +kernel⟩
    refine go_repr (v := .ref L6) (d := .list [.bool b, .bool b, .bool b]) (.lst (SqL.of e6) (.cons (.bl b) (.cons (.bl b) (.cons (.bl b) .nil)))) sh ⟨_, rfl⟩ ?_
    walk_at "go"
    rename_i L7 H7 n7 s7 e7 L8 H8 n8 s8 e8
    refine go_repr (v := .ref L8) (d := .list [.bool b, .bool b, .bool b]) (.lst (SqL.of e8) (.cons (.bl b) (.cons (.bl b) (.cons (.bl b) .nil)))) sh ⟨_, rfl⟩ ?_
    have s08 := s05.trans (s6.trans (s7.trans s8))
    walk_at "go"
    refine go_reprV (ht.same s08) fun H9 s9 => ?_
    walk_at "go"
    rw [decide_eq_true rfl]
    exact q _ (s08.trans s9)
end
end T
set_option Elab.async false
set_option maxRecDepth 100000
set_option maxHeartbeats 4000000
/-! Data that is small enough to be shown. -/
namespace Mv
open PySem PySem.Spec PyProof.Rows L2
/-- at most k deep, of weight at most W -/
structure Sma (k W : Nat) (d : PyData) : Prop where
  sh : d.showable = true
  nd : d.hasDict = false
  dp : d.depth ≤ k
  lf : d.leavesShort 401 = true
  wt : d.weight ≤ W
theorem Sma.mono {k W k' W' : Nat} {d : PyData} (h : Sma k W d) (h1 : k ≤ k') (h2 : W ≤ W') : Sma k' W' d := ⟨h.sh, h.nd, Nat.le_trans h.dp h1, h.lf, Nat.le_trans h.wt h2⟩
theorem Sma.shw {k W : Nat} {d : PyData} (h : Sma k W d) (h1 : k ≤ 60) (h2 : W ≤ 40000) : Shw d := by
  refine ⟨h.sh, h.nd, Nat.le_trans h.dp h1, ?_⟩
  have := PyData.shown_le 401 (by decide) d h.lf
  have := h.wt
  unfold sizeLine
  omega
theorem Sma.len {k W : Nat} {d : PyData} (h : Sma k W d) : d.shown.length ≤ 403 * W + 403 := by
  have := PyData.shown_le 401 (by decide) d h.lf
  have := h.wt
  omega
theorem Sma.int {n : Nat} (h : n < 10 ^ 400) : Sma 0 1920 (.int (n : Int)) := by
  have l : n.log2 < 1920 := lg_lt (Nat.lt_trans h (by decide +kernel)) (by decide)
  have s : (PyData.shown (.int (n : Int))).length ≤ 401 := by
    have e := int_text_length_le10 (a := (n : Int)) (k := 400) (by decide) (by rw [Int.natAbs_natCast]; exact h)
    show (Str.ofString (toString (n : Int))).length ≤ 401
    rw [PySem.ofString_length]; exact e
  refine ⟨?_, rfl, by simp [PyData.depth], ?_, ?_⟩
  · simp only [PyData.showable, decide_eq_true_eq, Int.natAbs_natCast]
    exact l
  · simp only [PyData.leavesShort, decide_eq_true_eq]
    exact s
  · simp only [PyData.weight, Int.natAbs_natCast]
    split <;> omega
theorem Sma.bool (b : Bool) : Sma 0 0 (.bool b) := ⟨rfl, rfl, by simp [PyData.depth], rfl, by simp [PyData.weight]⟩
theorem sm_all {k W : Nat} : ∀ {ds : List PyData}, (∀ d ∈ ds, Sma k W d) → PyData.showableAll ds = true ∧ PyData.hasDictAll ds = false ∧ PyData.depthAll ds ≤ k ∧ PyData.leavesShortAll 401 ds = true ∧ PyData.weightAll ds ≤ ds.length * (W + 1)
  | [], _ => ⟨rfl, rfl, by simp [PyData.depthAll], rfl, by simp [PyData.weightAll]⟩
  | d :: ds, h => by
    obtain ⟨a, b, c, e, f⟩ := sm_all (ds := ds) fun x hx => h x (List.mem_cons_of_mem _ hx)
    have g := h d (List.mem_cons_self ..)
    refine ⟨by simp [PyData.showableAll, g.sh, a], by simp [PyData.hasDictAll, g.nd, b], ?_, by simp [PyData.leavesShortAll, g.lf, e], ?_⟩
    · simp only [PyData.depthAll]
      exact Nat.max_le.mpr ⟨g.dp, c⟩
    · simp only [PyData.weightAll, List.length_cons, Nat.add_mul, Nat.one_mul]
      have := g.wt
      omega
theorem Sma.list {k W : Nat} {ds : List PyData} (h : ∀ d ∈ ds, Sma k W d) : Sma (k + 1) (ds.length * (W + 1)) (.list ds) := by
  obtain ⟨a, b, c, e, f⟩ := sm_all h
  refine ⟨by simpa [PyData.showable] using a, by simpa [PyData.hasDict] using b, by simp only [PyData.depth]; omega, by simpa [PyData.leavesShort] using e, by simpa [PyData.weight] using f⟩
theorem Sma.tuple {k W : Nat} {ds : List PyData} (h : ∀ d ∈ ds, Sma k W d) : Sma (k + 1) (ds.length * (W + 1)) (.tuple ds) := by
  obtain ⟨a, b, c, e, f⟩ := sm_all h
  refine ⟨by simpa [PyData.showable] using a, by simpa [PyData.hasDict] using b, by simp only [PyData.depth]; omega, by simpa [PyData.leavesShort] using e, by simpa [PyData.weight] using f⟩
/-- a cut, a round, rounds -/
theorem sm_cut {c : Pm.Cut} (h : Pm.CutOk c) : Sma 1 12 (pCut c) := by
  obtain ⟨a, n⟩ := c
  have h1 : a < 2 := h.1
  have h2 : 2 ≤ n := h.2.1
  have h3 : n ≤ 4 := h.2.2
  rcases (by omega : a = 0 ∨ a = 1) with rfl | rfl <;> rcases (by omega : n = 2 ∨ n = 3 ∨ n = 4) with rfl | rfl | rfl <;> exact ⟨by decide +kernel, by decide +kernel, by decide +kernel, by decide +kernel, by decide +kernel⟩
theorem sm_rnd {r : List Pm.Cut} (h : Pm.RndOk r) : Sma 2 65 (.list (r.map pCut)) := by
  refine (Sma.list (k := 1) (W := 12) fun d hd => ?_).mono (Nat.le_refl _) ?_
  · obtain ⟨c, hc, rfl⟩ := List.mem_map.mp hd
    exact sm_cut (h.2.2.1 c hc)
  · have := h.2.1
    rw [List.length_map]
    omega
theorem sm_rds {rs : List (List Pm.Cut)} (h : Pm.RdsOk rs) : Sma 3 198 (.list (rs.map fun r => .list (r.map pCut))) := by
  refine (Sma.list (k := 2) (W := 65) fun d hd => ?_).mono (Nat.le_refl _) ?_
  · obtain ⟨r, hr, rfl⟩ := List.mem_map.mp hd
    exact sm_rnd (h.2.2.1 r hr)
  · have := h.2.1
    rw [List.length_map]
    omega
end Mv
set_option Elab.async false
set_option maxRecDepth 100000
set_option maxHeartbeats 4000000
/-! values that can be shown: plain data, or with own instances in them. -/
namespace Mv
open PySem PySem.Spec PyProof.Rows L2
theorem tupTxt_len (ts : List Str) : (tupleText ts).length ≤ piled ts + 3 := by
  unfold tupleText
  rw [strLen_append, strLen_append]
  have e1 : ((("(" : String) : Str)).length = 1 := rfl
  have e2 : ((if (ts.length == 1) = true then ",)" else ")" : String) : Str).length ≤ 2 := by split <;> decide
  rw [e1]
  by_cases h : ts = []
  · subst h
    have : (Str.join ", " []).length = 0 := rfl
    omega
  · have := join_length_add ts h
    omega
theorem lstTxt_len : ∀ ts : List Str, (listText ts).length ≤ piled ts + 2
  | [] => by decide +kernel
  | t :: r => by
    have h := textFrom_length_pos r 1 (("[" : Str) ++ (if (0 : Nat) > 0 then ", " else "" : String) ++ t) (Nat.succ_pos 0)
    have e : ((("[" : Str) ++ (if (0 : Nat) > 0 then ", " else "" : String) ++ t)).length = 1 + t.length := by
      rw [strLen_append, strLen_append]
      rfl
    have e1 : (listText (t :: r)).length = (textFrom 1 (("[" : Str) ++ (if (0 : Nat) > 0 then ", " else "" : String) ++ t) r).length + 1 := by
      show (textFrom 0 "[" (t :: r) ++ "]").length = _
      rw [strLen_append]
      rfl
    rw [e1, h, e, piled_cons]
    omega
theorem piled_le {n : Nat} : ∀ {ts : List Str}, (∀ t ∈ ts, t.length ≤ n) → piled ts ≤ ts.length * (n + 2)
  | [], _ => by simp [piled]
  | t :: ts, h => by
    have h1 := h t (List.mem_cons_self ..)
    have h2 := piled_le (ts := ts) fun x m => h x (List.mem_cons_of_mem _ m)
    rw [piled_cons, List.length_cons, Nat.add_mul]
    omega
/-- at most k deep, of weight at most W -/
def It (P : Program) (w : World) (K : PySem.W.Frag) (mg : Str → Option Value) (base : Heap) (k W : Nat) (H : Hp) (v : V) : Prop :=
  (∃ d, Dp K H v d ∧ Sma k W d) ∨ (Mx K H v ∧ ∃ t : Str, t.length ≤ 403 * W + 403 ∧ Shs P w K mg base k H v t)
section
variable {P : Program} {w : World} {K : PySem.W.Frag} {mg : Str → Option Value} {base : Heap} {k W : Nat} {H : Hp}
theorem It.same {H' : Hp} {v : V} (s : Same H H') (h : It P w K mg base k W H v) : It P w K mg base k W H' v := by
  rcases h with ⟨d, hd, hs⟩ | ⟨m, t, l, hs⟩
  · exact .inl ⟨d, hd.up s, hs⟩
  · exact .inr ⟨m.same s, t, l, hs.same s⟩
theorem It.mono {k' W' : Nat} {v : V} (h : It P w K mg base k W H v) (h1 : k ≤ k') (h2 : W ≤ W') : It P w K mg base k' W' H v := by
  rcases h with ⟨d, hd, hs⟩ | ⟨m, t, l, hs⟩
  · exact .inl ⟨d, hd, hs.mono h1 h2⟩
  · exact .inr ⟨m, t, by omega, hs.up h1⟩
theorem It.shs {v : V} (h : It P w K mg base k W H v) (h1 : k ≤ 60) (h2 : W ≤ 40000) : ∃ t : Str, t.length ≤ 403 * W + 403 ∧ Shs P w K mg base k H v t := by
  rcases h with ⟨d, hd, hs⟩ | ⟨m, t, l, hs⟩
  · exact ⟨_, hs.len, .dat hd (hs.shw h1 h2)⟩
  · exact ⟨t, l, hs⟩
theorem its_shl (h1 : k ≤ 60) (h2 : W ≤ 40000) : ∀ {xs : List V}, (∀ x ∈ xs, It P w K mg base k W H x) → ∃ ts, ShL P w K mg base k H xs ts ∧ (∀ t ∈ ts, t.length ≤ 403 * W + 403) ∧ ts.length = xs.length
  | [], _ => ⟨[], .nil, fun _ m => by simp at m, rfl⟩
  | x :: xs, h => by
    obtain ⟨t, l, hs⟩ := (h x (List.mem_cons_self ..)).shs h1 h2
    obtain ⟨ts, h3, h4, h5⟩ := its_shl h1 h2 (xs := xs) fun y m => h y (List.mem_cons_of_mem _ m)
    exact ⟨t :: ts, .cons hs h3, fun u m => (List.mem_cons.mp m).elim (fun e => e ▸ l) (h4 u), by simp [h5]⟩
theorem its_dat : ∀ {xs : List V}, (∀ x ∈ xs, It P w K mg base k W H x) → (¬ ∃ x ∈ xs, Mx K H x) → ∃ ds, DpAll K H xs ds ∧ (∀ d ∈ ds, Sma k W d) ∧ ds.length = xs.length
  | [], _, _ => ⟨[], .nil, fun _ m => by simp at m, rfl⟩
  | x :: xs, h, n => by
    rcases h x (List.mem_cons_self ..) with ⟨d, hd, hs⟩ | ⟨m, _⟩
    · obtain ⟨ds, h3, h4, h5⟩ := its_dat (xs := xs) (fun y m => h y (List.mem_cons_of_mem _ m)) fun ⟨y, m, z⟩ => n ⟨y, List.mem_cons_of_mem _ m, z⟩
      exact ⟨d :: ds, .cons hd h3, fun e m => (List.mem_cons.mp m).elim (fun z => z ▸ hs) (h4 e), by simp [h5]⟩
    · exact absurd ⟨x, List.mem_cons_self .., m⟩ n
/-- a new tuple, a new list -/
theorem It.tup {H0 : Hp} {a : Addr} {xs : List V} {n : Nat} (s : Same H0 H) (f : H0 a = none) (e : H a = some (.tup xs)) (h : ∀ x ∈ xs, It P w K mg base k W H0 x) (hn : xs.length ≤ n) (h1 : k ≤ 60) (h2 : n * (403 * W + 405) ≤ 10000000) (h3 : W ≤ 40000) : It P w K mg base (k + 1) (n * (W + 2) + 1) H (.ref a) := by
  by_cases c : ∃ x ∈ xs, Mx K H0 x
  · obtain ⟨ts, g1, g2, g3⟩ := its_shl h1 h3 h
    have l1 := tupTxt_len ts
    have l2 := piled_le g2
    have l3 : ts.length * (403 * W + 403 + 2) ≤ n * (403 * W + 405) := Nat.mul_le_mul (by omega) (Nat.le_refl _)
    refine .inr ⟨?_, tupleText ts, ?_, .tup s f e c g1 (by unfold sizeLine; omega)⟩
    · obtain ⟨x, mx, hx⟩ := c
      exact .tup (SqT.of e) mx (hx.same s)
    · have : 403 * (n * (W + 2) + 1) = n * (403 * W + 806) + 403 := by
        rw [Nat.mul_add, ← Nat.mul_assoc, Nat.mul_comm 403 n, Nat.mul_assoc, Nat.mul_add]
      have : n * (403 * W + 405) ≤ n * (403 * W + 806) := Nat.mul_le_mul (Nat.le_refl _) (by omega)
      omega
  · obtain ⟨ds, g1, g2, g3⟩ := its_dat h c
    refine .inl ⟨_, .tup (SqT.of e) (g1.up s), (Sma.tuple g2).mono (Nat.le_refl _) ?_⟩
    have : ds.length * (W + 1) ≤ n * (W + 2) := Nat.mul_le_mul (by omega) (by omega)
    omega
theorem It.lst {H0 : Hp} {a : Addr} {xs : List V} {n : Nat} (s : Same H0 H) (f : H0 a = none) (e : H a = some (.lst xs)) (h : ∀ x ∈ xs, It P w K mg base k W H0 x) (hn : xs.length ≤ n) (h1 : k ≤ 60) (h2 : n * (403 * W + 405) ≤ 10000000) (h3 : W ≤ 40000) : It P w K mg base (k + 1) (n * (W + 2) + 1) H (.ref a) := by
  by_cases c : ∃ x ∈ xs, Mx K H0 x
  · obtain ⟨ts, g1, g2, g3⟩ := its_shl h1 h3 h
    have l1 := lstTxt_len ts
    have l2 := piled_le g2
    have l3 : ts.length * (403 * W + 403 + 2) ≤ n * (403 * W + 405) := Nat.mul_le_mul (by omega) (Nat.le_refl _)
    refine .inr ⟨?_, listText ts, ?_, .lst s f e c g1 (by unfold sizeLine; omega)⟩
    · obtain ⟨x, mx, hx⟩ := c
      exact .lst (SqL.of e) mx (hx.same s)
    · have : 403 * (n * (W + 2) + 1) = n * (403 * W + 806) + 403 := by
        rw [Nat.mul_add, ← Nat.mul_assoc, Nat.mul_comm 403 n, Nat.mul_assoc, Nat.mul_add]
      have : n * (403 * W + 405) ≤ n * (403 * W + 806) := Nat.mul_le_mul (Nat.le_refl _) (by omega)
      omega
  · obtain ⟨ds, g1, g2, g3⟩ := its_dat h c
    refine .inl ⟨_, .lst (SqL.of e) (g1.up s), (Sma.list g2).mono (Nat.le_refl _) ?_⟩
    have : ds.length * (W + 1) ≤ n * (W + 2) := Nat.mul_le_mul (by omega) (by omega)
    omega
/-- the heap without one address -/
def dl (p : Addr) (H : Hp) : Hp := fun c => if c = p then none else H c
theorem dl_same (p : Addr) (H : Hp) : Same (dl p H) H := fun c o e => by
  unfold dl at e
  split at e
  · cases e
  · exact e
theorem dl_bu {p : Addr} {H H' : Hp} (b : Bu p H H') : Same (dl p H) (dl p H') := fun c o e => by
  unfold dl at e ⊢
  split at e
  · cases e
  · rename_i n
    rw [if_neg n]
    exact b c o n e
theorem dl_at {p c : Addr} {H : Hp} {o : HO} (e : H c = some o) (n : c ≠ p) : dl p H c = some o := by
  unfold dl
  rw [if_neg n]
  exact e
theorem dl_none {p c : Addr} {H : Hp} (e : H c = none) : dl p H c = none := by
  unfold dl
  split
  · rfl
  · exact e
theorem dl_up {p : Addr} {H H' : Hp} (s : Same H H') : Same (dl p H) (dl p H') := dl_bu (Bu.of s p)
end
end Mv
namespace Mv
open PySem PySem.Spec PyProof.Rows L2
/-- t == (), t any tuple -/
def rEqE (K : PySem.W.Frag) : R2 := fun x y H Q => ∃ a b xs, x = .ref a ∧ y = .ref b ∧ SqT K H a xs ∧ SqT K H b [] ∧ Q (.bl (decide (xs.length = 0))) H
theorem op_eqE {X : Cx} (hu : X.A.units < cLine) : OpR X (compareOp .Eq) (rEqE X.K) := by
  intro pins s σ H x y v u Q I rx ry h
  obtain ⟨a, b, xs, rfl, rfl, ha, hb, q⟩ := h
  obtain rfl := rx
  obtain rfl := ry
  obtain ⟨its, rv, ta, _⟩ := I.tuple ha
  obtain ⟨jts, rw', tb, _⟩ := I.tuple hb
  cases rw'
  refine SeqAt.eq_tupleAt (e := fun _ => true) ta tb hu (fun j h1 h2 => by simp at h2) ⟨.bl _, H, I, ?_, q⟩
  have l := rv.length
  show Value.bool _ = Value.bool _
  congr 1
  rw [show its.toArray.size = xs.length by rw [List.size_toArray, l]]
  by_cases c : xs.length = 0
  · rw [c]
    rfl
  · rw [decide_eq_false c]
    simp [c]
theorem op_eqE' {X : Cx} {K : PySem.W.Frag} {j : Nat} (hr : Room j X.A) (e : X.K = K := by (conv => lhs; whnf)) : OpR X (compareOp .Eq) (rEqE K) := by
  subst e
  exact op_eqE hr.units0
/-- a tuple that was not there -/
structure NwTp (G H : Hp) (t : Addr) (xs : List V) : Prop where
  e : H t = some (.tup xs)
  n : G t = none
theorem NwTp.up {G H H' : Hp} {t : Addr} {xs : List V} (h : NwTp G H t xs) (s : Same H H') : NwTp G H' t xs := ⟨s _ _ h.e, h.n⟩
theorem cat_new {K : PySem.W.Frag} {G H : Hp} {a b : Addr} {xs ys : List V} {Q : VK} (g : Same G H) (h1 : NwTp G H a xs) (h2 : NwTp G H b ys) (hz : xs.length + ys.length ≤ 1000) (q : ∀ t H', Same H H' → NwTp G H' t (xs ++ ys) → Q (.ref t) H') : rCatA K (.ref a) (.ref b) H Q := by
  refine ⟨a, b, _, _, rfl, rfl, SqT.of h1.e, SqT.of h2.e, by unfold sizeLine; omega, fun e => ?_, fun _ e => ?_, fun _ _ p hp => ?_⟩
  · subst e
    exact q b H (Same.refl _) h2
  · subst e
    rw [List.append_nil] at q
    exact q a H (Same.refl _) h1
  · exact q p _ (same_new hp) ⟨upd_same, g.free hp⟩
theorem cat_newL {K : PySem.W.Frag} {G H : Hp} {a b : Addr} {xs ys : List V} {Q : VK} (g : Same G H) (h1 : NwTp G H a xs) (ne : xs ≠ []) (h2 : SqT K H b ys) (hz : xs.length + ys.length ≤ 1000) (q : ∀ t H', Same H H' → NwTp G H' t (xs ++ ys) → Q (.ref t) H') : rCatA K (.ref a) (.ref b) H Q := by
  refine ⟨a, b, _, _, rfl, rfl, SqT.of h1.e, h2, by unfold sizeLine; omega, fun e => absurd e ne, fun _ e => ?_, fun _ _ p hp => ?_⟩
  · subst e
    rw [List.append_nil] at q
    exact q a H (Same.refl _) h1
  · exact q p _ (same_new hp) ⟨upd_same, g.free hp⟩
theorem cut_to {K : PySem.W.Frag} {H : Hp} {a : Addr} {xs : List V} {k : Nat} {Q : VK} (h : SqT K H a xs) (hk : k < xs.length) (q : ∀ t H', Same H H' → NwTp H H' t (xs.take k) → Q (.ref t) H') : rSlA K (.ref a) none (some (k : Int)) H Q := by
  refine ⟨a, _, rfl, h, fun hw => ?_, fun _ p hp => ?_⟩
  · rw [HT.sIx_nat] at hw
    omega
  · refine q p _ (same_new hp) ⟨?_, hp⟩
    rw [upd_same]
    unfold cutV
    rw [HT.sIx_nat, HT.sIx_none, List.drop_zero, Nat.sub_zero, Nat.min_eq_left (by omega)]
theorem cut_from {K : PySem.W.Frag} {H : Hp} {a : Addr} {xs : List V} {k : Nat} {z : Int} {Q : VK} (ez : z = ((k + 1 : Nat) : Int)) (h : SqT K H a xs) (hk : k < xs.length) (q : ∀ t H', Same H H' → NwTp H H' t (xs.drop (k + 1)) → Q (.ref t) H') : rSlA K (.ref a) (some z) none H Q := by
  subst ez
  refine ⟨a, _, rfl, h, fun hw => ?_, fun _ p hp => ?_⟩
  · rw [HT.sIx_nat] at hw
    omega
  · refine q p _ (same_new hp) ⟨?_, hp⟩
    rw [upd_same]
    unfold cutV
    rw [HT.sIx_nat, HT.sIx_none, Nat.min_eq_left (by omega), List.take_of_length_le (by rw [List.length_drop]; omega)]
end Mv
set_option Elab.async false
set_option maxRecDepth 100000
set_option maxHeartbeats 4000000
namespace T
open PySem L2 Mv
abbrev s_turnedrow : Stmt := top 64
theorem sc_turnedrow : FnScope ["_law_pot_here", "_law_rounds_here", "_law_glyphs_here", "_law_at", "_law_size_here", "_law_far", "_law_menu"] ["_law_pot_here", "_law_rounds_here", "_law_glyphs_here"] (defScope s_turnedrow) := ⟨rfl, rfl, rfl, by decide +kernel, rfl, by decide +kernel, by decide +kernel⟩
section
variable {P : Program} {w : World} {K : PySem.W.Frag} {mg : Str → Option Value} {base : Heap} {C AX CR : Addr}
/-- a row of values, some perhaps no signs -/
structure Row (P : Program) (w : World) (K : PySem.W.Frag) (mg : Str → Option Value) (base : Heap) (G : Hp) (a : Addr) (xs : List V) : Prop where
  sq : SqT K G a xs
  len : xs.length ≤ 48
  it : ∀ x ∈ xs, It P w K mg base 1 100 G x
  th : ∀ x ∈ xs, Thg K G x
  me : It P w K mg base 2 5000 G (.ref a)
theorem Row.same {G G' : Hp} {a : Addr} {xs : List V} (s : Same G G') (h : Row P w K mg base G a xs) : Row P w K mg base G' a xs := ⟨Same.tup s h.sq, h.len, fun x m => (h.it x m).same s, fun x m => (h.th x m).same s, h.me.same s⟩
theorem Row.mk' {G0 G : Hp} {a : Addr} {xs : List V} (s : Same G0 G) (e : NwTp G0 G a xs) (len : xs.length ≤ 48) (it : ∀ x ∈ xs, It P w K mg base 1 100 G0 x) (th : ∀ x ∈ xs, Thg K G0 x) : Row P w K mg base G a xs :=
  ⟨SqT.of e.e, len, fun x m => (it x m).same s, fun x m => (th x m).same s, (It.tup s e.n e.e it len (by decide) (by decide) (by decide)).mono (Nat.le_refl _) (by decide)⟩
theorem row_one {p t : Addr} {Hb H' : Hp} {x : V} (hp : Pot Hb p) (n : Hb t = none) (e : H' t = some (.tup [x])) (b : Bu p Hb H') (it : It P w K mg base 1 100 (dl p Hb) x) (th : Thg K (dl p Hb) x) : Row P w K mg base (dl p H') t [x] :=
  Row.mk' (dl_bu b) ⟨dl_at e (hp.ne n), dl_none n⟩ (by show 1 ≤ 48; decide) (fun y m => by rw [List.mem_singleton.mp m]; exact it) (fun y m => by rw [List.mem_singleton.mp m]; exact th)
theorem it_int {G : Hp} {i : Int} (h : i.natAbs < 10 ^ 30) : It P w K mg base 1 100 G (.int i) := by
  refine .inl ⟨_, .int i, ?_, rfl, by simp [PyData.depth], ?_, ?_⟩
  · simp only [PyData.showable, decide_eq_true_eq]
    exact lg_lt (Nat.lt_trans h (by decide +kernel)) (by decide)
  · have e := PySem.int_text_length_le10 (a := i) (k := 30) (by decide) h
    simp only [PyData.leavesShort, decide_eq_true_eq]
    show (Str.ofString (toString i)).length ≤ 401
    rw [PySem.ofString_length]
    omega
  · have l : i.natAbs.log2 < 100 := lg_lt (Nat.lt_trans h (by decide +kernel)) (by decide)
    simp only [PyData.weight]
    split <;> omega
theorem it_non {G : Hp} : It P w K mg base 1 100 G .non := .inl ⟨_, .non, ⟨by decide +kernel, by decide +kernel, by decide +kernel, by decide +kernel, by decide +kernel⟩⟩
theorem it_bl {G : Hp} (b : Bool) : It P w K mg base 1 100 G (.bl b) := .inl ⟨_, .bl b, by cases b <;> exact ⟨by decide +kernel, by decide +kernel, by decide +kernel, by decide +kernel, by decide +kernel⟩⟩
theorem it_emp {G : Hp} : It P w K mg base 1 100 G (.str "") := .inl ⟨_, .str _, ⟨by decide +kernel, by decide +kernel, by decide +kernel, by decide +kernel, by decide +kernel⟩⟩
theorem it_nil {G : Hp} : It P w K mg base 1 100 G (.str "0") := .inl ⟨_, .str _, ⟨by decide +kernel, by decide +kernel, by decide +kernel, by decide +kernel, by decide +kernel⟩⟩
theorem th_non {G : Hp} : Thg K G .non := ⟨_, false, false, .base .non, kit_ty (by decide +kernel), kit_ty (by decide +kernel), rfl⟩
theorem th_bl {G : Hp} (b : Bool) : Thg K G (.bl b) := ⟨_, true, true, .base (.bl b), kit_ty (by decide +kernel), kit_ty (by decide +kernel), rfl⟩
theorem th_str {G : Hp} (x : Str) : Thg K G (.str x) := ⟨_, false, false, .base (.str x), kit_ty (by decide +kernel), kit_ty (by decide +kernel), rfl⟩
theorem th_tup {G : Hp} {a : Addr} {xs : List V} (h : SqT K G a xs) : Thg K G (.ref a) := ⟨_, false, false, tyT h, kit_ty (by decide +kernel), kit_ty (by decide +kernel), rfl⟩
theorem th_lst {G : Hp} {a : Addr} {xs : List V} (h : SqL K G a xs) : Thg K G (.ref a) := ⟨_, false, false, tyL h, kit_ty (by decide +kernel), kit_ty (by decide +kernel), rfl⟩
theorem th_rat (GR : RtG K mg CR) {G : Hp} {a : Addr} {q : Rat} (h : RatAt CR G (.ref a) q) : Thg K G (.ref a) := by
  obtain ⟨b, dx, e, ea⟩ := h
  cases e
  exact ⟨_, false, false, GR.I.ty ea, GR.ki, GR.kb, rfl⟩
theorem dl_free {p t : Addr} {J J' : Hp} (b : Bu p J J') (n : J' t = none) : dl p J t = none := by
  unfold dl
  split
  · rfl
  · rename_i h
    cases e : J t with
    | none => rfl
    | some o => rw [b t o h e] at n; cases n
theorem it_sm {G : Hp} {v : V} {d : PyData} (h : Dp K G v d) (s : Sma 1 100 d) : It P w K mg base 1 100 G v := .inl ⟨d, h, s⟩
/-- a ratio of small parts -/
theorem it_rat (cRp : Op2 P w K mg base 1 CR "__repr__" (sp_rrepr CR)) {G : Hp} {a : Addr} {q : Rat} (h : RatAt CR G (.ref a) q) (h1 : q.num.natAbs.log2 < 1000) (h2 : q.den.log2 < 1000) (hz : (ratTxt q).length ≤ 403 * 100 + 403) : It P w K mg base 1 100 G (.ref a) := by
  obtain ⟨b, dx, e, ea⟩ := h
  cases e
  exact .inr ⟨.own ea, ratTxt q, hz, .own cRp ea fun H' Q s k => ⟨_, q, rfl, ⟨_, dx, rfl, s _ _ ea⟩, h1, h2, k⟩⟩
theorem nab {i : Int} (h : i.natAbs ≤ 1000) : i.natAbs < 10 ^ 30 := Nat.lt_of_le_of_lt h (by decide +kernel)
def sp_turnedrow (P : Program) (w : World) (K : PySem.W.Frag) (mg : Str → Option Value) (base : Heap) : Sp := fun vs H Q _ => ∃ (p a : Addr) (v : V) (rs : List (List Pm.Cut)) (xs : List V), vs = [.ref p, v, .ref a] ∧ Pot H p ∧ LRd K p H v rs ∧ Row P w K mg base (dl p H) a xs ∧
  ∀ b ys H', Row P w K mg base (dl p H') b ys → (xs.length = 0 → ys.length = 1) → (xs.length ≠ 0 → ys.length = xs.length) → Pot H' p → Bu p H H' → Q (.ref b) H'
theorem c_turnedrow {P : Program} {w : World} {K : PySem.W.Frag} {mg : Str → Option Value} {base : Heap} {p a : Addr} {v : V} {rs : List (List Pm.Cut)} {xs : List V} {H : Hp} {Q : VK} {E : XK} (h0 : Pot H p) (h1 : LRd K p H v rs) (h2 : Row P w K mg base (dl p H) a xs) (q : ∀ b ys H', Row P w K mg base (dl p H') b ys → (xs.length = 0 → ys.length = 1) → (xs.length ≠ 0 → ys.length = xs.length) → Pot H' p → Bu p H H' → Q (.ref b) H') : sp_turnedrow P w K mg base [.ref p, v, .ref a] H Q E := ⟨_, _, _, _, _, rfl, h0, h1, h2, q⟩
local macro_rules | `(tactic| tb_rel) => `(tactic| repeat (first
  | with_reducible assumption
  | with_reducible exact Dp.int _
  | with_reducible exact Dp.str _
  | with_reducible exact Dp.bl _
  | with_reducible exact Dp.non
  | (with_reducible apply SqT.of; with_reducible assumption)
  | (with_reducible apply SqL.of; with_reducible assumption)
  | (with_reducible apply up_dp; with_reducible assumption)
  | (with_reducible apply up_sqt; with_reducible assumption)
  | (with_reducible apply up_sql; with_reducible assumption)
  | (with_reducible apply up_get; with_reducible assumption)
  | (with_reducible apply up_pot; with_reducible assumption)
  | with_reducible exact Same.refl _
  | with_reducible exact Bu.refl _ _
  | (with_reducible apply up_same; with_reducible assumption)
  | (with_reducible apply up_bu; with_reducible assumption)
  | (with_reducible apply bu_bu; with_reducible assumption)
  | (with_reducible apply free_of; with_reducible assumption)
  | (with_reducible apply mi_fr; with_reducible assumption; (focus (tb_rel; done)))
  | (with_reducible apply mi_dp; with_reducible assumption)
  | (with_reducible apply mi_sqt; with_reducible assumption)
  | (with_reducible apply mi_sql; with_reducible assumption)
  | (with_reducible apply mi_gett; with_reducible assumption)
  | (with_reducible apply mi_getl; with_reducible assumption)
  | (with_reducible apply mi_pot; with_reducible assumption)
  | (with_reducible apply mi_refl; with_reducible assumption; (focus (with_unfolding_all exact rfl)))
  | (with_reducible apply up_mi; with_reducible assumption)
  | (with_reducible apply mi_mi; with_reducible assumption)
  | (with_reducible apply mi_bu; with_reducible assumption)
  | with_reducible exact num_int _
  | (with_reducible apply rat_of; with_reducible assumption)
  | (with_reducible apply num_rat; (focus (tb_rel; done)))
  | (with_reducible apply up_plan; with_reducible assumption)
  | (with_reducible apply bu_plan; with_reducible assumption; (focus (tb_rel; done)))
  | (with_reducible apply mi_plan; with_reducible assumption; (focus (lcg_src; done)))
  | (with_reducible apply up_lrd; with_reducible assumption)
  | (with_reducible apply bu_lrd; with_reducible assumption; (focus (tb_rel; done)))
  | (with_reducible apply up_rat; with_reducible assumption)
  | (with_reducible apply up_num; with_reducible assumption)
  | (with_reducible apply mi_rat; with_reducible assumption; (focus (lcg_src; done)))
  | (with_reducible apply mi_num; with_reducible assumption; (focus (lcg_src; done)))
  | (with_reducible apply bu_rat; with_reducible assumption; (focus (tb_rel; done)))
  | (with_reducible apply bu_num; with_reducible assumption; (focus (tb_rel; done)))
  | (with_reducible apply bu_gett; with_reducible assumption; (focus (tb_rel; done)))
  | (with_reducible apply bu_geti; with_reducible assumption; (focus (tb_rel; done)))
  | (with_reducible apply bu_get; with_reducible assumption; (focus (tlg_ne; done)))
  | (with_reducible apply bu_sqt; with_reducible assumption; (focus (tb_rel; done)))
  | (with_reducible apply bu_sql; with_reducible assumption; (focus (tlg_ne; done)))
  | (with_reducible apply bu_dp; with_reducible assumption; (focus (tb_rel; done)); (focus (lcg_src; done)))
  | fail "up"))
local macro_rules | `(tactic| tlg_ne) => `(tactic| first
  | with_reducible assumption
  | (with_reducible apply pot_ne; with_reducible assumption; (focus (tb_rel; done)))
  | fail "ne")
local macro_rules | `(tactic| lcg_src) => `(tactic| first
  | with_reducible assumption
  | with_unfolding_all exact rfl
  | with_unfolding_all decide
  | with_unfolding_all exact Nat.ne_of_beq_eq_false rfl
  | (apply_assumption; done)
  | omega
  | (simp; done)
  | (simp; omega)
  | fail "sd")
local macro_rules | `(tactic| lcg_sub) => `(tactic| first
  | (unfold sizeLine; omega)
  | (simp only [List.length_cons, List.length_nil, List.length_append, List.length_map, List.length_replicate, List.length_take, List.length_drop]; unfold sizeLine; omega)
  | (simp; unfold sizeLine; omega)
  | fail "sz")
local macro_rules | `(tactic| nest_cls) => `(tactic| first
  | (tb_rel; done)
  | (with_reducible apply lrd_dp; (focus (tb_rel; done)))
  | (with_reducible apply nmI1; (focus (tb_rel; done)))
  | (with_reducible apply nmT; (focus (tb_rel; done)))
  | (with_reducible apply nmI; (focus (tb_rel; done)))
  | (with_reducible apply d_tup; (focus (tb_rel; done)); (focus (lsm_bools; done)))
  | (with_reducible apply d_lst; (focus (tb_rel; done)); (focus (lsm_bools; done)))
  | fail "dp")
local macro_rules | `(tactic| lsm_bools) => `(tactic| repeat (first
  | with_reducible exact DpAll.nil
  | with_reducible assumption
  | (with_reducible apply DpAll.cons; (focus (nest_cls; done)))
  | fail "dpa"))
local macro_rules | `(tactic| none_booked) => `(tactic| first | with_unfolding_all exact rfl | (with_reducible apply atI_nat; with_reducible assumption) | fail "ix")
local macro_rules | `(tactic| walk_at "go") => `(tactic| repeat (first
  | (focus (with_reducible refine go_var (v := ?_) ?_ ?_; rotate_left; (focus (with_unfolding_all exact rfl))))
  | with_reducible refine go_seq ?_
  | with_reducible refine go_cN ?_
  | with_reducible refine go_c ?_
  | with_reducible refine go_op ?_
  | with_reducible refine go_nil ?_
  | with_reducible refine go_cons ?_
  | with_reducible refine go_cb ?_
  | with_reducible refine go_call0 ?_
  | with_reducible refine go_asg ?_
  | (focus (with_reducible refine go_gname (σ' := ?_) ?_ ?_; rotate_left; (focus (simp only [List.set_cons_succ, List.set_cons_zero]; exact rfl))))
  | with_reducible refine go_par ?_
  | (focus (with_reducible refine go_par2 (σ' := ?_) ?_ ?_; rotate_left; (focus (simp only [List.set_cons_succ, List.set_cons_zero]; exact rfl))))
  | with_reducible refine go_ifs ?_
  | with_reducible refine go_test ?_
  | with_reducible refine go_tb ?_
  | with_reducible refine go_asb ?_
  | with_reducible refine go_asi ?_
  | with_reducible refine go_ret ?_
  | with_reducible refine go_retn ?_
  | with_reducible refine go_drop ?_
  | with_reducible refine go_next ?_
  | with_reducible refine go_and ?_
  | with_reducible refine go_or ?_
  | with_reducible refine go_not ?_
  | with_reducible refine go_andv ?_
  | with_reducible refine go_orv ?_
  | with_reducible refine go_notv ?_
  | with_reducible refine go_ife ?_
  | with_reducible refine go_chain ?_
  | with_reducible refine go_if1 ?_
  | with_reducible refine go_if0 ?_
  | with_reducible refine go_ifn1 ?_
  | with_reducible refine go_ifn0 ?_
  | (with_reducible apply go_ift; (focus (first | with_reducible rfl | with_reducible assumption | omega)))
  | (with_reducible apply go_ifnt; (focus (first | with_reducible rfl | with_reducible assumption | omega)))
  | (with_reducible apply go_iff; (focus (first | with_reducible assumption | omega)))
  | (with_reducible apply go_ifnf; (focus (first | with_reducible assumption | omega)))
  | with_reducible refine go_un ?_
  | with_reducible refine go_tup ?_
  | with_reducible refine go_lst ?_
  | (with_reducible apply go_newt; (focus (lcg_sub; done)); intros)
  | (with_reducible apply go_newl; (focus (lcg_sub; done)); intros)
  | with_reducible refine go_meth ?_
  | with_reducible refine go_for ?_
  | with_reducible refine go_lc ?_
  | with_reducible refine go_irng1 ?_
  | with_reducible refine go_irng2 ?_
  | with_reducible refine go_ilist ?_
  | with_reducible refine go_itup ?_
  | with_reducible refine go_izip ?_
  | with_reducible refine go_ienum ?_
  | (with_reducible apply go_rg1; (focus (lcg_src; done)))
  | (with_reducible apply go_rg2; (focus (lcg_src; done)); (focus (lcg_src; done)))
  | (with_reducible apply go_lsr; (focus (tb_rel; done)))
  | (with_reducible apply go_tpr; (focus (tb_rel; done)))
  | (with_reducible apply go_zpr; (focus (tb_rel; done)); (focus (tb_rel; done)))
  | (with_reducible apply go_zprT; (focus (tb_rel; done)); (focus (tb_rel; done)))
  | (with_reducible apply go_enrL; (focus (tb_rel; done)))
  | (with_reducible apply go_enrT; (focus (tb_rel; done)))
  | with_reducible refine go_prop ?_
  | with_reducible refine go_knr0 ?_
  | (with_reducible apply go_knr; (focus (with_unfolding_all exact rfl; done)); (focus (simp only [kSw2, kRev3, kId, List.nil_append, List.cons_append]; exact rfl)))
  | with_reducible refine go_mkn ?_
  | (with_reducible apply go_mkr; (focus (tb_rel; done)); (focus (with_unfolding_all exact rfl; done)))
  | with_reducible refine go_fld ?_
  | (with_reducible apply go_flr; (focus (tb_rel; done)); (focus (with_reducible assumption; done)); (focus (with_reducible assumption; done)); (focus (with_unfolding_all exact rfl; done)))
  | (with_reducible apply go_prr; (focus (tb_rel; done)))
  | (with_reducible apply go_mer; (focus (tb_rel; done)); (focus (with_unfolding_all exact rfl; done)))
  | with_reducible refine go_sfld ?_
  | (with_reducible apply go_sfr; (focus (tb_rel; done)); (focus (with_reducible assumption; done)); (focus (with_reducible assumption; done)); (focus (with_unfolding_all exact Nat.le_of_ble_eq_true rfl; done)); (focus (with_unfolding_all exact rfl; done)); intros)
  | with_reducible refine go_revt ?_
  | with_reducible refine go_make0 ?_
  | (focus (with_reducible refine go_aug (x := ?_) ?_ ?_; rotate_left; (focus (with_unfolding_all exact rfl))))
  | (focus (with_reducible refine go_augk (σ' := ?_) ?_ ?_; rotate_left; (focus (simp only [List.set_cons_succ, List.set_cons_zero]; exact rfl))))
  | with_reducible refine go_min2 ?_
  | with_reducible refine go_int1 ?_
  | with_reducible refine go_max2 ?_
  | with_reducible refine go_intB ?_
  | with_reducible refine go_absN ?_
  | with_reducible refine go_isN ?_
  | with_reducible refine go_notN ?_
  | (with_reducible apply go_rvt; (focus (tb_rel; done)); (focus (simp only [List.reverse_cons, List.reverse_nil, List.nil_append, List.cons_append]; exact rfl)); intros)
  | (with_reducible apply go_reprNm; (focus (tb_rel; done)); (focus (with_reducible assumption; done)))
  | (with_reducible apply go_reprPr; (focus (nest_cls; done)); (focus (lcg_src; done)); (focus (lcg_src; done)))
  | with_reducible refine go_sl ?_
  | with_reducible refine go_part ?_
  | with_reducible refine go_nopart ?_
  | (with_reducible apply go_gtup; (focus (tb_rel; done)); (focus (with_unfolding_all exact rfl; done)))
  | (with_reducible apply go_gunl; (focus (tb_rel; done)); (focus (with_unfolding_all exact rfl; done)))
  | with_reducible refine go_gcons ?_
  | with_reducible refine go_gnil ?_
  | with_reducible refine go_addN ?_
  | with_reducible refine go_ltN ?_
  | with_reducible refine go_leN ?_
  | with_reducible refine go_gtN ?_
  | with_reducible refine go_geN ?_
  | (with_reducible apply go_subN; (focus (omega; done)))
  | with_reducible refine go_rI0 ?_
  | (with_reducible apply go_mulN; (focus (omega; done)))
  | (with_reducible apply go_modN; (focus (omega; done)))
  | (with_reducible apply go_divN; (focus (omega; done)))
  | (with_reducible apply go_powN; (focus (with_unfolding_all decide; done)))
  | with_reducible refine go_rU ?_
  | with_reducible refine go_eqN ?_
  | with_reducible refine go_neN ?_
  | with_reducible refine go_isB ?_
  | with_reducible refine go_notB ?_
  | with_reducible refine go_eqS ?_
  | with_reducible refine go_neS ?_
  | with_reducible refine go_eqB ?_
  | with_reducible refine go_eqI ?_
  | with_reducible refine go_neI ?_
  | (with_reducible apply go_ixt; (focus (tb_rel; done)); (focus (none_booked; done)))
  | (with_reducible apply go_ixl; (focus (tb_rel; done)); (focus (none_booked; done)))
  | (with_reducible apply go_lent; (focus (tb_rel; done)))
  | (with_reducible apply go_lenNm; (focus (tb_rel; done)))
  | (with_reducible apply go_isiNm; (focus (tb_rel; done)))
  | (with_reducible apply go_lenl; (focus (tb_rel; done)))
  | (with_reducible apply go_catA; (focus (tb_rel; done)); (focus (tb_rel; done)); (focus (lcg_sub; done)); intros)
  | (with_reducible apply go_slaT; (focus (tb_rel; done)); intros)
  | (with_reducible apply go_slaD; (focus (tb_rel; done)); intros)
  | (with_reducible apply go_rep; (focus (tb_rel; done)); (focus (lcg_src; done)); intros)
  | (with_reducible apply go_tupofl; (focus (tb_rel; done)); intros)
  | (with_reducible apply go_sllT; (focus (tb_rel; done)); intros)
  | (with_reducible apply go_sllD; (focus (tb_rel; done)); intros)
  | (with_reducible apply go_cat; (focus (tb_rel; done)); (focus (tb_rel; done)); (focus (lcg_sub; done)); intros)
  | (with_reducible apply go_eqP; with_reducible assumption; (focus (tb_rel; done)); (focus (tb_rel; done)))
  | (with_reducible apply go_neP; with_reducible assumption; (focus (tb_rel; done)); (focus (tb_rel; done)))
  | (with_reducible apply go_mkrat; with_reducible assumption; with_reducible assumption; intros)
  | (with_reducible apply go_mkrat1; intros)
  | (with_reducible apply go_merR; (focus (tb_rel; done)); (focus decide); (focus decide))
  | (with_reducible apply go_prR; (focus (tb_rel; done)))
  | (with_reducible apply go_mep; (focus (tb_rel; done)); (focus decide); (focus decide); (focus decide))
  | (with_reducible apply go_lenR; (focus (nest_cls; done)))
  | (with_reducible apply go_ixR; (focus (nest_cls; done)); (focus (lcg_src; done)); intros)
  | (with_reducible apply c_drawN; (focus (tb_rel; done)); (focus (lcg_src; done)); (focus (lcg_src; done)); intros)
  | (with_reducible apply c_pick; (focus (tb_rel; done)); (focus (tlg_ne; done)); (focus (tb_rel; done)); (focus (lcg_src; done)); (focus (lcg_src; done)); intros)
  | (with_reducible apply c_rinit; (focus (tb_rel; done)); (focus (lcg_src; done)); (focus (lcg_src; done)); intros)
  | (with_reducible apply c_rrepr; (focus (tb_rel; done)); (focus (lcg_src; done)); (focus (lcg_src; done)); intros)
  | (with_reducible apply c_size; (focus (nest_cls; done)); (focus (lcg_src; done)); intros)
  | (with_reducible apply c_turnedrow; (focus (tb_rel; done)); (focus (tb_rel; done)); (focus (lcg_src; done)); intros)
  | (with_reducible apply ne_same; (focus (nest_cls; done)); (focus (nest_cls; done)); (focus (first | with_unfolding_all exact rfl | exact shaped_nm _)); (focus (first | with_unfolding_all exact rfl | exact nd_nm _)))
  | (with_reducible apply eq_same; (focus (nest_cls; done)); (focus (nest_cls; done)); (focus (first | with_unfolding_all exact rfl | exact shaped_nm _)); (focus (first | with_unfolding_all exact rfl | exact nd_nm _)))
  | fail "go"))
theorem ok_turnedrow {f : Addr} {fd : FuncData} (F : Df K "_law_turned" "_law_turned" s_turnedrow [] f fd) (B : Blt mg) (GR : RtG K mg CR) (cRp : Op2 P w K mg base 1 CR "__repr__" (sp_rrepr CR)) (cDr : Ca P w K mg base 1 "_law_draw" sp_draw []) (cPk : Ca P w K mg base 2 "_law_pick" (sp_pick K) []) (cSz : Ca P w K mg base 1 "_law_size" (sp_size K) []) (cRt1 : Ma P w K mg base 2 "Ratio" CR (sp_rinit CR) [.int 1]) : FnOk P w K mg base CX0 4 f fd ["_law_pot_here", "_law_rounds_here", "_law_glyphs_here"] (sp_turnedrow P w K mg base) := by
  refine dfOk F sc_turnedrow (fun vs H Q E h => ?_) (fun cdv A outer s H vs Q E hr h => ?_)
  · obtain ⟨p, a, v, rs, xs, rfl, _⟩ := h
    rfl
  · obtain ⟨p, a, v, rs, xs, rfl, hp, hl, hx, q⟩ := h
    obtain ⟨ra, ys0, rfl, _, _⟩ := hl.dp.lstE
    have hok := hl.ok
    have l1 := hok.1
    refine ⟨_, (pss_cons (ps_if (pt_cmpR (op_eqE' hr) (pv 2) (pe_tup pa_nil) (nomark _))
  (pss_one (ps_ret (pe_ca cPk hr (by decide) (by rfl) (pa_cons (pv 0) (pa_cons (pe_lst (pa_cons (pe_tup (pa_cons pe_non pa_nil)) (pa_cons (pe_tup (pa_cons pe_int pa_nil)) (pa_cons (pe_tup (pa_cons pe_str pa_nil)) (pa_cons (pe_tup (pa_cons pe_bl pa_nil)) (pa_cons (pe_tup (pa_cons pe_int pa_nil)) pa_nil)))))) pa_nil)))))
  pss_nil)
  (pss_cons (ps_set (i := 3) sc_turnedrow.nd rfl (Or.inl rfl) (pe_ca cPk hr (by decide) (by rfl) (pa_cons (pv 0) (pa_cons (pe_lst (pa_cons pe_int (pa_cons (pe_op op_sub (pe_callB call_len_seq' (by rfl) B.len bt_len (pa_cons (pv 2) pa_nil)) pe_int) (pa_cons (pe_ca cDr hr (by decide) (by rfl) (pa_cons (pv 0) (pa_cons (pe_callB call_len_seq' (by rfl) B.len bt_len (pa_cons (pv 2) pa_nil)) pa_nil))) pa_nil)))) pa_nil))))
  (pss_cons (ps_set (i := 4) sc_turnedrow.nd rfl (Or.inl rfl) (pe_ca cSz hr (by decide) (by rfl) (pa_cons (pe_ix ix_list' (pv 1) (pe_op op_mod (pv 3) (pe_callB call_len_seq' (by rfl) B.len bt_len (pa_cons (pv 1) pa_nil))) (fun _ _ => rfl)) pa_nil)))
  (pss_cons (ps_set (i := 5) sc_turnedrow.nd rfl (Or.inl rfl) (pe_ca cSz hr (by decide) (by rfl) (pa_cons (pe_ix ix_list' (pv 1) (pe_op op_mod (pe_op op_add (pv 3) pe_int) (pe_callB call_len_seq' (by rfl) B.len bt_len (pa_cons (pv 1) pa_nil))) (fun _ _ => rfl)) pa_nil)))
  (pss_cons (ps_set (i := 6) sc_turnedrow.nd rfl (Or.inl rfl) (pe_lst (pa_cons (pe_op op_sub (pv 4) pe_int) (pa_cons (pv 4) (pa_cons (pe_op op_sub (pv 5) pe_int) (pa_cons (pv 5) (pa_cons (pe_un un_neg pe_int) (pa_cons pe_bl (pa_cons pe_bl (pa_cons pe_non (pa_cons pe_str (pa_cons (pe_tup (pa_cons pe_int pa_nil)) (pa_cons (pe_lst (pa_cons pe_int pa_nil)) (pa_cons (pe_ma cRt1 hr (by decide) (by rfl) (pa_cons pe_int pa_nil)) (pa_cons (pe_op op_pow pe_int pe_int) (pa_cons pe_int (pa_cons pe_int pa_nil)))))))))))))))))
  (pss_one (ps_ret (pe_op op_catA' (pe_op op_catA' (pe_slice sl_tupA' (pv 2) po_none (po_some (pv 3))) (pe_tup (pa_cons (pe_ca cPk hr (by decide) (by rfl) (pa_cons (pv 0) (pa_cons (pv 6) pa_nil))) pa_nil))) (pe_slice sl_tupA' (pv 2) (po_some (pe_op op_add (pv 3) pe_int)) po_none))))))))), ?_⟩
    refine go_start (σ := [some _, some _, some _, none, none, none, none]) rfl ?_
    walk_at "go"
    rename_i T0 H1 n1 s1 e1
    have sq1 : SqT K H1 a xs := Same.tup ((dl_same p H).trans s1) hx.sq
    refine ⟨a, T0, xs, rfl, rfl, sq1, SqT.of e1, ?_⟩
    by_cases c : xs.length = 0
    · rw [decide_eq_true c]
      walk_at "go"
      rename_i t1 J1 m1 z1 f1 t2 J2 m2 z2 f2 t3 J3 m3 z3 f3 t4 J4 m4 z4 f4 t5 J5 m5 z5 f5 L6 J6 m6 z6 f6 sv J7 hm p7 b7
      have fin : ∀ (t : Addr) (x : V) (Hb : Hp), Pot Hb p → Hb t = none → J7 t = some (.tup [x]) → Bu p Hb J7 → It P w K mg base 1 100 (dl p Hb) x → Thg K (dl p Hb) x → Q (.ref t) J7 := by
        have b07 : Bu p H J7 := by tb_rel
        exact fun t x Hb g1 g2 g3 g4 g5 g6 => q t [x] J7 (row_one g1 g2 g3 g4 g5 g6) (fun _ => rfl) (fun z => absurd c z) p7 b07
      simp only [List.mem_cons, List.not_mem_nil, or_false] at hm
      rcases hm with rfl | rfl | rfl | rfl | rfl
      · exact fin t1 _ H1 (by tb_rel) m1 (by tb_rel) (by tb_rel) it_non th_non
      · exact fin t2 _ J1 (by tb_rel) m2 (by tb_rel) (by tb_rel) (it_int (by decide)) trivial
      · exact fin t3 _ J2 (by tb_rel) m3 (by tb_rel) (by tb_rel) it_emp (th_str _)
      · exact fin t4 _ J3 (by tb_rel) m4 (by tb_rel) (by tb_rel) (it_bl true) (th_bl true)
      · exact fin t5 _ J4 (by tb_rel) m5 (by tb_rel) (by tb_rel) (it_int (by decide)) trivial
    · rw [decide_eq_false c]
      have l0 : 0 < xs.length := by omega
      have lx := hx.len
      walk_at "go"
      rename_i d J1 hd p1 b1 L2 J2 n2 s2 e2 sv J3 hm p3 b3
      obtain ⟨k, rfl, hk⟩ : ∃ k : Nat, sv = .int (k : Int) ∧ k < xs.length := by
        simp only [List.mem_cons, List.not_mem_nil, or_false] at hm
        rcases hm with rfl | rfl | rfl
        · exact ⟨0, rfl, l0⟩
        · exact ⟨xs.length - 1, rfl, by omega⟩
        · exact ⟨d, rfl, hd⟩
      have b03 : Bu p H J3 := by tb_rel
      have hl3 := hl.bu b03 hp
      have hx3 := hx.same (dl_bu b03)
      obtain ⟨_, ys, ey, hys, hya⟩ := hl3.dp.lstE
      cases ey
      have yl : ys.length = rs.length := by rw [hya.len, List.length_map]
      have y0 : 0 < ys.length := by omega
      obtain ⟨cu, hcu, hdc⟩ := hya.got (i := k % rs.length) (by rw [List.getElem?_map, Pm.rnd_get l1 k]; rfl)
      obtain ⟨cv, hcv, hdv⟩ := hya.got (i := (k + 1) % rs.length) (by rw [List.getElem?_map, Pm.rnd_get l1 (k + 1)]; rfl)
      have hdc : Dp K J3 cu (lRnd (Pm.rnd rs k)) := hdc
      have hdv : Dp K J3 cv (lRnd (Pm.rnd rs (k + 1))) := hdv
      have ok1 := hok.rnd k
      have ok2 := hok.rnd (k + 1)
      have z1 := hok.S32 k
      have z2 := hok.S32 (k + 1)
      clear hm b1 s2 e2 n2 p1 hd hl3 sq1 s1 e1 n1
      walk_at "go"
      rw [yl]
      refine go_ixl hys (atI_nat hcu) ?_
      walk_at "go"
      rw [yl]
      refine go_ixl hys (atI_nat hcv) ?_
      walk_at "go"
      rename_i T4 J4 n4 s4 e4 L5 J5 n5 s5 e5 X6 J6 n6 s6 r6 L7 J7 n7 s7 e7
      have p4 : Pot J4 p := by tb_rel
      have p5 : Pot J5 p := by tb_rel
      have p7 : Pot J7 p := by tb_rel
      have b07 : Bu p H J7 := b03.trans (Bu.of (s4.trans (s5.trans (s6.trans s7))) p)
      have hx7 := hx.same (dl_bu b07)
      have sq7 : SqT K J7 a xs := Same.tup (dl_same p J7) hx7.sq
      have eT : dl p J7 T4 = some (.tup [.int ((0 : Nat) : Int)]) := dl_at (s7 _ _ (s6 _ _ (s5 _ _ e4))) (p3.ne n4)
      have eL : dl p J7 L5 = some (.lst [.int ((0 : Nat) : Int)]) := dl_at (s7 _ _ (s6 _ _ e5)) (p4.ne n5)
      have rX : RatAt CR (dl p J7) (.ref X6) (((0 : Nat) : Int) : Rat) := by
        obtain ⟨b, dx, e, ea⟩ := r6
        cases e
        exact ⟨_, dx, rfl, dl_at (s7 _ _ ea) (p5.ne n6)⟩
      have w1 : Pm.size (Pm.rnd rs k) ≤ 32 := z1
      have w2 : Pm.size (Pm.rnd rs (k + 1)) ≤ 32 := z2
      refine cut_to sq7 hk fun tA J8 s8 hA => ?_
      have p8 : Pot J8 p := p7.same s8
      have e7' := s8 _ _ e7
      walk_at "go"
      rename_i sv J9 hm p9 b9 tB J10 nB s10 eB
      have g9 : Bu p J7 J9 := (Bu.of s8 p).trans b9
      have good : It P w K mg base 1 100 (dl p J7) sv ∧ Thg K (dl p J7) sv := by
        simp only [List.mem_cons, List.not_mem_nil, or_false] at hm
        rcases hm with rfl | rfl | rfl | rfl | rfl | rfl | rfl | rfl | rfl | rfl | rfl | rfl | rfl | rfl | rfl
        · exact ⟨it_int (nab (by omega)), trivial⟩
        · exact ⟨it_int (nab (by omega)), trivial⟩
        · exact ⟨it_int (nab (by omega)), trivial⟩
        · exact ⟨it_int (nab (by omega)), trivial⟩
        · exact ⟨it_int (nab (by decide)), trivial⟩
        · exact ⟨it_bl _, th_bl _⟩
        · exact ⟨it_bl _, th_bl _⟩
        · exact ⟨it_non, th_non⟩
        · exact ⟨it_nil, th_str _⟩
        · exact ⟨it_sm (.tup (SqT.of eT) (.cons (.int _) .nil)) ⟨by decide +kernel, by decide +kernel, by decide +kernel, by decide +kernel, by decide +kernel⟩, th_tup (SqT.of eT)⟩
        · exact ⟨it_sm (.lst (SqL.of eL) (.cons (.int _) .nil)) ⟨by decide +kernel, by decide +kernel, by decide +kernel, by decide +kernel, by decide +kernel⟩, th_lst (SqL.of eL)⟩
        · exact ⟨it_rat cRp rX (by decide +kernel) (by decide +kernel) (by decide +kernel), th_rat GR rX⟩
        · exact ⟨it_int (by decide +kernel), trivial⟩
        · exact ⟨it_int (nab (by decide)), trivial⟩
        · exact ⟨it_int (nab (by decide)), trivial⟩
      clear hm e7 e7' hcu hcv hdc hdv hys hya
      have sG10 : Same (dl p J7) J10 := (dl_bu g9).trans ((dl_same p J9).trans s10)
      have A10 : NwTp (dl p J7) J10 tA (xs.take k) := ⟨s10 _ _ (b9 _ _ (p7.ne hA.n) hA.e), dl_none hA.n⟩
      have B10 : NwTp (dl p J7) J10 tB [sv] := ⟨eB, dl_free g9 nB⟩
      have lk : (xs.take k).length = k := by rw [List.length_take]; omega
      have p10 : Pot J10 p := p9.same s10
      refine cat_new sG10 A10 B10 (by rw [lk]; simp; omega) fun t1 J11 s11 N11 => ?_
      have sq11 : SqT K J11 a xs := Same.tup (sG10.trans s11) hx7.sq
      walk_at "go"
      rename_i tC J12 s12 hC
      refine cat_newL ((sG10.trans s11).trans s12) (N11.up s12) (by simp) hC (by rw [List.length_append, lk, List.length_drop]; simp; omega) fun t2 J13 s13 N13 => ?_
      have p13 : Pot J13 p := ((p10.same s11).same s12).same s13
      have b13 : Bu p J7 J13 := g9.trans (Bu.of (s10.trans (s11.trans (s12.trans s13))) p)
      have ne : t2 ≠ p := fun z => by
        obtain ⟨x, y, ep, _⟩ := p13.ex
        have := N13.e
        rw [z, ep] at this
        cases this
      have len : (xs.take k ++ [sv] ++ xs.drop (k + 1)).length = xs.length := by
        rw [List.length_append, List.length_append, lk, List.length_drop, List.length_singleton]
        omega
      refine q t2 _ J13 (Row.mk' (dl_bu b13) ⟨dl_at N13.e ne, N13.n⟩ (by rw [len]; exact lx) (fun x m => ?_) fun x m => ?_) (fun z => absurd z c) (fun _ => len) p13 (b07.trans b13)
      · rcases List.mem_append.mp m with m | m
        · rcases List.mem_append.mp m with m | m
          · exact hx7.it x (List.mem_of_mem_take m)
          · rw [List.mem_singleton.mp m]
            exact good.1
        · exact hx7.it x (List.mem_of_mem_drop m)
      · rcases List.mem_append.mp m with m | m
        · rcases List.mem_append.mp m with m | m
          · exact hx7.th x (List.mem_of_mem_take m)
          · rw [List.mem_singleton.mp m]
            exact good.2
        · exact hx7.th x (List.mem_of_mem_drop m)
end
end T
set_option Elab.async false
set_option maxRecDepth 100000
set_option maxHeartbeats 4000000
namespace T
open PySem L2 Mv
section
variable {P : Program} {w : World} {K : PySem.W.Frag} {mg : Str → Option Value} {base : Heap} {C AX : Addr}
/-- beginnings of one row, endings of another -/
theorem NmOk.glue {rs : List (List Pm.Cut)} {ns ms : List Nat} (h1 : NmOk rs ns) (h2 : NmOk rs ms) : NmOk rs (ns ++ ms.drop ns.length) := fun k hk => by
  rcases Nat.lt_or_ge k ns.length with z | z
  · rw [List.getD_eq_getElem?_getD, List.getElem?_append_left z, ← List.getD_eq_getElem?_getD]
    exact h1 k z
  · rw [List.length_append, List.length_drop] at hk
    have := h2 k (by omega)
    rw [List.getD_eq_getElem?_getD, List.getElem?_append_right z, List.getElem?_drop, show ns.length + (k - ns.length) = k by omega, ← List.getD_eq_getElem?_getD]
    exact this
theorem NmOk.set {rs : List (List Pm.Cut)} {ns : List Nat} {s g : Nat} (h : NmOk rs ns) (hs : s < ns.length) (hg : g < Pm.S rs s) : NmOk rs (ns.take s ++ g :: ns.drop (s + 1)) := fun k hk => by
  have e : ns.take s ++ g :: ns.drop (s + 1) = ns.set s g := (List.set_eq_take_append_cons_drop ..).symm ▸ (by rw [if_pos hs])
  rw [e, List.length_set] at hk
  rw [e, List.getD_eq_getElem?_getD, List.getElem?_set]
  split
  · rename_i z
    subst z
    exact hg
  · rw [← List.getD_eq_getElem?_getD]
    exact h k hk
theorem vNm_app (a b : List Nat) : vNm a ++ vNm b = vNm (a ++ b) := by simp [vNm]
/-- t + u of names -/
theorem cat_nm {H : Hp} {a b : Addr} {ns ms : List Nat} {Q : VK} (h1 : SqT K H a (vNm ns)) (h2 : SqT K H b (vNm ms)) (hz : ns.length + ms.length ≤ 1000) (q : ∀ t H', Same H H' → SqT K H' t (vNm (ns ++ ms)) → Q (.ref t) H') : rCatA K (.ref a) (.ref b) H Q := by
  refine ⟨a, b, _, _, rfl, rfl, h1, h2, by rw [vNm_len, vNm_len]; unfold sizeLine; omega, fun e => ?_, fun _ e => ?_, fun _ _ p hp => ?_⟩
  · have : ns = [] := by
      have := congrArg List.length e
      rw [vNm_len] at this
      exact List.length_eq_zero_iff.mp this
    subst this
    exact q b H (Same.refl _) h2
  · have : ms = [] := by
      have := congrArg List.length e
      rw [vNm_len] at this
      exact List.length_eq_zero_iff.mp this
    subst this
    rw [List.append_nil] at q
    exact q a H (Same.refl _) h1
  · exact q p _ (same_new hp) (SqT.of (by rw [upd_same, vNm_app]))
theorem sl_to' {H : Hp} {a : Addr} {ns : List Nat} {k : Nat} {z : Int} {Q : VK} (hz : z = k) (h : SqT K H a (vNm ns)) (q : ∀ t H', Same H H' → SqT K H' t (vNm (ns.take k)) → Q (.ref t) H') : rSlA K (.ref a) none (some z) H Q := by
  subst hz
  exact sl_to h q
theorem sl_from' {H : Hp} {a : Addr} {ns : List Nat} {k : Nat} {z : Int} {Q : VK} (hz : z = k) (h : SqT K H a (vNm ns)) (q : ∀ t H', Same H H' → SqT K H' t (vNm (ns.drop k)) → Q (.ref t) H') : rSlA K (.ref a) (some z) none H Q := by
  subst hz
  exact sl_from h q
theorem tnp {σ : L2.St} {H : Hp} {P : Option Int → Hp → Prop} (h : P none H) : tNoPart σ H P := h
theorem Bu.nm {p : Addr} {H H' : Hp} {v : V} {ns : List Nat} (b : Bu p H H') (hp : Pot H p) (h : Dp K H v (dNm ns)) : Dp K H' v (dNm ns) := by
  obtain ⟨ys, e⟩ := hp.lst
  exact h.bu (NL.nm ns) b e
end
end T
set_option Elab.async false
set_option maxRecDepth 100000
set_option maxHeartbeats 4000000
namespace T
open PySem L2 Mv
abbrev s_prepr : Stmt := inClass (top 44) 18
theorem sc_prepr : FnScope ["self", "cuts"] ["self"] (defScope s_prepr) := ⟨rfl, rfl, rfl, by decide +kernel, rfl, by decide +kernel, by decide +kernel⟩
section
variable {P : Program} {w : World} {K : PySem.W.Frag} {mg : Str → Option Value} {base : Heap} {C AX : Addr}
/-- what repr tells of a plan -/
def planTxt (rs : List (List Pm.Cut)) : Str := Str.empty ++ "Plan(" ++ Txt.join ", " (rs.map fun r => (pRnd r).shown) ++ ")"
theorem sum_shown : ∀ (rs : List (List Pm.Cut)), (∀ r ∈ rs, (pRnd r).shown.length ≤ 30000) → ((rs.map fun r => (pRnd r).shown).map (·.length)).sum ≤ rs.length * 30000
  | [], _ => Nat.le_refl _
  | r :: rs, h => by
    have h1 := h r (List.mem_cons_self ..)
    have h2 := sum_shown rs fun x hx => h x (List.mem_cons_of_mem _ hx)
    simp only [List.map_cons, List.sum_cons, List.length_cons, Nat.add_mul, Nat.one_mul]
    omega
def sp_prepr (K : PySem.W.Frag) (C : Addr) : Sp := fun vs H Q _ => ∃ (v : V) (rs : List (List Pm.Cut)), vs = [v] ∧ PlanAt K C H v rs ∧ ∀ H', Same H H' → Q (.str (planTxt rs)) H'
theorem c_prepr {K : PySem.W.Frag} {C : Addr} {v : V} {rs : List (List Pm.Cut)} {H : Hp} {Q : VK} {E : XK} (h0 : PlanAt K C H v rs) (q : ∀ H', Same H H' → Q (.str (planTxt rs)) H') : sp_prepr K C [v] H Q E := ⟨_, _, rfl, h0, q⟩
local macro_rules | `(tactic| tb_rel) => `(tactic| repeat (first
  | with_reducible assumption
  | with_reducible exact Dp.int _
  | with_reducible exact Dp.str _
  | with_reducible exact Dp.bl _
  | with_reducible exact Dp.non
  | (with_reducible apply SqT.of; with_reducible assumption)
  | (with_reducible apply SqL.of; with_reducible assumption)
  | (with_reducible apply up_dp; with_reducible assumption)
  | (with_reducible apply up_sqt; with_reducible assumption)
  | (with_reducible apply up_sql; with_reducible assumption)
  | (with_reducible apply up_get; with_reducible assumption)
  | (with_reducible apply up_pot; with_reducible assumption)
  | with_reducible exact Same.refl _
  | with_reducible exact Bu.refl _ _
  | (with_reducible apply up_same; with_reducible assumption)
  | (with_reducible apply up_bu; with_reducible assumption)
  | (with_reducible apply bu_bu; with_reducible assumption)
  | (with_reducible apply free_of; with_reducible assumption)
  | (with_reducible apply mi_fr; with_reducible assumption; (focus (tb_rel; done)))
  | (with_reducible apply mi_dp; with_reducible assumption)
  | (with_reducible apply mi_sqt; with_reducible assumption)
  | (with_reducible apply mi_sql; with_reducible assumption)
  | (with_reducible apply mi_gett; with_reducible assumption)
  | (with_reducible apply mi_getl; with_reducible assumption)
  | (with_reducible apply mi_pot; with_reducible assumption)
  | (with_reducible apply mi_refl; with_reducible assumption; (focus (with_unfolding_all exact rfl)))
  | (with_reducible apply up_mi; with_reducible assumption)
  | (with_reducible apply mi_mi; with_reducible assumption)
  | (with_reducible apply mi_bu; with_reducible assumption)
  | (with_reducible apply up_plan; with_reducible assumption)
  | (with_reducible apply bu_plan; with_reducible assumption; (focus (tb_rel; done)))
  | (with_reducible apply mi_plan; with_reducible assumption; (focus (lcg_src; done)))
  | (with_reducible apply bu_gett; with_reducible assumption; (focus (tb_rel; done)))
  | (with_reducible apply bu_geti; with_reducible assumption; (focus (tb_rel; done)))
  | (with_reducible apply bu_get; with_reducible assumption; (focus (tlg_ne; done)))
  | (with_reducible apply bu_sqt; with_reducible assumption; (focus (tb_rel; done)))
  | (with_reducible apply bu_sql; with_reducible assumption; (focus (tlg_ne; done)))
  | (with_reducible apply bu_dp; with_reducible assumption; (focus (tb_rel; done)); (focus (lcg_src; done)))
  | fail "up"))
local macro_rules | `(tactic| tlg_ne) => `(tactic| first
  | with_reducible assumption
  | (with_reducible apply pot_ne; with_reducible assumption; (focus (tb_rel; done)))
  | fail "ne")
local macro_rules | `(tactic| lcg_src) => `(tactic| first
  | with_reducible assumption
  | with_unfolding_all exact rfl
  | with_unfolding_all decide
  | with_unfolding_all exact Nat.ne_of_beq_eq_false rfl
  | (apply_assumption; done)
  | omega
  | (simp; done)
  | (simp; omega)
  | fail "sd")
local macro_rules | `(tactic| lcg_sub) => `(tactic| first
  | (unfold sizeLine; omega)
  | (simp only [List.length_cons, List.length_nil, List.length_append, List.length_map, List.length_replicate, List.length_take, List.length_drop]; unfold sizeLine; omega)
  | (simp; unfold sizeLine; omega)
  | fail "sz")
local macro_rules | `(tactic| nest_cls) => `(tactic| first
  | (tb_rel; done)
  | (with_reducible apply nmI; (focus (tb_rel; done)))
  | (with_reducible apply d_tup; (focus (tb_rel; done)); (focus (lsm_bools; done)))
  | (with_reducible apply d_lst; (focus (tb_rel; done)); (focus (lsm_bools; done)))
  | fail "dp")
local macro_rules | `(tactic| lsm_bools) => `(tactic| repeat (first
  | with_reducible exact DpAll.nil
  | with_reducible assumption
  | (with_reducible apply DpAll.cons; (focus (nest_cls; done)))
  | fail "dpa"))
local macro_rules | `(tactic| none_booked) => `(tactic| first | with_unfolding_all exact rfl | (with_reducible apply atI_nat; with_reducible assumption) | fail "ix")
local macro_rules | `(tactic| walk_at "go") => `(tactic| repeat (first
  | (focus (with_reducible refine go_var (v := ?_) ?_ ?_; rotate_left; (focus (with_unfolding_all exact rfl))))
  | with_reducible refine go_seq ?_
  | with_reducible refine go_cN ?_
  | with_reducible refine go_c ?_
  | with_reducible refine go_op ?_
  | with_reducible refine go_nil ?_
  | with_reducible refine go_cons ?_
  | with_reducible refine go_cb ?_
  | with_reducible refine go_call0 ?_
  | with_reducible refine go_asg ?_
  | (focus (with_reducible refine go_gname (σ' := ?_) ?_ ?_; rotate_left; (focus (simp only [List.set_cons_succ, List.set_cons_zero]; exact rfl))))
  | with_reducible refine go_par ?_
  | (focus (with_reducible refine go_par2 (σ' := ?_) ?_ ?_; rotate_left; (focus (simp only [List.set_cons_succ, List.set_cons_zero]; exact rfl))))
  | with_reducible refine go_ifs ?_
  | with_reducible refine go_test ?_
  | with_reducible refine go_tb ?_
  | with_reducible refine go_asb ?_
  | with_reducible refine go_asi ?_
  | with_reducible refine go_ret ?_
  | with_reducible refine go_retn ?_
  | with_reducible refine go_drop ?_
  | with_reducible refine go_next ?_
  | with_reducible refine go_and ?_
  | with_reducible refine go_or ?_
  | with_reducible refine go_not ?_
  | with_reducible refine go_andv ?_
  | with_reducible refine go_orv ?_
  | with_reducible refine go_notv ?_
  | with_reducible refine go_ife ?_
  | with_reducible refine go_chain ?_
  | with_reducible refine go_if1 ?_
  | with_reducible refine go_if0 ?_
  | with_reducible refine go_ifn1 ?_
  | with_reducible refine go_ifn0 ?_
  | (with_reducible apply go_ift; (focus (first | with_reducible rfl | with_reducible assumption | omega)))
  | (with_reducible apply go_ifnt; (focus (first | with_reducible rfl | with_reducible assumption | omega)))
  | (with_reducible apply go_iff; (focus (first | with_reducible assumption | omega)))
  | (with_reducible apply go_ifnf; (focus (first | with_reducible assumption | omega)))
  | with_reducible refine go_un ?_
  | with_reducible refine go_tup ?_
  | with_reducible refine go_lst ?_
  | (with_reducible apply go_newt; (focus (lcg_sub; done)); intros)
  | (with_reducible apply go_newl; (focus (lcg_sub; done)); intros)
  | with_reducible refine go_meth ?_
  | with_reducible refine go_for ?_
  | with_reducible refine go_lc ?_
  | with_reducible refine go_irng1 ?_
  | with_reducible refine go_irng2 ?_
  | with_reducible refine go_ilist ?_
  | with_reducible refine go_itup ?_
  | with_reducible refine go_izip ?_
  | with_reducible refine go_ienum ?_
  | (with_reducible apply go_rg1; (focus (lcg_src; done)))
  | (with_reducible apply go_rg2; (focus (lcg_src; done)); (focus (lcg_src; done)))
  | (with_reducible apply go_lsr; (focus (tb_rel; done)))
  | (with_reducible apply go_tpr; (focus (tb_rel; done)))
  | (with_reducible apply go_zpr; (focus (tb_rel; done)); (focus (tb_rel; done)))
  | (with_reducible apply go_zprT; (focus (tb_rel; done)); (focus (tb_rel; done)))
  | (with_reducible apply go_enrL; (focus (tb_rel; done)))
  | (with_reducible apply go_enrT; (focus (tb_rel; done)))
  | with_reducible refine go_prop ?_
  | with_reducible refine go_knr0 ?_
  | (with_reducible apply go_knr; (focus (with_unfolding_all exact rfl; done)); (focus (simp only [kSw2, kRev3, kId, List.nil_append, List.cons_append]; exact rfl)))
  | with_reducible refine go_mkn ?_
  | (with_reducible apply go_mkr; (focus (tb_rel; done)); (focus (with_unfolding_all exact rfl; done)))
  | with_reducible refine go_fld ?_
  | (with_reducible apply go_flr; (focus (tb_rel; done)); (focus (with_reducible assumption; done)); (focus (with_reducible assumption; done)); (focus (with_unfolding_all exact rfl; done)))
  | (with_reducible apply go_prr; (focus (tb_rel; done)))
  | (with_reducible apply go_mer; (focus (tb_rel; done)); (focus (with_unfolding_all exact rfl; done)))
  | with_reducible refine go_sfld ?_
  | (with_reducible apply go_sfr; (focus (tb_rel; done)); (focus (with_reducible assumption; done)); (focus (with_reducible assumption; done)); (focus (with_unfolding_all exact Nat.le_of_ble_eq_true rfl; done)); (focus (with_unfolding_all exact rfl; done)); intros)
  | with_reducible refine go_revt ?_
  | with_reducible refine go_make0 ?_
  | (focus (with_reducible refine go_aug (x := ?_) ?_ ?_; rotate_left; (focus (with_unfolding_all exact rfl))))
  | (focus (with_reducible refine go_augk (σ' := ?_) ?_ ?_; rotate_left; (focus (simp only [List.set_cons_succ, List.set_cons_zero]; exact rfl))))
  | with_reducible refine go_min2 ?_
  | with_reducible refine go_int1 ?_
  | with_reducible refine go_max2 ?_
  | with_reducible refine go_intB ?_
  | with_reducible refine go_absN ?_
  | with_reducible refine go_isN ?_
  | with_reducible refine go_notN ?_
  | (with_reducible apply go_rvt; (focus (tb_rel; done)); (focus (simp only [List.reverse_cons, List.reverse_nil, List.nil_append, List.cons_append]; exact rfl)); intros)
  | (with_reducible apply go_reprNm; (focus (tb_rel; done)); (focus (with_reducible assumption; done)))
  | (with_reducible apply go_reprPr; (focus (nest_cls; done)); (focus (lcg_src; done)); (focus (lcg_src; done)))
  | with_reducible refine go_sl ?_
  | with_reducible refine go_part ?_
  | with_reducible refine go_nopart ?_
  | (with_reducible apply go_gtup; (focus (tb_rel; done)); (focus (with_unfolding_all exact rfl; done)))
  | (with_reducible apply go_gunl; (focus (tb_rel; done)); (focus (with_unfolding_all exact rfl; done)))
  | with_reducible refine go_gcons ?_
  | with_reducible refine go_gnil ?_
  | with_reducible refine go_addN ?_
  | with_reducible refine go_ltN ?_
  | with_reducible refine go_leN ?_
  | with_reducible refine go_gtN ?_
  | with_reducible refine go_geN ?_
  | (with_reducible apply go_subN; (focus (omega; done)))
  | with_reducible refine go_rI0 ?_
  | (with_reducible apply go_mulN; (focus (omega; done)))
  | (with_reducible apply go_modN; (focus (omega; done)))
  | (with_reducible apply go_divN; (focus (omega; done)))
  | (with_reducible apply go_powN; (focus (with_unfolding_all decide; done)))
  | with_reducible refine go_rU ?_
  | with_reducible refine go_eqN ?_
  | with_reducible refine go_neN ?_
  | with_reducible refine go_isB ?_
  | with_reducible refine go_notB ?_
  | with_reducible refine go_eqS ?_
  | with_reducible refine go_neS ?_
  | with_reducible refine go_eqB ?_
  | with_reducible refine go_eqI ?_
  | with_reducible refine go_neI ?_
  | (with_reducible apply go_ixt; (focus (tb_rel; done)); (focus (none_booked; done)))
  | (with_reducible apply go_ixl; (focus (tb_rel; done)); (focus (none_booked; done)))
  | (with_reducible apply go_lent; (focus (tb_rel; done)))
  | (with_reducible apply go_lenNm; (focus (tb_rel; done)))
  | (with_reducible apply go_isiNm; (focus (tb_rel; done)))
  | (with_reducible apply go_lenl; (focus (tb_rel; done)))
  | (with_reducible apply go_catA; (focus (tb_rel; done)); (focus (tb_rel; done)); (focus (lcg_sub; done)); intros)
  | (with_reducible apply go_slaT; (focus (tb_rel; done)); intros)
  | (with_reducible apply go_slaD; (focus (tb_rel; done)); intros)
  | (with_reducible apply go_rep; (focus (tb_rel; done)); (focus (lcg_src; done)); intros)
  | (with_reducible apply go_tupofl; (focus (tb_rel; done)); intros)
  | (with_reducible apply go_sllT; (focus (tb_rel; done)); intros)
  | (with_reducible apply go_sllD; (focus (tb_rel; done)); intros)
  | (with_reducible apply go_cat; (focus (tb_rel; done)); (focus (tb_rel; done)); (focus (lcg_sub; done)); intros)
  | (with_reducible apply go_eqP; with_reducible assumption; (focus (tb_rel; done)); (focus (tb_rel; done)))
  | (with_reducible apply go_neP; with_reducible assumption; (focus (tb_rel; done)); (focus (tb_rel; done)))
  | (with_reducible apply go_mep; (focus (tb_rel; done)); (focus decide); (focus decide); (focus decide))
  | (with_reducible apply c_prepr; (focus (tb_rel; done)); intros)
  | fail "go"))
theorem ok_prepr {f : Addr} {fd : FuncData} (F : Df K "__repr__" "Plan.__repr__" s_prepr [] f fd) (B : Blt mg) (G : PlG K mg C AX) : FnG P w K mg base 2 f fd ["self"] (sp_prepr K C) := by
  refine dfG F sc_prepr (fun vs H Q E h => ?_) (fun cdv A outer s H vs Q E hr ga h => ?_)
  · obtain ⟨v, rs, rfl, _⟩ := h
    rfl
  · obtain ⟨v, rs, rfl, hp, q⟩ := h
    obtain ⟨a, dx, R, Pt, rfl, ea, hR, hP⟩ := hp.ex
    obtain ⟨b, xs, rfl, hs, ha⟩ := hR.lstE
    have hxl : xs.length = rs.length := by rw [ha.len, List.length_map]
    have cl := G.I.cl
    have nR := G.nR
    refine ⟨_, (pss_one (ps_ret (pe_joined (.cons pe_str (.cons (pe_fmt (pe_join' pe_str (pe_lc (own := [("cuts", 1)]) (by rfl) sc_prepr.nd (pi_list' (pe_fld' (pv 0) rfl)) (blkOk_by (own := [("cuts", 1)]) (N := ["self", "cuts"]) (sc := defScope s_prepr) (by decide +kernel)) (fun _ _ _ _ _ => (pg_name (i := 1) sc_prepr.nd rfl (Or.inl rfl))) (fun _ _ _ _ _ => pts_nil) (fun _ _ _ _ _ => (pe_callB (call_reprD' ga hr) (by rfl) B.repr bt_repr (pa_cons (pv 1) pa_nil)))))) (.cons pe_str .nil)))))), ?_⟩
    refine go_start (σ := [some _, none]) rfl ?_
    walk_at "go"
    have len_all : ∀ r ∈ rs, (pRnd r).shown.length ≤ 30000 := fun r hr => by
      have := (sm_rnd (hp.ok.2.2.1 r hr)).len
      show (PyData.list (r.map pCut)).shown.length ≤ 30000
      omega
    have l3 := hp.ok.2.1
    have sum_all := sum_shown rs len_all
    refine ⟨_, rfl, by decide +kernel, ⟨_, rfl⟩, ?_⟩
    walk_at "go"
    refine lcList (K := K) (fun i => .str (pRnd (rs.getD i [])).shown) (by tb_rel) (by omega) (fun _ _ => rfl) (fun _ => rfl) (fun i x H1 Q' hi hx s1 hq => ?_) (fun D H1 ys nD s1 eD hall => ?_)
    · obtain ⟨d, hd1, hd2⟩ := (ha.up s1).get hx
      rw [List.getElem?_map] at hd1
      obtain ⟨r, hr1, rfl⟩ := Option.map_eq_some_iff.mp hd1
      obtain ⟨c, zs, rfl, hzs, hza⟩ := hd2.lstE
      walk_at "go"
      refine go_reprD hd2 ((sm_rnd (hp.ok.2.2.1 r (List.mem_of_getElem? hr1))).shw (by decide) (by decide)) ?_
      refine hq _ _ (by tb_rel) ?_
      rw [List.getD_eq_getElem?_getD, hr1]
      exact .str _
    · have es : ys = (rs.map fun r => (pRnd r).shown).map V.str := by
        refine DpAll.strsE (K := K) (H := H1) ?_
        have e : (List.range xs.length).map (fun i => PyData.str (pRnd (rs.getD i [])).shown) = (rs.map fun r => (pRnd r).shown).map PyData.str := by
          rw [hxl]
          refine List.ext_getElem? fun i => ?_
          rw [List.getElem?_map, List.getElem?_map, List.getElem?_map]
          rcases Nat.lt_or_ge i rs.length with c | c
          · rw [List.getElem?_range c, List.getElem?_eq_getElem c]
            simp [List.getD_eq_getElem?_getD, List.getElem?_eq_getElem c]
          · rw [List.getElem?_eq_none (by simpa using c), List.getElem?_eq_none c]
            rfl
        rw [← e]
        exact hall
      subst es
      have lj : (Txt.join ", " (rs.map fun r => (pRnd r).shown)).length ≤ 100000 := by
        rw [show Txt.join ", " (rs.map fun r => (pRnd r).shown) = Str.join ", " (rs.map fun r => (pRnd r).shown) from PySem.StrLaws.glued_eq_join _ _]
        refine Nat.le_trans (StrLaws.join_length_le _ _) ?_
        rw [List.length_map]
        have : (", " : Str).length = 2 := by decide +kernel
        rw [this]
        omega
      have lp : (Str.empty ++ ("Plan(" : Str)).length = 5 := by decide +kernel
      have lq : (")" : Str).length = 1 := by decide +kernel
      refine ⟨", ", D, _, rfl, rfl, .inl (SqL.of eD), ?_, ?_⟩
      · rw [List.length_map]
        have : (", " : Str).length = 2 := by decide +kernel
        rw [this]
        omega
      refine .inl ⟨_, rfl, by unfold sizeLine; omega, _, rfl, by rw [PySem.Str.length_append, lp]; unfold sizeLine; omega, _, rfl, by rw [PySem.Str.length_append, PySem.Str.length_append, lp, lq]; unfold sizeLine; omega, ?_⟩
      exact q _ s1
end
end T
set_option Elab.async false
set_option maxRecDepth 100000
set_option maxHeartbeats 4000000
namespace T
open PySem L2 Mv
abbrev s_right : Stmt := top 66
theorem sc_right : FnScope ["_law_pot_here", "_law_rounds_here", "_law_tome", "_law_turn", "_law_glyphs_here", "_law_near", "_law_things", "_law_thing", "_law_told"] ["_law_pot_here"] (defScope s_right) := ⟨rfl, rfl, rfl, by decide +kernel, rfl, by decide +kernel, by decide +kernel⟩
/-- no tuples -/
structure TtG (K : PySem.W.Frag) (C CR : Addr) : Prop where
  kp : PySem.W.kitOne K (.ref C) (.type "tuple") = some false
  kr : PySem.W.kitOne K (.ref CR) (.type "tuple") = some false
section
variable {P : Program} {w : World} {K : PySem.W.Frag} {mg : Str → Option Value} {base : Heap} {C AX CR : Addr}
theorem sqt_dl {p b : Addr} {H : Hp} {xs : List V} (hp : Pot H p) (h : SqT K H b xs) : SqT K (dl p H) b xs := by
  obtain ⟨x, y, ep, _⟩ := hp.ex
  have ne : ∀ o, H b = some o → (∀ zs, o ≠ .lst zs) → b ≠ p := fun o e n z => by
    rw [z, ep] at e
    exact n _ (Option.some.inj e).symm
  rcases h with (h | ⟨o, h⟩) | h
  · exact .inl (.inl (dl_at h (ne _ h fun _ z => by cases z)))
  · exact .inl (.inr ⟨o, dl_at h (ne _ h fun _ z => by cases z)⟩)
  · exact .inr h
theorem row_nm {p b : Addr} {H : Hp} {ns : List Nat} (hp : Pot H p) (h : SqT K H b (vNm ns)) (l : ns.length ≤ 48) (hs : ∀ n ∈ ns, n ≤ 1000) : Row P w K mg base (dl p H) b (vNm ns) := by
  have h' := sqt_dl hp h
  refine ⟨h', by rw [vNm_len]; exact l, fun x m => ?_, fun x m => ?_, .inl ⟨_, nmI h', (Sma.tuple (k := 1) (W := 100) fun d hd => ?_).mono (Nat.le_refl _) ?_⟩⟩
  · obtain ⟨n, hn, rfl⟩ := List.mem_map.mp m
    have := hs n hn
    exact it_int (nab (by omega))
  · obtain ⟨n, hn, rfl⟩ := List.mem_map.mp m
    trivial
  · obtain ⟨n, hn, rfl⟩ := List.mem_map.mp hd
    have := hs n hn
    rcases it_int (P := P) (w := w) (K := K) (mg := mg) (base := base) (G := H) (i := (n : Int)) (nab (by omega)) with ⟨d, h1, h2⟩ | ⟨h1, _⟩
    · cases h1
      exact h2
    · cases h1
  · rw [List.length_map]
    omega
theorem name_small {rs : List (List Pm.Cut)} (hok : Pm.RdsOk rs) : ∀ (f x y n : Nat), n ∈ Pm.name rs f x y → n ≤ 1000
  | 0, x, y, n, h => by
    have := Pm.name_len rs 0 x y
    rw [List.length_eq_zero_iff.mp this] at h
    simp at h
  | f + 1, x, y, n, h => by
    rw [Pm.name_succ] at h
    rcases List.mem_append.mp h with h | h
    · exact name_small hok f _ _ n h
    · rw [List.mem_singleton.mp h]
      have h1 := hok.G_lt f (x % Pm.W rs 0 f) (y % Pm.W rs 1 f)
      have h2 := hok.S32 f
      have h3 : Pm.G rs f (x % Pm.W rs 0 f) (y % Pm.W rs 1 f) < Pm.S rs f := h1
      omega
/-- a value that is asked about -/
structure Thn (P : Program) (w : World) (K : PySem.W.Frag) (mg : Str → Option Value) (base : Heap) (H : Hp) (rs : List (List Pm.Cut)) (x : V) : Prop where
  ex : ∃ b t, Ask K H rs x b ∧ Tps P w K mg base 4 H x t
theorem Thn.same {H H' : Hp} {rs : List (List Pm.Cut)} {x : V} (s : Same H H') (h : Thn P w K mg base H rs x) : Thn P w K mg base H' rs x := by
  obtain ⟨b, t, h1, h2⟩ := h.ex
  exact ⟨b, t, h1.same s, h2.same s⟩
theorem thn_row {G : Hp} {rs : List (List Pm.Cut)} {a : Addr} {xs : List V} (h : Row P w K mg base G a xs) : Thn P w K mg base G rs (.ref a) := by
  obtain ⟨t, _, ht⟩ := h.me.shs (by decide) (by decide)
  exact ⟨_, t, .inr ⟨a, xs, rfl, h.sq, h.th, Nat.le_trans h.len (by decide), rfl⟩, ht.tps.up (by decide)⟩
theorem thn_no {G : Hp} {rs : List (List Pm.Cut)} {x : V} {t : Value} {k W : Nat} (ty : TyX K G x t) (kt : PySem.W.kitOne K t (.type "tuple") = some false) (h : It P w K mg base k W G x) (hk : k ≤ 4) (hW : W ≤ 40000) : Thn P w K mg base G rs x := by
  obtain ⟨u, _, hu⟩ := h.shs (by omega) hW
  exact ⟨false, u, .inl ⟨rfl, t, ty, kt⟩, hu.tps.up hk⟩
theorem thn_dict {G : Hp} {rs : List (List Pm.Cut)} {a : Addr} {d : PyData} {kvs : List (Key × V)} (e : G a = some (.dK kvs)) (h : DcR G a d) : Thn P w K mg base G rs (.ref a) := ⟨false, _, .inl ⟨rfl, _, .base (.dK e), kit_ty (by decide +kernel)⟩, (Shs.dct h).tps⟩
theorem it_par {G : Hp} : It P w K mg base 1 100 G (.str "()") := .inl ⟨_, .str _, ⟨by decide +kernel, by decide +kernel, by decide +kernel, by decide +kernel, by decide +kernel⟩⟩
def sp_right : Sp := fun vs H Q _ => ∃ (p : Addr), vs = [.ref p] ∧ Pot H p ∧ ∀ H', Pot H' p → Bu p H H' → Q (.bl true) H'
theorem c_right {p : Addr} {H : Hp} {Q : VK} {E : XK} (h0 : Pot H p) (q : ∀ H', Pot H' p → Bu p H H' → Q (.bl true) H') : sp_right  [.ref p] H Q E := ⟨_, rfl, h0, q⟩
local macro_rules | `(tactic| tb_rel) => `(tactic| repeat (first
  | with_reducible assumption
  | with_reducible exact Dp.int _
  | with_reducible exact Dp.str _
  | with_reducible exact Dp.bl _
  | with_reducible exact Dp.non
  | (with_reducible apply SqT.of; with_reducible assumption)
  | (with_reducible apply SqL.of; with_reducible assumption)
  | (with_reducible apply up_dp; with_reducible assumption)
  | (with_reducible apply up_sqt; with_reducible assumption)
  | (with_reducible apply up_sql; with_reducible assumption)
  | (with_reducible apply up_get; with_reducible assumption)
  | (with_reducible apply up_pot; with_reducible assumption)
  | with_reducible exact Same.refl _
  | with_reducible exact Bu.refl _ _
  | (with_reducible apply up_same; with_reducible assumption)
  | (with_reducible apply up_bu; with_reducible assumption)
  | (with_reducible apply bu_bu; with_reducible assumption)
  | (with_reducible apply free_of; with_reducible assumption)
  | (with_reducible apply mi_fr; with_reducible assumption; (focus (tb_rel; done)))
  | (with_reducible apply mi_dp; with_reducible assumption)
  | (with_reducible apply mi_sqt; with_reducible assumption)
  | (with_reducible apply mi_sql; with_reducible assumption)
  | (with_reducible apply mi_gett; with_reducible assumption)
  | (with_reducible apply mi_getl; with_reducible assumption)
  | (with_reducible apply mi_pot; with_reducible assumption)
  | (with_reducible apply mi_refl; with_reducible assumption; (focus (with_unfolding_all exact rfl)))
  | (with_reducible apply up_mi; with_reducible assumption)
  | (with_reducible apply mi_mi; with_reducible assumption)
  | (with_reducible apply mi_bu; with_reducible assumption)
  | with_reducible exact num_int _
  | (with_reducible apply rat_of; with_reducible assumption)
  | (with_reducible apply num_rat; (focus (tb_rel; done)))
  | (with_reducible apply up_plan; with_reducible assumption)
  | (with_reducible apply bu_plan; with_reducible assumption; (focus (tb_rel; done)))
  | (with_reducible apply mi_plan; with_reducible assumption; (focus (lcg_src; done)))
  | (with_reducible apply up_lrd; with_reducible assumption)
  | (with_reducible apply bu_lrd; with_reducible assumption; (focus (tb_rel; done)))
  | (with_reducible apply up_rat; with_reducible assumption)
  | (with_reducible apply up_num; with_reducible assumption)
  | (with_reducible apply mi_rat; with_reducible assumption; (focus (lcg_src; done)))
  | (with_reducible apply mi_num; with_reducible assumption; (focus (lcg_src; done)))
  | (with_reducible apply bu_rat; with_reducible assumption; (focus (tb_rel; done)))
  | (with_reducible apply bu_num; with_reducible assumption; (focus (tb_rel; done)))
  | (with_reducible apply bu_gett; with_reducible assumption; (focus (tb_rel; done)))
  | (with_reducible apply bu_geti; with_reducible assumption; (focus (tb_rel; done)))
  | (with_reducible apply bu_get; with_reducible assumption; (focus (tlg_ne; done)))
  | (with_reducible apply bu_sqt; with_reducible assumption; (focus (tb_rel; done)))
  | (with_reducible apply bu_sql; with_reducible assumption; (focus (tlg_ne; done)))
  | (with_reducible apply bu_dp; with_reducible assumption; (focus (tb_rel; done)); (focus (lcg_src; done)))
  | fail "up"))
local macro_rules | `(tactic| tlg_ne) => `(tactic| first
  | with_reducible assumption
  | (with_reducible apply pot_ne; with_reducible assumption; (focus (tb_rel; done)))
  | fail "ne")
local macro_rules | `(tactic| lcg_src) => `(tactic| first
  | with_reducible assumption
  | with_unfolding_all exact rfl
  | with_unfolding_all decide
  | with_unfolding_all exact Nat.ne_of_beq_eq_false rfl
  | (apply_assumption; done)
  | omega
  | (simp; done)
  | (simp; omega)
  | fail "sd")
local macro_rules | `(tactic| lcg_sub) => `(tactic| first
  | (unfold sizeLine; omega)
  | (simp only [List.length_cons, List.length_nil, List.length_append, List.length_map, List.length_replicate, List.length_take, List.length_drop]; unfold sizeLine; omega)
  | (simp; unfold sizeLine; omega)
  | fail "sz")
local macro_rules | `(tactic| nest_cls) => `(tactic| first
  | (tb_rel; done)
  | (with_reducible apply lrd_dp; (focus (tb_rel; done)))
  | (with_reducible apply nmI1; (focus (tb_rel; done)))
  | (with_reducible apply nmT; (focus (tb_rel; done)))
  | (with_reducible apply nmI; (focus (tb_rel; done)))
  | (with_reducible apply d_tup; (focus (tb_rel; done)); (focus (lsm_bools; done)))
  | (with_reducible apply d_lst; (focus (tb_rel; done)); (focus (lsm_bools; done)))
  | fail "dp")
local macro_rules | `(tactic| lsm_bools) => `(tactic| repeat (first
  | with_reducible exact DpAll.nil
  | with_reducible assumption
  | (with_reducible apply DpAll.cons; (focus (nest_cls; done)))
  | fail "dpa"))
local macro_rules | `(tactic| none_booked) => `(tactic| first | with_unfolding_all exact rfl | (with_reducible apply atI_nat; with_reducible assumption) | fail "ix")
local macro_rules | `(tactic| walk_at "go") => `(tactic| repeat (first
  | (focus (with_reducible refine go_var (v := ?_) ?_ ?_; rotate_left; (focus (with_unfolding_all exact rfl))))
  | with_reducible refine go_seq ?_
  | with_reducible refine go_cN ?_
  | with_reducible refine go_c ?_
  | with_reducible refine go_op ?_
  | with_reducible refine go_nil ?_
  | with_reducible refine go_cons ?_
  | with_reducible refine go_cb ?_
  | with_reducible refine go_call0 ?_
  | with_reducible refine go_asg ?_
  | (focus (with_reducible refine go_gname (σ' := ?_) ?_ ?_; rotate_left; (focus (simp only [List.set_cons_succ, List.set_cons_zero]; exact rfl))))
  | with_reducible refine go_par ?_
  | (focus (with_reducible refine go_par2 (σ' := ?_) ?_ ?_; rotate_left; (focus (simp only [List.set_cons_succ, List.set_cons_zero]; exact rfl))))
  | with_reducible refine go_ifs ?_
  | with_reducible refine go_test ?_
  | with_reducible refine go_tb ?_
  | with_reducible refine go_asb ?_
  | with_reducible refine go_asi ?_
  | with_reducible refine go_ret ?_
  | with_reducible refine go_retn ?_
  | with_reducible refine go_drop ?_
  | with_reducible refine go_next ?_
  | with_reducible refine go_and ?_
  | with_reducible refine go_or ?_
  | with_reducible refine go_not ?_
  | with_reducible refine go_andv ?_
  | with_reducible refine go_orv ?_
  | with_reducible refine go_notv ?_
  | with_reducible refine go_ife ?_
  | with_reducible refine go_chain ?_
  | with_reducible refine go_if1 ?_
  | with_reducible refine go_if0 ?_
  | with_reducible refine go_ifn1 ?_
  | with_reducible refine go_ifn0 ?_
  | (with_reducible apply go_ift; (focus (first | with_reducible rfl | with_reducible assumption | omega)))
  | (with_reducible apply go_ifnt; (focus (first | with_reducible rfl | with_reducible assumption | omega)))
  | (with_reducible apply go_iff; (focus (first | with_reducible assumption | omega)))
  | (with_reducible apply go_ifnf; (focus (first | with_reducible assumption | omega)))
  | with_reducible refine go_un ?_
  | with_reducible refine go_tup ?_
  | with_reducible refine go_lst ?_
  | (with_reducible apply go_newt; (focus (lcg_sub; done)); intros)
  | (with_reducible apply go_newl; (focus (lcg_sub; done)); intros)
  | with_reducible refine go_meth ?_
  | with_reducible refine go_for ?_
  | with_reducible refine go_lc ?_
  | with_reducible refine go_irng1 ?_
  | with_reducible refine go_irng2 ?_
  | with_reducible refine go_ilist ?_
  | with_reducible refine go_itup ?_
  | with_reducible refine go_izip ?_
  | with_reducible refine go_ienum ?_
  | (with_reducible apply go_rg1; (focus (lcg_src; done)))
  | (with_reducible apply go_rg2; (focus (lcg_src; done)); (focus (lcg_src; done)))
  | (with_reducible apply go_lsr; (focus (tb_rel; done)))
  | (with_reducible apply go_tpr; (focus (tb_rel; done)))
  | (with_reducible apply go_zpr; (focus (tb_rel; done)); (focus (tb_rel; done)))
  | (with_reducible apply go_zprT; (focus (tb_rel; done)); (focus (tb_rel; done)))
  | (with_reducible apply go_enrL; (focus (tb_rel; done)))
  | (with_reducible apply go_enrT; (focus (tb_rel; done)))
  | with_reducible refine go_prop ?_
  | with_reducible refine go_knr0 ?_
  | (with_reducible apply go_knr; (focus (with_unfolding_all exact rfl; done)); (focus (simp only [kSw2, kRev3, kId, List.nil_append, List.cons_append]; exact rfl)))
  | with_reducible refine go_mkn ?_
  | (with_reducible apply go_mkr; (focus (tb_rel; done)); (focus (with_unfolding_all exact rfl; done)))
  | with_reducible refine go_fld ?_
  | (with_reducible apply go_flr; (focus (tb_rel; done)); (focus (with_reducible assumption; done)); (focus (with_reducible assumption; done)); (focus (with_unfolding_all exact rfl; done)))
  | (with_reducible apply go_prr; (focus (tb_rel; done)))
  | (with_reducible apply go_mer; (focus (tb_rel; done)); (focus (with_unfolding_all exact rfl; done)))
  | with_reducible refine go_sfld ?_
  | (with_reducible apply go_sfr; (focus (tb_rel; done)); (focus (with_reducible assumption; done)); (focus (with_reducible assumption; done)); (focus (with_unfolding_all exact Nat.le_of_ble_eq_true rfl; done)); (focus (with_unfolding_all exact rfl; done)); intros)
  | with_reducible refine go_revt ?_
  | with_reducible refine go_make0 ?_
  | (focus (with_reducible refine go_aug (x := ?_) ?_ ?_; rotate_left; (focus (with_unfolding_all exact rfl))))
  | (focus (with_reducible refine go_augk (σ' := ?_) ?_ ?_; rotate_left; (focus (simp only [List.set_cons_succ, List.set_cons_zero]; exact rfl))))
  | with_reducible refine go_min2 ?_
  | with_reducible refine go_int1 ?_
  | with_reducible refine go_max2 ?_
  | with_reducible refine go_intB ?_
  | with_reducible refine go_absN ?_
  | with_reducible refine go_isN ?_
  | with_reducible refine go_notN ?_
  | (with_reducible apply go_rvt; (focus (tb_rel; done)); (focus (simp only [List.reverse_cons, List.reverse_nil, List.nil_append, List.cons_append]; exact rfl)); intros)
  | (with_reducible apply go_reprNm; (focus (tb_rel; done)); (focus (with_reducible assumption; done)))
  | (with_reducible apply go_reprPr; (focus (nest_cls; done)); (focus (lcg_src; done)); (focus (lcg_src; done)))
  | with_reducible refine go_sl ?_
  | with_reducible refine go_part ?_
  | with_reducible refine go_nopart ?_
  | (with_reducible apply go_gtup; (focus (tb_rel; done)); (focus (with_unfolding_all exact rfl; done)))
  | (with_reducible apply go_gunl; (focus (tb_rel; done)); (focus (with_unfolding_all exact rfl; done)))
  | with_reducible refine go_gcons ?_
  | with_reducible refine go_gnil ?_
  | with_reducible refine go_addN ?_
  | with_reducible refine go_ltN ?_
  | with_reducible refine go_leN ?_
  | with_reducible refine go_gtN ?_
  | with_reducible refine go_geN ?_
  | (with_reducible apply go_subN; (focus (omega; done)))
  | with_reducible refine go_rI0 ?_
  | (with_reducible apply go_mulN; (focus (omega; done)))
  | (with_reducible apply go_modN; (focus (omega; done)))
  | (with_reducible apply go_divN; (focus (omega; done)))
  | (with_reducible apply go_powN; (focus (with_unfolding_all decide; done)))
  | with_reducible refine go_rU ?_
  | with_reducible refine go_eqN ?_
  | with_reducible refine go_neN ?_
  | with_reducible refine go_isB ?_
  | with_reducible refine go_notB ?_
  | with_reducible refine go_eqS ?_
  | with_reducible refine go_neS ?_
  | with_reducible refine go_eqB ?_
  | with_reducible refine go_eqI ?_
  | with_reducible refine go_neI ?_
  | (with_reducible apply go_ixt; (focus (tb_rel; done)); (focus (none_booked; done)))
  | (with_reducible apply go_ixl; (focus (tb_rel; done)); (focus (none_booked; done)))
  | (with_reducible apply go_lent; (focus (tb_rel; done)))
  | (with_reducible apply go_lenNm; (focus (tb_rel; done)))
  | (with_reducible apply go_isiNm; (focus (tb_rel; done)))
  | (with_reducible apply go_lenl; (focus (tb_rel; done)))
  | (with_reducible apply go_catA; (focus (tb_rel; done)); (focus (tb_rel; done)); (focus (lcg_sub; done)); intros)
  | (with_reducible apply go_slaT; (focus (tb_rel; done)); intros)
  | (with_reducible apply go_slaD; (focus (tb_rel; done)); intros)
  | (with_reducible apply go_rep; (focus (tb_rel; done)); (focus (lcg_src; done)); intros)
  | (with_reducible apply go_tupofl; (focus (tb_rel; done)); intros)
  | (with_reducible apply go_sllT; (focus (tb_rel; done)); intros)
  | (with_reducible apply go_sllD; (focus (tb_rel; done)); intros)
  | (with_reducible apply go_cat; (focus (tb_rel; done)); (focus (tb_rel; done)); (focus (lcg_sub; done)); intros)
  | (with_reducible apply go_eqP; with_reducible assumption; (focus (tb_rel; done)); (focus (tb_rel; done)))
  | (with_reducible apply go_neP; with_reducible assumption; (focus (tb_rel; done)); (focus (tb_rel; done)))
  | (with_reducible apply go_mkrat; with_reducible assumption; with_reducible assumption; intros)
  | (with_reducible apply go_mkrat1; intros)
  | (with_reducible apply go_merR; (focus (tb_rel; done)); (focus decide); (focus decide))
  | (with_reducible apply go_prR; (focus (tb_rel; done)))
  | (with_reducible apply go_mep; (focus (tb_rel; done)); (focus decide); (focus decide); (focus decide))
  | (with_reducible apply go_lenR; (focus (nest_cls; done)))
  | (with_reducible apply go_ixR; (focus (nest_cls; done)); (focus (lcg_src; done)); intros)
  | (with_reducible apply c_asked; (focus (tb_rel; done)); (focus (nest_cls; done)); (focus (lcg_src; done)); (focus (lcg_src; done)); (focus (lcg_src; done)); intros)
  | (with_reducible apply c_children; (focus (tb_rel; done)); (focus (nest_cls; done)); (focus (lcg_src; done)); (focus (lcg_src; done)); intros)
  | (with_reducible apply c_drawN; (focus (tb_rel; done)); (focus (lcg_src; done)); (focus (lcg_src; done)); intros)
  | (with_reducible apply c_glyphs; (focus (tb_rel; done)); (focus (tb_rel; done)); (focus (lcg_src; done)); intros)
  | (with_reducible apply c_isname2; (focus (tb_rel; done)); (focus (lcg_src; done)); intros)
  | (with_reducible apply c_nameof; (focus (tb_rel; done)); (focus (lcg_src; done)); (focus (nest_cls; done)); (focus (lcg_src; done)); (focus (lcg_src; done)); intros)
  | (with_reducible apply c_pick; (focus (tb_rel; done)); (focus (tlg_ne; done)); (focus (tb_rel; done)); (focus (lcg_src; done)); (focus (lcg_src; done)); intros)
  | (with_reducible apply c_prepr; (focus (tb_rel; done)); intros)
  | (with_reducible apply c_real; (focus (tb_rel; done)); (focus (tb_rel; done)); intros)
  | (with_reducible apply c_right; (focus (tb_rel; done)); intros)
  | (with_reducible apply c_rinit; (focus (tb_rel; done)); (focus (lcg_src; done)); (focus (lcg_src; done)); intros)
  | (with_reducible apply c_rounds; (focus (tb_rel; done)); intros)
  | (with_reducible apply c_rrepr; (focus (tb_rel; done)); (focus (lcg_src; done)); (focus (lcg_src; done)); intros)
  | (with_reducible apply c_turnedrow; (focus (tb_rel; done)); (focus (tb_rel; done)); (focus (lcg_src; done)); intros)
  | (with_reducible apply ne_same; (focus (nest_cls; done)); (focus (nest_cls; done)); (focus (first | with_unfolding_all exact rfl | exact shaped_nm _)); (focus (first | with_unfolding_all exact rfl | exact nd_nm _)))
  | (with_reducible apply eq_same; (focus (nest_cls; done)); (focus (nest_cls; done)); (focus (first | with_unfolding_all exact rfl | exact shaped_nm _)); (focus (first | with_unfolding_all exact rfl | exact nd_nm _)))
  | fail "go"))
theorem ok_right {f : Addr} {fd : FuncData} (F : Df K "_law_right" "_law_right" s_right [] f fd) (B : Blt mg) (G : PlG K mg C AX) (GR : RtG K mg CR) (TT : TtG K C CR) (cRp : Op2 P w K mg base 1 CR "__repr__" (sp_rrepr CR)) (cPp : Op2G P w K mg base 2 C "__repr__" ["self"] (sp_prepr K C)) (cDr : Ca P w K mg base 1 "_law_draw" sp_draw []) (cPk : Ca P w K mg base 2 "_law_pick" (sp_pick K) []) (cRo : Ca P w K mg base 3 "_law_rounds" (sp_rounds K) []) (cRe : Ca P w K mg base 8 "_law_real" (sp_real K C) []) (cGl : Ca P w K mg base 2 "_law_glyphs" (sp_glyphs K) []) (cTu : Ca P w K mg base 4 "_law_turned" (sp_turnedrow P w K mg base) []) (cAs : Cg P w K mg base 9 "_law_asked" ["_law_tome", "_law_rounds_here", "_law_thing"] (sp_asked P w K mg base C) []) (cIn : Ca P w K mg base 8 "is_name" (sp_isname2 K C) []) (cCh : Ca P w K mg base 8 "children" (sp_children K C) []) (cNo : Ca P w K mg base 6 "name_of" (sp_nameof K C) []) (cRt : Ma P w K mg base 2 "Ratio" CR (sp_rinit CR) []) : FnG P w K mg base 10 f fd ["_law_pot_here"] sp_right := by
  refine dfG F sc_right (fun vs H Q E h => ?_) (fun cdv A outer s H vs Q E hr ga h => ?_)
  · obtain ⟨p, rfl, _⟩ := h
    rfl
  · obtain ⟨p, rfl, hp, q⟩ := h
    refine ⟨_, (pss_cons (ps_set (i := 1) sc_right.nd rfl (Or.inr rfl) (pe_ca cRo hr (by decide) (by rfl) (pa_cons (pv 0) pa_nil)))
  (pss_cons (ps_set (i := 2) sc_right.nd rfl (Or.inr rfl) (pe_ca cRe hr (by decide) (by rfl) (pa_cons (pv 0) (pa_cons (pv 1) pa_nil))))
  (pss_cons (ps_for PassesOwn.never rfl (pi_range1 (by rfl) B.range (pa_cons pe_int pa_nil)) (pg_name (i := 3) sc_right.nd rfl (Or.inl rfl))
  (pss_cons (ps_set (i := 4) sc_right.nd rfl (Or.inl rfl) (pe_ca cGl hr (by decide) (by rfl) (pa_cons (pv 0) (pa_cons (pv 1) (pa_cons (pe_ca cPk hr (by decide) (by rfl) (pa_cons (pv 0) (pa_cons (pe_lst (pa_cons pe_int (pa_cons pe_int (pa_cons pe_int (pa_cons (pe_ca cDr hr (by decide) (by rfl) (pa_cons (pv 0) (pa_cons pe_int pa_nil))) (pa_cons (pe_ca cDr hr (by decide) (by rfl) (pa_cons (pv 0) (pa_cons pe_int pa_nil))) pa_nil)))))) pa_nil))) pa_nil)))))
  (pss_cons (ps_set (i := 5) sc_right.nd rfl (Or.inl rfl) (pe_ca cTu hr (by decide) (by rfl) (pa_cons (pv 0) (pa_cons (pv 1) (pa_cons (pv 4) pa_nil)))))
  (pss_cons (ps_set (i := 6) sc_right.nd rfl (Or.inl rfl) (pe_lst (pa_cons (pv 4) (pa_cons (pv 5) (pa_cons (pe_ca cTu hr (by decide) (by rfl) (pa_cons (pv 0) (pa_cons (pv 1) (pa_cons (pv 5) pa_nil)))) (pa_cons (pe_callTy call_list_of' (by rfl) B.list bt_list (pa_cons (pv 4) pa_nil)) (pa_cons (pe_op op_catA' (pv 4) (pe_tup (pa_cons pe_int pa_nil))) (pa_cons (pe_tup (pa_cons (pv 4) pa_nil)) (pa_cons (pe_lst (pa_cons (pv 5) pa_nil)) pa_nil)))))))))
  (pss_cons (ps_set (i := 6) sc_right.nd rfl (Or.inl rfl) (pe_op op_cat (pv 6) (pe_lst (pa_cons pe_non (pa_cons pe_int (pa_cons (pe_op op_pow pe_int pe_int) (pa_cons pe_bl (pa_cons pe_str (pa_cons pe_str (pa_cons pe_str (pa_cons pe_dnewK (pa_cons (pe_disp (pps_cons pe_int pe_int pps_nil) (by rfl) (by rfl) (fun z => by cases z) (by decide)) (pa_cons (pv 2) (pa_cons (pe_ma cRt hr (by decide) (by rfl) (pa_cons pe_int (pa_cons pe_int pa_nil))) pa_nil))))))))))))))
  (pss_cons (ps_if (pt_not (pt_val (pe_callB (cr_all' rfl) (by rfl) B.all bt_all (pa_cons (pe_lc (own := [("_law_thing", 7)]) (by rfl) sc_right.nd (pi_list' (pv 6)) (blkOk_by (own := [("_law_thing", 7)]) (N := ["_law_pot_here", "_law_rounds_here", "_law_tome", "_law_turn", "_law_glyphs_here", "_law_near", "_law_things", "_law_thing", "_law_told"]) (sc := defScope s_right) (by decide +kernel)) (fun _ _ _ _ _ => (pg_name (i := 7) sc_right.nd rfl (Or.inl rfl))) (fun _ _ _ _ _ => pts_nil) (fun _ _ _ _ _ => (pe_g cAs hr ga (by decide) (by rfl) (pa_cons (pv 2) (pa_cons (pv 1) (pa_cons (pv 7) pa_nil)))))) pa_nil))))
  (pss_one (ps_ret pe_bl))
  pss_nil)
  (pss_cons (ps_if (pt_not (pt_val (pe_callB (cr_all' rfl) (by rfl) B.all bt_all (pa_cons (pe_lc (own := [("_law_thing", 7)]) (by rfl) sc_right.nd (pi_list' (pe_ca cCh hr (by decide) (by rfl) (pa_cons (pv 2) (pa_cons (pv 4) pa_nil)))) (blkOk_by (own := [("_law_thing", 7)]) (N := ["_law_pot_here", "_law_rounds_here", "_law_tome", "_law_turn", "_law_glyphs_here", "_law_near", "_law_things", "_law_thing", "_law_told"]) (sc := defScope s_right) (by decide +kernel)) (fun _ _ _ _ _ => (pg_name (i := 7) sc_right.nd rfl (Or.inl rfl))) (fun _ _ _ _ _ => pts_nil) (fun _ _ _ _ _ => (pe_g cAs hr ga (by decide) (by rfl) (pa_cons (pv 2) (pa_cons (pv 1) (pa_cons (pv 7) pa_nil)))))) pa_nil))))
  (pss_one (ps_ret pe_bl))
  pss_nil)
  (pss_one (ps_if (pt_not (pt_val (pe_g cAs hr ga (by decide) (by rfl) (pa_cons (pv 2) (pa_cons (pv 1) (pa_cons (pe_ca cNo hr (by decide) (by rfl) (pa_cons (pv 2) (pa_cons (pe_callB call_len_seq' (by rfl) B.len bt_len (pa_cons (pv 4) pa_nil)) (pa_cons (pe_tup (pa_cons pe_int (pa_cons pe_int pa_nil))) pa_nil)))) pa_nil))))))
  (pss_one (ps_ret pe_bl))
  pss_nil)))))))))
  (pss_cons (ps_setLc (i := 8) (own := [("_law_thing", 7)]) (by rfl) sc_right.nd rfl rfl (sw_true rfl rfl rfl (by decide +kernel)) (pi_list' (pe_lst (pa_cons (pe_tup (pa_cons pe_int pa_nil)) (pa_cons (pe_tup (pa_cons pe_int pa_nil)) (pa_cons (pe_tup (pa_cons pe_bl pa_nil)) (pa_cons (pe_tup (pa_cons pe_bl pa_nil)) (pa_cons (pe_tup (pa_cons pe_int pa_nil)) (pa_cons (pe_tup (pa_cons pe_int pa_nil)) pa_nil)))))))) (blkOk_by (own := [("_law_thing", 7)]) (N := ["_law_pot_here", "_law_rounds_here", "_law_tome", "_law_turn", "_law_glyphs_here", "_law_near", "_law_things", "_law_thing", "_law_told"]) (sc := defScope s_right) (by decide +kernel)) (fun _ _ _ _ _ => (pg_name (i := 7) sc_right.nd rfl (Or.inl rfl))) (fun _ _ _ _ _ => pts_nil) (fun _ _ _ _ _ => (pe_ca cIn hr (by decide) (by rfl) (pa_cons (pv 2) (pa_cons (pv 7) pa_nil)))))
  (pss_one (ps_ret (pe_and (pe_cmpR op_isBl (pe_ca cIn hr (by decide) (by rfl) (pa_cons (pv 2) (pa_cons (pe_tup pa_nil) pa_nil))) pe_bl (nomark _)) (pe_one (pe_cmpR (op_eqD' hr.units) (pv 8) (pe_lst (pa_cons pe_bl (pa_cons pe_bl (pa_cons pe_bl (pa_cons pe_bl (pa_cons pe_bl (pa_cons pe_bl pa_nil))))))) (nomark _)))))))))), ?_⟩
    refine go_start (σ := [some _, none, none, none, none, none, none, none, none]) rfl ?_
    walk_at "go"
    rename_i v rs H1 hl p1 b1 tm H2 hpl p2 b2
    have hok := hl.ok
    have l1 := hok.1
    refine forRange (fun i σ H' => ∃ v3 v4 v5 v6 v7 v8 : Option V, σ = [some (.ref p), some v, some tm, v3, v4, v5, v6, v7, v8] ∧ Pot H' p ∧ Bu p H2 H') ⟨_, _, _, _, _, _, rfl, p2, Bu.refl _ _⟩ ?_ ?_
    · rintro i σ H3 hi ⟨v3, v4, v5, v6, v7, v8, rfl, p3, b3⟩
      walk_at "go"
      rename_i d1 J1 hd1 q1 c1 d2 J2 hd2 q2 c2 L3 J3 n3 s3 e3 sv J4 hm p4 b4
      obtain ⟨m, rfl, hm47⟩ : ∃ m : Nat, sv = .int (m : Int) ∧ m ≤ 47 := by
        simp only [List.mem_cons, List.not_mem_nil, or_false] at hm
        rcases hm with rfl | rfl | rfl | rfl | rfl
        · exact ⟨0, rfl, by decide⟩
        · exact ⟨1, rfl, by decide⟩
        · exact ⟨2, rfl, by decide⟩
        · exact ⟨d1, rfl, by omega⟩
        · exact ⟨d2, rfl, by omega⟩
      have b24 : Bu p H2 J4 := by tb_rel
      have hl4 := hl.bu (b2.trans b24) p1
      clear hm q1 q2 c1 c2 n3 s3 e3 b4 b3 p3 hd1 hd2
      walk_at "go"
      rename_i gt ns J5 hgl hgok hgd p5 b5
      obtain ⟨gb, rfl, gsq⟩ := nmE hgd
      have ns32 : ∀ n ∈ ns, n ≤ 1000 := fun n hn => by
        obtain ⟨j, hj⟩ := List.mem_iff_getElem?.mp hn
        have lj : j < ns.length := (List.getElem?_eq_some_iff.mp hj).1
        have h1 := hgok j lj
        have h2 := hok.S32 j
        rw [List.getD_eq_getElem?_getD, hj] at h1
        have h1 : n < Pm.S rs j := h1
        omega
      have row5 : Row P w K mg base (dl p J5) gb (vNm ns) := row_nm p5 gsq (by omega) ns32
      have b25 := b24.trans b5
      have hl5 := hl.bu (b2.trans b25) p1
      refine ⟨p, gb, v, rs, vNm ns, rfl, p5, hl5, row5, fun nb ys J6 row6 y0 y1 p6 b6 => ?_⟩
      have b26 := b25.trans b6
      have hl6 := hl.bu (b2.trans b26) p1
      have row65 := row5.same (dl_bu b6)
      have sq6 : SqT K J6 gb (vNm ns) := Same.tup (dl_same p J6) row65.sq
      have zn := vNm_len ns
      clear hl4 hl5 hgd gsq row5
      walk_at "go"
      rename_i nb2 ys2 J7 row7 y2 y3 p7 b7
      have b27 := b26.trans b7
      have hl7 := hl.bu (b2.trans b27) p1
      have row75 := row65.same (dl_bu b7)
      have row76 := row6.same (dl_bu b7)
      have sq7 : SqT K J7 gb (vNm ns) := Same.tup (dl_same p J7) row75.sq
      have hpl7 := hpl.bu b27 p2
      clear hl6 row65 row6 hpl
      refine ⟨gb, vNm ns, rfl, .inr sq7, fun L8 n8 => ?_⟩
      have s8 : Same J7 (upd J7 L8 (.lst (vNm ns))) := same_new n8
      have e8 : upd J7 L8 (.lst (vNm ns)) L8 = some (.lst (vNm ns)) := upd_same
      generalize upd J7 L8 (.lst (vNm ns)) = J8 at *
      have sq8 : SqT K J8 gb (vNm ns) := Same.tup s8 sq7
      walk_at "go"
      rename_i T9 J9 n9 s9 e9 t10 J10 s10 sq10 T11 J11 n11 s11 e11 L12 J12 n12 s12 e12 L13 J13 n13 s13 e13
      intro D14 n14
      have s14 : Same J13 (upd J13 D14 (.dK [])) := same_new n14
      have e14 : upd J13 D14 (.dK []) D14 = some (.dK []) := upd_same
      generalize upd J13 D14 (.dK []) = J14 at *
      intro D15 n15
      refine ⟨upd_same, [(.inl 0, .int ((0 : Nat) : Int))], rfl, by decide, ?_⟩
      have s15 : Same J14 (upd (upd J14 D15 (.dK [])) D15 (.dK (mergeK [] [(.inl 0, .int ((0 : Nat) : Int))]))) := same_over (same_new n15) n15
      have e15 : upd (upd J14 D15 (.dK [])) D15 (.dK (mergeK [] [(.inl 0, .int ((0 : Nat) : Int))])) D15 = some (.dK [(.inl 0, .int ((0 : Nat) : Int))]) := upd_same
      generalize upd (upd J14 D15 (.dK [])) D15 (.dK (mergeK [] [(.inl 0, .int ((0 : Nat) : Int))])) = J15 at *
      walk_at "go"
      refine go_mkrat (by decide) (by decide +kernel) fun X16 J16 n16 s16 r16 => ?_
      walk_at "go"
      rename_i L17 J17 n17 s17 e17 L18 J18 n18 s18 e18
      have z17 := s17.trans s18
      have z16 := s16.trans z17
      have z15 := s15.trans z16
      have z14 := s14.trans z15
      have z13 := s13.trans z14
      have z12 := s12.trans z13
      have z11 := s11.trans z12
      have z10 := s10.trans z11
      have z9 := s9.trans z10
      have z8 := s8.trans z9
      have p10 : Pot J10 p := ((p7.same s8).same s9).same s10
      have g7 : Same (dl p J7) J18 := (dl_same p J7).trans z8
      have all : ∀ x ∈ [V.ref gb, V.ref nb, V.ref nb2, V.ref L8, V.ref t10, V.ref T11, V.ref L12] ++ [V.non, V.int ((0 : Nat) : Int), V.int ((10 ^ 20 : Nat) : Int), V.bl true, V.str "", V.str "0", V.str "()", V.ref D14, V.ref D15, tm, V.ref X16], Thn P w K mg base J18 rs x := by
        intro x hx
        simp only [List.cons_append, List.nil_append, List.mem_cons, List.not_mem_nil, or_false] at hx
        rcases hx with rfl | rfl | rfl | rfl | rfl | rfl | rfl | rfl | rfl | rfl | rfl | rfl | rfl | rfl | rfl | rfl | rfl | rfl
        · exact (thn_row row75).same g7
        · exact (thn_row row76).same g7
        · exact (thn_row row7).same g7
        · exact (thn_no (tyL (SqL.of e8)) (kit_ty (by decide +kernel)) (It.lst ((dl_same p J7).trans s8) (dl_none n8) e8 row75.it (by rw [zn]; omega) (by decide) (n := 48) (by decide) (by decide)) (by decide) (by decide)).same z9
        · rw [vNm_snoc] at sq10
          exact (thn_row (row_nm p10 sq10 (by simp; omega) fun n hn => (List.mem_append.mp hn).elim (ns32 n) fun h => by rw [List.mem_singleton.mp h]; decide)).same ((dl_same p J10).trans z11)
        · have i11 := It.tup (n := 1) (((dl_same p J10).trans s11)) (dl_none n11) e11 (fun x m => by rw [List.mem_singleton.mp m]; exact row75.me.same (dl_up (s8.trans (s9.trans s10)))) (Nat.le_refl 1) (by decide) (by decide) (by decide)
          obtain ⟨t, _, ht⟩ := i11.shs (by decide) (by decide)
          exact (⟨_, t, .inr ⟨T11, _, rfl, SqT.of e11, fun x m => by rw [List.mem_singleton.mp m]; exact th_tup (Same.tup (s8.trans (s9.trans (s10.trans s11))) sq7), by show 1 ≤ 1000; decide, rfl⟩, ht.tps.up (by decide)⟩ : Thn P w K mg base J11 rs (.ref T11)).same z12
        · exact (thn_no (tyL (SqL.of e12)) (kit_ty (by decide +kernel)) (It.lst (n := 1) ((dl_same p J11).trans s12) (dl_none n12) e12 (fun x m => by rw [List.mem_singleton.mp m]; exact row76.me.same (dl_up (s8.trans (s9.trans (s10.trans s11))))) (Nat.le_refl 1) (by decide) (by decide) (by decide)) (by decide) (by decide)).same z13
        · exact thn_no (.base .non) (kit_ty (by decide +kernel)) it_non (by decide) (by decide)
        · exact thn_no (.base (.int _)) (kit_ty (by decide +kernel)) (it_int (nab (by decide))) (by decide) (by decide)
        · exact thn_no (.base (.int _)) (kit_ty (by decide +kernel)) (it_int (by decide +kernel)) (by decide) (by decide)
        · exact thn_no (.base (.bl _)) (kit_ty (by decide +kernel)) (it_bl _) (by decide) (by decide)
        · exact thn_no (.base (.str _)) (kit_ty (by decide +kernel)) it_emp (by decide) (by decide)
        · exact thn_no (.base (.str _)) (kit_ty (by decide +kernel)) it_nil (by decide) (by decide)
        · exact thn_no (.base (.str _)) (kit_ty (by decide +kernel)) it_par (by decide) (by decide)
        · exact (thn_dict e14 ⟨⟨[], [], e14, rfl, rfl⟩, by decide +kernel, by decide +kernel, by decide +kernel⟩).same z15
        · exact (thn_dict e15 ⟨⟨_, [.int ((0 : Nat) : Int)], e15, rfl, rfl⟩, by decide +kernel, by decide +kernel, by decide +kernel⟩).same z16
        · have hp18 := hpl7.same z8
          obtain ⟨a, dx, fs, rfl, ea, _⟩ := plan_obj hp18
          exact ⟨false, planTxt rs, .inl ⟨rfl, _, G.I.ty ea, TT.kp⟩, (Tps.ownG cPp ea fun H' Q s k => ⟨_, rs, rfl, hp18.same s, k⟩).up (by decide)⟩
        · obtain ⟨a, dx, e, ea⟩ := r16
          cases e
          exact (thn_no (GR.I.ty ea) TT.kr (it_rat cRp ⟨_, dx, rfl, ea⟩ (by decide +kernel) (by decide +kernel) (by decide +kernel)) (by decide) (by decide)).same z17
      have hp18 := hpl7.same z8
      have hd18 := hl7.dp.up z8
      have p18 : Pot J18 p := p7.same z8
      have b18 : Bu p H2 J18 := b27.trans (Bu.of z8 p)
      have sq18 : SqT K J18 gb (vNm ns) := Same.tup z8 sq7
      clear row7 row75 row76 hpl7 hl7 sq7 sq6 e8 n8 e9 n9 sq10 e11 n11 e12 n12 e13 n13 e14 n14 e15 n15 n16 r16 n17 e17 n18 s8 s9 s10 s11 s12 s13 s14 s15 s16 s17 s18 z8 z9 z10 z11 z12 z13 z14 z15 z16 z17 g7 p10 p7 b7 b27 p6 b6 b26 y0 y1 y2 y3 p5 b5 b25
      refine lcList (K := K) (fun _ => .bool true) (SqL.of e18) (by show 18 ≤ 100000; decide) (fun _ _ => rfl) (fun _ => rfl) (fun j x H5 Q5 hj hx s5 hq => ?_) (fun D H5 zs nD s5 eD hall => ?_)
      · obtain ⟨b, t, ha, ht⟩ := ((all x (List.mem_of_getElem? hx)).same s5).ex
        have hp5 := hp18.same s5
        have hd5 := hd18.up s5
        clear all e18 sq18 hp18 hd18
        walk_at "go"
        exact hq _ _ (by assumption) (.bl true)
      · have e2 := trues hall
        subst e2
        walk_at "go"
        refine go_all (SqL.of eD) ?_
        rw [trues_all]
        have hp5 := hp18.same s5
        have hd5 := hd18.up s5
        have p5 := p18.same s5
        have sq5 := Same.tup s5 sq18
        have b5 := b18.trans (Bu.of s5 p)
        clear all e18 sq18 hp18 hd18 p18 b18 s5 eD nD hall
        walk_at "go"
        rename_i L6 xs6 J6' s6 e6 d6
        have hp6 := hp5.same s6
        have hd6 := hd5.up s6
        have p6 := p5.same s6
        have sq6 := Same.tup s6 sq5
        have b6 := b5.trans (Bu.of s6 p)
        have S32 := hok.S32 ns.length
        have xl : xs6.length = Pm.S rs ns.length := by rw [d6.len]; simp [dKids]
        clear hp5 hd5 p5 sq5 b5 s6
        refine lcList (K := K) (fun _ => .bool true) (SqL.of e6) (by omega) (fun _ _ => rfl) (fun _ => rfl) (fun j x H6 Q6 hj hx s6 hq => ?_) (fun D H6 ys nD s6 eD hall => ?_)
        · obtain ⟨d, h1, h2⟩ := (d6.up s6).get hx
          obtain ⟨g, hg, rfl⟩ := List.mem_map.mp (List.mem_of_getElem? h1)
          have hg' := List.mem_range.mp hg
          have p6' := p6.same s6
          have hp6' := hp6.same s6
          have hd6' := hd6.up s6
          obtain ⟨cb, rfl, csq⟩ := nmE h2
          obtain ⟨b, t, ha, ht⟩ := ((thn_row (P := P) (w := w) (mg := mg) (base := base) (rs := rs) (row_nm p6' csq (by simp; omega) fun n hn => (List.mem_append.mp hn).elim (ns32 n) fun h => by rw [List.mem_singleton.mp h]; omega)).same (dl_same p H6)).ex
          clear e6 d6 p6 hp6 hd6 sq6 b6 hx h1 h2
          walk_at "go"
          exact hq _ _ (by assumption) (.bl true)
        · have e2 := trues hall
          subst e2
          walk_at "go"
          refine go_all (SqL.of eD) ?_
          rw [trues_all]
          have hp7 := hp6.same s6
          have hd7 := hd6.up s6
          have p7 := p6.same s6
          have sq7 := Same.tup s6 sq6
          have b7 := b6.trans (Bu.of s6 p)
          have c0 := hok.cnt_pos 0 ns.length
          have c1 := hok.cnt_pos 1 ns.length
          clear e6 d6 p6 hp6 hd6 sq6 b6 s6 eD nD hall
          walk_at "go"
          rename_i T8 J8 n8 s8 e8
          refine ⟨tm, .ref T8, rs, ns.length, 0, 0, by rw [vNm_len], hp7.same s8, by omega, .tup (SqT.of e8) (.cons (.int _) (.cons (.int _) .nil)), c0, c1, fun t J9 s9 d9 => ?_⟩
          have s89 := s8.trans s9
          have p9 := p7.same s89
          obtain ⟨cb, rfl, csq⟩ := nmE d9
          have l9 := Pm.name_len rs ns.length 0 0
          obtain ⟨b, t, ha, ht⟩ := ((thn_row (P := P) (w := w) (mg := mg) (base := base) (rs := rs) (row_nm p9 csq (by omega) fun n hn => name_small hok _ _ _ n hn)).same (dl_same p J9)).ex
          have hp9 := hp7.same s89
          have hd9 := hd7.up s89
          clear hp7 hd7 d9 e8 sq7
          walk_at "go"
          rename_i J10 s10
          exact ⟨_, _, _, _, _, _, rfl, p9.same s10, b7.trans (Bu.of (s89.trans s10) p)⟩
    · rintro σ H3 ⟨v3, v4, v5, v6, v7, v8, rfl, p3, b3⟩
      walk_at "go"
      rename_i t1 J1 n1 s1 e1 t2 J2 n2 s2 e2 t3 J3 n3 s3 e3 t4 J4 n4 s4 e4 t5 J5 n5 s5 e5 t6 J6 n6 s6 e6 L7 J7 n7 s7 e7
      have z6 := s6.trans s7
      have z5 := s5.trans z6
      have z4 := s4.trans z5
      have z3 := s3.trans z4
      have z2 := s2.trans z3
      have z1 := s1.trans z2
      have sz := two_size (hok.rnd 0)
      have ask : ∀ (j : Nat) (x : V), [V.ref t1, V.ref t2, V.ref t3, V.ref t4, V.ref t5, V.ref t6][j]? = some x → Ask K J7 rs x ([true, true, false, false, true, true].getD j false) := by
        have one : ∀ {t : Addr} {y : V} {b : Bool}, J7 t = some (.tup [y]) → Thg K J7 y → okV rs 0 y = b → Ask K J7 rs (.ref t) b := fun {t y b} e th h => .inr ⟨t, [y], rfl, SqT.of e, fun x m => by rw [List.mem_singleton.mp m]; exact th, by show 1 ≤ 1000; decide, by
          rw [← h]
          show okV rs 0 y = ([0].all fun j => okV rs j ([y].getD j .non))
          simp⟩
        have i0 : okV rs 0 (.int ((0 : Nat) : Int)) = true := by
          show (decide (((0 : Nat) : Int) ≤ ((0 : Nat) : Int)) && decide (((0 : Nat) : Int) < ((Pm.size (Pm.rnd rs 0) : Nat) : Int))) = true
          rw [decide_eq_true (by omega), decide_eq_true (by omega)]
          rfl
        have i1 : okV rs 0 (.int ((1 : Nat) : Int)) = true := by
          show (decide (((0 : Nat) : Int) ≤ ((1 : Nat) : Int)) && decide (((1 : Nat) : Int) < ((Pm.size (Pm.rnd rs 0) : Nat) : Int))) = true
          rw [decide_eq_true (by omega), decide_eq_true (by omega)]
          rfl
        intro j x hx
        match j, hx with
        | 0, hx => cases Option.some.inj hx; exact one (z2 _ _ e1) trivial i0
        | 1, hx => cases Option.some.inj hx; exact one (z3 _ _ e2) trivial i1
        | 2, hx => cases Option.some.inj hx; exact one (z4 _ _ e3) (th_bl _) rfl
        | 3, hx => cases Option.some.inj hx; exact one (z5 _ _ e4) (th_bl _) rfl
        | 4, hx => cases Option.some.inj hx; exact one (z6 _ _ e5) trivial i0
        | 5, hx => cases Option.some.inj hx; exact one (s7 _ _ e6) trivial i1
        | n + 6, hx => simp at hx
      have hp7 := (hpl.bu b3 p2).same z1
      have p7 := p3.same z1
      have b7 : Bu p H J7 := b1.trans (b2.trans (b3.trans (Bu.of z1 p)))
      clear hl hpl p1 b1 p2 b2 p3 b3 e1 e2 e3 e4 e5 e6 n1 n2 n3 n4 n5 n6 n7 s1 s2 s3 s4 s5 s6 s7 z1 z2 z3 z4 z5 z6
      refine lcList (K := K) (fun j => .bool ([true, true, false, false, true, true].getD j false)) (SqL.of e7) (by show 6 ≤ 100000; decide) (fun _ _ => rfl) (fun _ => rfl) (fun j x H5 Q5 hj hx s5 hq => ?_) (fun D H5 ys nD s5 eD hall => ?_)
      · have ha := (ask j x hx).same s5
        have hp5 := hp7.same s5
        clear ask e7 hp7 p7 b7
        walk_at "go"
        exact hq _ _ (by assumption) (.bl _)
      · have hp5 := hp7.same s5
        have p5 := p7.same s5
        have b5 := b7.trans (Bu.of s5 p)
        clear ask e7 hp7 p7 b7
        walk_at "go"
        rename_i T8 J8 n8 s8 e8
        refine ⟨tm, .ref T8, rs, true, rfl, hp5.same s8, .inr ⟨T8, [], rfl, SqT.of e8, fun x m => by simp at m, by show 0 ≤ 1000; decide, rfl⟩, fun J9 s9 => ?_⟩
        walk_at "go"
        rename_i L10 J10 n10 s10 e10
        have z := s8.trans (s9.trans s10)
        have d1 : Dp K J10 (.ref D) (.list ([true, true, false, false, true, true].map PyData.bool)) := .lst (SqL.of (z _ _ eD)) (hall.up z)
        have d2 : Dp K J10 (.ref L10) (.list ([true, true, false, false, true, true].map PyData.bool)) := .lst (SqL.of e10) (DpAll.bools [true, true, false, false, true, true])
        have sh : SeqAt.shaped (.list ([true, true, false, false, true, true].map PyData.bool)) = true := shaped_of (by simp [PyData.canLay0, PyData.canLayAll0]) (by simp [PyData.depth, PyData.depthAll])
        refine go_eqD d1 d2 sh sh ?_
        rw [show PyData.eqv (.list ([true, true, false, false, true, true].map PyData.bool)) (.list ([true, true, false, false, true, true].map PyData.bool)) = true by decide]
        exact q _ (p5.same z) (b5.trans (Bu.of z p))
end
end T
set_option Elab.async false
set_option maxRecDepth 100000
set_option maxHeartbeats 4000000
namespace T
open PySem L2 Mv
abbrev s_law : Stmt := top 67
theorem sc_law : FnScope ["_law_script", "_law_k"] ["_law_script"] (defScope s_law) := ⟨rfl, rfl, rfl, by decide +kernel, rfl, by decide +kernel, by decide +kernel⟩
section
variable {P : Program} {w : World} {K : PySem.W.Frag} {mg : Str → Option Value} {base : Heap} {C AX : Addr}
def sp_law (K : PySem.W.Frag) : Sp := fun vs H Q _ => ∃ (a : Addr) (ns : List Int), vs = [.ref a] ∧ SqL K H a (ns.map V.int) ∧ ns.length ≤ 63 ∧ ∀ H', Q (.bl true) H'
theorem c_law {K : PySem.W.Frag} {a : Addr} {ns : List Int} {H : Hp} {Q : VK} {E : XK} (h0 : SqL K H a (ns.map V.int)) (h1 : ns.length ≤ 63) (q : ∀ H', Q (.bl true) H') : sp_law K [.ref a] H Q E := ⟨_, _, rfl, h0, h1, q⟩
local macro_rules | `(tactic| tb_rel) => `(tactic| repeat (first
  | with_reducible assumption
  | with_reducible exact Dp.int _
  | with_reducible exact Dp.str _
  | with_reducible exact Dp.bl _
  | with_reducible exact Dp.non
  | (with_reducible apply SqT.of; with_reducible assumption)
  | (with_reducible apply SqL.of; with_reducible assumption)
  | (with_reducible apply up_dp; with_reducible assumption)
  | (with_reducible apply up_sqt; with_reducible assumption)
  | (with_reducible apply up_sql; with_reducible assumption)
  | (with_reducible apply up_get; with_reducible assumption)
  | (with_reducible apply up_pot; with_reducible assumption)
  | with_reducible exact Same.refl _
  | with_reducible exact Bu.refl _ _
  | (with_reducible apply up_same; with_reducible assumption)
  | (with_reducible apply up_bu; with_reducible assumption)
  | (with_reducible apply bu_bu; with_reducible assumption)
  | (with_reducible apply free_of; with_reducible assumption)
  | (with_reducible apply mi_fr; with_reducible assumption; (focus (tb_rel; done)))
  | (with_reducible apply mi_dp; with_reducible assumption)
  | (with_reducible apply mi_sqt; with_reducible assumption)
  | (with_reducible apply mi_sql; with_reducible assumption)
  | (with_reducible apply mi_gett; with_reducible assumption)
  | (with_reducible apply mi_getl; with_reducible assumption)
  | (with_reducible apply mi_pot; with_reducible assumption)
  | (with_reducible apply mi_refl; with_reducible assumption; (focus (with_unfolding_all exact rfl)))
  | (with_reducible apply up_mi; with_reducible assumption)
  | (with_reducible apply mi_mi; with_reducible assumption)
  | (with_reducible apply mi_bu; with_reducible assumption)
  | (with_reducible apply bu_gett; with_reducible assumption; (focus (tb_rel; done)))
  | (with_reducible apply bu_geti; with_reducible assumption; (focus (tb_rel; done)))
  | (with_reducible apply bu_get; with_reducible assumption; (focus (tlg_ne; done)))
  | (with_reducible apply bu_sqt; with_reducible assumption; (focus (tb_rel; done)))
  | (with_reducible apply bu_sql; with_reducible assumption; (focus (tlg_ne; done)))
  | (with_reducible apply bu_dp; with_reducible assumption; (focus (tb_rel; done)); (focus (lcg_src; done)))
  | fail "up"))
local macro_rules | `(tactic| tlg_ne) => `(tactic| first
  | with_reducible assumption
  | (with_reducible apply pot_ne; with_reducible assumption; (focus (tb_rel; done)))
  | fail "ne")
local macro_rules | `(tactic| lcg_src) => `(tactic| first
  | with_reducible assumption
  | with_unfolding_all exact rfl
  | with_unfolding_all decide
  | with_unfolding_all exact Nat.ne_of_beq_eq_false rfl
  | (apply_assumption; done)
  | omega
  | (simp; done)
  | (simp; omega)
  | fail "sd")
local macro_rules | `(tactic| lcg_sub) => `(tactic| first
  | (unfold sizeLine; omega)
  | (simp only [List.length_cons, List.length_nil, List.length_append, List.length_map, List.length_replicate, List.length_take, List.length_drop]; unfold sizeLine; omega)
  | (simp; unfold sizeLine; omega)
  | fail "sz")
local macro_rules | `(tactic| nest_cls) => `(tactic| first
  | (tb_rel; done)
  | (with_reducible apply nmI; (focus (tb_rel; done)))
  | (with_reducible apply d_tup; (focus (tb_rel; done)); (focus (lsm_bools; done)))
  | (with_reducible apply d_lst; (focus (tb_rel; done)); (focus (lsm_bools; done)))
  | fail "dp")
local macro_rules | `(tactic| lsm_bools) => `(tactic| repeat (first
  | with_reducible exact DpAll.nil
  | with_reducible assumption
  | (with_reducible apply DpAll.cons; (focus (nest_cls; done)))
  | fail "dpa"))
local macro_rules | `(tactic| none_booked) => `(tactic| first | with_unfolding_all exact rfl | (with_reducible apply atI_nat; with_reducible assumption) | fail "ix")
local macro_rules | `(tactic| walk_at "go") => `(tactic| repeat (first
  | (focus (with_reducible refine go_var (v := ?_) ?_ ?_; rotate_left; (focus (with_unfolding_all exact rfl))))
  | with_reducible refine go_seq ?_
  | with_reducible refine go_cN ?_
  | with_reducible refine go_c ?_
  | with_reducible refine go_op ?_
  | with_reducible refine go_nil ?_
  | with_reducible refine go_cons ?_
  | with_reducible refine go_cb ?_
  | with_reducible refine go_call0 ?_
  | with_reducible refine go_asg ?_
  | (focus (with_reducible refine go_gname (σ' := ?_) ?_ ?_; rotate_left; (focus (simp only [List.set_cons_succ, List.set_cons_zero]; exact rfl))))
  | with_reducible refine go_par ?_
  | (focus (with_reducible refine go_par2 (σ' := ?_) ?_ ?_; rotate_left; (focus (simp only [List.set_cons_succ, List.set_cons_zero]; exact rfl))))
  | with_reducible refine go_ifs ?_
  | with_reducible refine go_test ?_
  | with_reducible refine go_tb ?_
  | with_reducible refine go_asb ?_
  | with_reducible refine go_asi ?_
  | with_reducible refine go_ret ?_
  | with_reducible refine go_retn ?_
  | with_reducible refine go_drop ?_
  | with_reducible refine go_next ?_
  | with_reducible refine go_and ?_
  | with_reducible refine go_or ?_
  | with_reducible refine go_not ?_
  | with_reducible refine go_andv ?_
  | with_reducible refine go_orv ?_
  | with_reducible refine go_notv ?_
  | with_reducible refine go_ife ?_
  | with_reducible refine go_chain ?_
  | with_reducible refine go_if1 ?_
  | with_reducible refine go_if0 ?_
  | with_reducible refine go_ifn1 ?_
  | with_reducible refine go_ifn0 ?_
  | (with_reducible apply go_ift; (focus (first | with_reducible rfl | with_reducible assumption | omega)))
  | (with_reducible apply go_ifnt; (focus (first | with_reducible rfl | with_reducible assumption | omega)))
  | (with_reducible apply go_iff; (focus (first | with_reducible assumption | omega)))
  | (with_reducible apply go_ifnf; (focus (first | with_reducible assumption | omega)))
  | with_reducible refine go_un ?_
  | with_reducible refine go_tup ?_
  | with_reducible refine go_lst ?_
  | (with_reducible apply go_newt; (focus (lcg_sub; done)); intros)
  | (with_reducible apply go_newl; (focus (lcg_sub; done)); intros)
  | with_reducible refine go_meth ?_
  | with_reducible refine go_for ?_
  | with_reducible refine go_lc ?_
  | with_reducible refine go_irng1 ?_
  | with_reducible refine go_irng2 ?_
  | with_reducible refine go_ilist ?_
  | with_reducible refine go_itup ?_
  | with_reducible refine go_izip ?_
  | with_reducible refine go_ienum ?_
  | (with_reducible apply go_rg1; (focus (lcg_src; done)))
  | (with_reducible apply go_rg2; (focus (lcg_src; done)); (focus (lcg_src; done)))
  | (with_reducible apply go_lsr; (focus (tb_rel; done)))
  | (with_reducible apply go_tpr; (focus (tb_rel; done)))
  | (with_reducible apply go_zpr; (focus (tb_rel; done)); (focus (tb_rel; done)))
  | (with_reducible apply go_zprT; (focus (tb_rel; done)); (focus (tb_rel; done)))
  | (with_reducible apply go_enrL; (focus (tb_rel; done)))
  | (with_reducible apply go_enrT; (focus (tb_rel; done)))
  | with_reducible refine go_prop ?_
  | with_reducible refine go_knr0 ?_
  | (with_reducible apply go_knr; (focus (with_unfolding_all exact rfl; done)); (focus (simp only [kSw2, kRev3, kId, List.nil_append, List.cons_append]; exact rfl)))
  | with_reducible refine go_mkn ?_
  | (with_reducible apply go_mkr; (focus (tb_rel; done)); (focus (with_unfolding_all exact rfl; done)))
  | with_reducible refine go_fld ?_
  | (with_reducible apply go_flr; (focus (tb_rel; done)); (focus (with_reducible assumption; done)); (focus (with_reducible assumption; done)); (focus (with_unfolding_all exact rfl; done)))
  | (with_reducible apply go_prr; (focus (tb_rel; done)))
  | (with_reducible apply go_mer; (focus (tb_rel; done)); (focus (with_unfolding_all exact rfl; done)))
  | with_reducible refine go_sfld ?_
  | (with_reducible apply go_sfr; (focus (tb_rel; done)); (focus (with_reducible assumption; done)); (focus (with_reducible assumption; done)); (focus (with_unfolding_all exact Nat.le_of_ble_eq_true rfl; done)); (focus (with_unfolding_all exact rfl; done)); intros)
  | with_reducible refine go_revt ?_
  | with_reducible refine go_make0 ?_
  | (focus (with_reducible refine go_aug (x := ?_) ?_ ?_; rotate_left; (focus (with_unfolding_all exact rfl))))
  | (focus (with_reducible refine go_augk (σ' := ?_) ?_ ?_; rotate_left; (focus (simp only [List.set_cons_succ, List.set_cons_zero]; exact rfl))))
  | with_reducible refine go_min2 ?_
  | with_reducible refine go_int1 ?_
  | with_reducible refine go_max2 ?_
  | with_reducible refine go_intB ?_
  | with_reducible refine go_absN ?_
  | with_reducible refine go_isN ?_
  | with_reducible refine go_notN ?_
  | (with_reducible apply go_rvt; (focus (tb_rel; done)); (focus (simp only [List.reverse_cons, List.reverse_nil, List.nil_append, List.cons_append]; exact rfl)); intros)
  | (with_reducible apply go_reprNm; (focus (tb_rel; done)); (focus (with_reducible assumption; done)))
  | (with_reducible apply go_reprPr; (focus (nest_cls; done)); (focus (lcg_src; done)); (focus (lcg_src; done)))
  | with_reducible refine go_sl ?_
  | with_reducible refine go_part ?_
  | with_reducible refine go_nopart ?_
  | (with_reducible apply go_gtup; (focus (tb_rel; done)); (focus (with_unfolding_all exact rfl; done)))
  | (with_reducible apply go_gunl; (focus (tb_rel; done)); (focus (with_unfolding_all exact rfl; done)))
  | with_reducible refine go_gcons ?_
  | with_reducible refine go_gnil ?_
  | with_reducible refine go_addN ?_
  | with_reducible refine go_ltN ?_
  | with_reducible refine go_leN ?_
  | with_reducible refine go_gtN ?_
  | with_reducible refine go_geN ?_
  | (with_reducible apply go_subN; (focus (omega; done)))
  | with_reducible refine go_rI0 ?_
  | (with_reducible apply go_mulN; (focus (omega; done)))
  | (with_reducible apply go_modN; (focus (omega; done)))
  | (with_reducible apply go_divN; (focus (omega; done)))
  | (with_reducible apply go_powN; (focus (with_unfolding_all decide; done)))
  | with_reducible refine go_rU ?_
  | with_reducible refine go_eqN ?_
  | with_reducible refine go_neN ?_
  | with_reducible refine go_isB ?_
  | with_reducible refine go_notB ?_
  | with_reducible refine go_eqS ?_
  | with_reducible refine go_neS ?_
  | with_reducible refine go_eqB ?_
  | with_reducible refine go_eqI ?_
  | with_reducible refine go_neI ?_
  | (with_reducible apply go_ixt; (focus (tb_rel; done)); (focus (none_booked; done)))
  | (with_reducible apply go_ixl; (focus (tb_rel; done)); (focus (none_booked; done)))
  | (with_reducible apply go_lent; (focus (tb_rel; done)))
  | (with_reducible apply go_lenNm; (focus (tb_rel; done)))
  | (with_reducible apply go_isiNm; (focus (tb_rel; done)))
  | (with_reducible apply go_lenl; (focus (tb_rel; done)))
  | (with_reducible apply go_catA; (focus (tb_rel; done)); (focus (tb_rel; done)); (focus (lcg_sub; done)); intros)
  | (with_reducible apply go_slaT; (focus (tb_rel; done)); intros)
  | (with_reducible apply go_slaD; (focus (tb_rel; done)); intros)
  | (with_reducible apply go_rep; (focus (tb_rel; done)); (focus (lcg_src; done)); intros)
  | (with_reducible apply go_tupofl; (focus (tb_rel; done)); intros)
  | (with_reducible apply go_sllT; (focus (tb_rel; done)); intros)
  | (with_reducible apply go_sllD; (focus (tb_rel; done)); intros)
  | (with_reducible apply go_cat; (focus (tb_rel; done)); (focus (tb_rel; done)); (focus (lcg_sub; done)); intros)
  | (with_reducible apply c_law; (focus (tb_rel; done)); (focus (lcg_src; done)); intros)
  | (with_reducible apply c_right; (focus (tb_rel; done)); intros)
  | fail "go"))
theorem ok_law {f : Addr} {fd : FuncData} (F : Df K "law" "law" s_law [] f fd) (B : Blt mg) (cPot : Ca P w K mg base 1 "_law_pot" (sp_pot K) []) (cRight : Cg P w K mg base 10 "_law_right" ["_law_pot_here"] sp_right []) :
    FnG P w K mg base 11 f fd ["_law_script"] (sp_law K) := by
  refine dfG F sc_law (fun vs H Q E h => ?_) (fun cdv A outer s H vs Q E hr ga h => ?_)
  · obtain ⟨a, ns, rfl, _⟩ := h
    rfl
  · obtain ⟨a, ns, rfl, hS, hlen, q⟩ := h
    have hl : (ns.map V.int).length ≤ 63 := by rw [List.length_map]; exact hlen
    refine ⟨_, (pss_one (ps_ret (pe_callB (cr_all' rfl) (by rfl) B.all bt_all (pa_cons (pe_lc (own := [("_law_k", 1)]) (by rfl) sc_law.nd (pi_range1 (by rfl) B.range (pa_cons (pe_callB (call_max2' rfl) (by rfl) B.max bt_max (pa_cons pe_int (pa_cons (pe_callB (call_min2' rfl) (by rfl) B.min bt_min (pa_cons pe_int (pa_cons (pe_callB call_len_seq' (by rfl) B.len bt_len (pa_cons (pv 0) pa_nil)) pa_nil))) pa_nil))) pa_nil)) (blkOk_by (own := [("_law_k", 1)]) (N := ["_law_script", "_law_k"]) (sc := defScope s_law) (by decide +kernel)) (fun _ _ _ _ _ => (pg_name (i := 1) sc_law.nd rfl (Or.inl rfl))) (fun _ _ _ _ _ => pts_nil) (fun _ _ _ _ _ => (pe_g cRight hr ga (by decide) (by rfl) (pa_cons (pe_ca cPot hr (by decide) (by rfl) (pa_cons (pv 0) (pa_cons (pv 1) pa_nil))) pa_nil)))) pa_nil)))), ?_⟩
    refine go_start (σ := [some _, none]) rfl ?_
    walk_at "go"
    refine lcRange (K := K) (fun _ => .bool true) (by omega) (fun _ _ => rfl) (fun _ => rfl) (fun i H1 Q' hi s1 hq => ?_) (fun D H1 ys nD s1 eD hall => ?_)
    · walk_at "go"
      refine ⟨a, ns, i, by simp, s1.seq hS, by omega, fun p hp x y hx hy hy2 => ?_⟩
      walk_at "go"
      refine ⟨p, rfl, ⟨x, y, upd_same, hx, hy, hy2⟩, fun H2 hp2 b2 => ?_⟩
      exact hq _ _ (fun c o ec => b2 c o (ne_of_none ec hp) (same_new hp _ _ ec)) (.bl true)
    · have e2 := trues hall
      subst e2
      walk_at "go"
      refine go_all (SqL.of eD) ?_
      rw [trues_all]
      exact q _
end
end T
set_option Elab.async false
set_option maxRecDepth 100000
set_option maxHeartbeats 4000000
namespace T
open PySem L2 Mv
open He (ga ma)
theorem all_mk {P : Program} {w : World} {K : PySem.W.Frag} {h : Heap} {mg : Str → Option Value} {fa : Addr} (X : K.In h) (Gn : h.Ns mainGlobals mg) (hfa : mg "law" = some (.ref fa))
    {C : Addr} {t_EAST : Tok} {t_NORTH : Tok} {t_FEWEST_PARTS : Tok} {t_MOST_PARTS : Tok} {t_MOST_FINE : Tok} {AX : Addr} {t1AX : Tok} {t2AX : Tok} {nAX : Nat} {sAX : Array (Option Value)} {u1C : Tok} {u2C : Tok} {u3C : Tok} {CR : Addr} {f_law : Addr} {fd_law : FuncData} {f_pot : Addr} {fd_pot : FuncData} {f_right : Addr} {fd_right : FuncData} {f_rrepr : Addr} {fd_rrepr : FuncData} {f_prepr : Addr} {fd_prepr : FuncData} {f_draw : Addr} {fd_draw : FuncData} {f_pick : Addr} {fd_pick : FuncData} {f_rounds : Addr} {fd_rounds : FuncData} {f_mixed : Addr} {fd_mixed : FuncData} {f_real : Addr} {fd_real : FuncData} {f_init : Addr} {fd_init : FuncData} {f_wantrounds : Addr} {fd_wantrounds : FuncData} {f_isround : Addr} {fd_isround : FuncData} {f_islist : Addr} {fd_islist : FuncData} {f_iscut : Addr} {fd_iscut : FuncData} {f_isaxis : Addr} {fd_isaxis : FuncData} {f_areparts : Addr} {fd_areparts : FuncData} {f_isint : Addr} {fd_isint : FuncData} {f_along1 : Addr} {fd_along1 : FuncData} {f_prod : Addr} {fd_prod : FuncData} {f_glyphs : Addr} {fd_glyphs : FuncData} {f_size : Addr} {fd_size : FuncData} {f_turnedrow : Addr} {fd_turnedrow : FuncData} {f_rinit : Addr} {fd_rinit : FuncData} {f_compart : Addr} {fd_compart : FuncData} {f_asked : Addr} {fd_asked : FuncData} {f_isright : Addr} {fd_isright : FuncData} {f_isname2 : Addr} {fd_isname2 : FuncData} {f_wantplan : Addr} {fd_wantplan : FuncData} {f_hasform2 : Addr} {fd_hasform2 : FuncData} {f_count : Addr} {fd_count : FuncData} {f_phaseat : Addr} {fd_phaseat : FuncData} {f_plen : Addr} {fd_plen : FuncData} {f_signs : Addr} {fd_signs : FuncData} {f_parts : Addr} {fd_parts : FuncData} {f_wantphase : Addr} {fd_wantphase : FuncData} {f_children : Addr} {fd_children : FuncData} {f_wantname : Addr} {fd_wantname : FuncData} {f_hasform : Addr} {fd_hasform : FuncData} {f_nameof : Addr} {fd_nameof : FuncData} {f_wantfine : Addr} {fd_wantfine : FuncData} {f_ispair : Addr} {fd_ispair : FuncData} {f_pcounts : Addr} {fd_pcounts : FuncData} {f_signsof : Addr} {fd_signsof : FuncData} {f_signat : Addr} {fd_signat : FuncData} {f_signin : Addr} {fd_signin : FuncData}
    (hn : PySem.W.specialIn K (.builtin "object.__class__") "__get__" = some (some (.builtin "getset_descriptor.__get__")))
    (htk : PySem.W.takesIn K (.builtin "object.__class__") = some true)
    (z_len : PySem.W.nsIn K mainGlobals "len" = some none)
    (z_abs : PySem.W.nsIn K mainGlobals "abs" = some none)
    (z_max : PySem.W.nsIn K mainGlobals "max" = some none)
    (z_min : PySem.W.nsIn K mainGlobals "min" = some none)
    (z_int : PySem.W.nsIn K mainGlobals "int" = some none)
    (z_bool : PySem.W.nsIn K mainGlobals "bool" = some none)
    (z_str : PySem.W.nsIn K mainGlobals "str" = some none)
    (z_repr : PySem.W.nsIn K mainGlobals "repr" = some none)
    (z_all : PySem.W.nsIn K mainGlobals "all" = some none)
    (z_any : PySem.W.nsIn K mainGlobals "any" = some none)
    (z_range : PySem.W.nsIn K mainGlobals "range" = some none)
    (z_divmod : PySem.W.nsIn K mainGlobals "divmod" = some none)
    (z_isinstance : PySem.W.nsIn K mainGlobals "isinstance" = some none)
    (z_list : PySem.W.nsIn K mainGlobals "list" = some none)
    (z_tuple : PySem.W.nsIn K mainGlobals "tuple" = some none)
    (z_dict : PySem.W.nsIn K mainGlobals "dict" = some none)
    (z_enumerate : PySem.W.nsIn K mainGlobals "enumerate" = some none)
    (z_zip : PySem.W.nsIn K mainGlobals "zip" = some none)
    (z_sorted : PySem.W.nsIn K mainGlobals "sorted" = some none)
    (z_sum : PySem.W.nsIn K mainGlobals "sum" = some none)
    (z_type : PySem.W.nsIn K mainGlobals "type" = some none)
    (g_C : PySem.W.nsIn K mainGlobals "Plan" = some (some (.ref C)))
    (pg_C : PySem.W.plainGet K C Str.empty = true)
    (hd_C : PySem.W.hasDictIn K C = true)
    (po_C : PySem.W.plainOver K C = true)
    (sa_C : PySem.W.findIn K (.ref C) "__setattr__" = some (some (.builtin "object.__setattr__")))
    (mk_C : PySem.W.makesIn K C = true)
    (kc_C : PySem.W.keepIn K (.ref C) = true)
    (ha_C : PySem.W.findIn K (.ref C) "__class__" = some (some (.builtin "object.__class__")))
    (hm_C : PySem.W.mroIn K C (.type "object") = some true)
    (me_C : PySem.W.kitOne K (.ref C) (.ref C) = some true)
    (ne_C : PySem.W.findIn K (.ref C) "__ne__" = some (some (.builtin "object.__ne__")))
    (n_own_rounds : PySem.W.findIn K (.ref C) "own_rounds" = some none)
    (n_own_parts : PySem.W.findIn K (.ref C) "own_parts" = some none)
    (n_own_growth : PySem.W.findIn K (.ref C) "own_growth" = some none)
    (v_EAST : PySem.W.nsIn K mainGlobals "EAST" = some (some (.str "east" t_EAST)))
    (v_NORTH : PySem.W.nsIn K mainGlobals "NORTH" = some (some (.str "north" t_NORTH)))
    (v_FEWEST_PARTS : PySem.W.nsIn K mainGlobals "FEWEST_PARTS" = some (some (.int 2 t_FEWEST_PARTS)))
    (v_MOST_PARTS : PySem.W.nsIn K mainGlobals "MOST_PARTS" = some (some (.int 4 t_MOST_PARTS)))
    (v_MOST_FINE : PySem.W.nsIn K mainGlobals "MOST_FINE" = some (some (.int 1000 t_MOST_FINE)))
    (v_AXES : PySem.W.nsIn K mainGlobals "AXES" = some (some (.ref AX)))
    (l_AX : K.lookup AX = some ⟨.type "tuple", none, .seq #[.str "east" t1AX, .str "north" t2AX] nAX, sAX⟩)
    (t_C : PySem.W.typeIn K (.ref C) = some (.type "type"))
    (ga_C : PySem.W.specialIn K (.ref C) "__getattribute__" = some (some (.builtin "type.__getattribute__")))
    (rd_C : PySem.W.readsIn K C (.type "type") = true)
    (cv_MOST_ROUNDS : PySem.W.findCls K (.ref C) (.type "type") "MOST_ROUNDS" = some (.val (.int 3 u1C)))
    (cv_MOST_CUTS : PySem.W.findCls K (.ref C) (.type "type") "MOST_CUTS" = some (.val (.int 5 u2C)))
    (cv_MOST_SIGNS : PySem.W.findCls K (.ref C) (.type "type") "MOST_SIGNS" = some (.val (.int 32 u3C)))
    (g_CR : PySem.W.nsIn K mainGlobals "Ratio" = some (some (.ref CR)))
    (pg_CR : PySem.W.plainGet K CR Str.empty = true)
    (hd_CR : PySem.W.hasDictIn K CR = true)
    (po_CR : PySem.W.plainOver K CR = true)
    (sa_CR : PySem.W.findIn K (.ref CR) "__setattr__" = some (some (.builtin "object.__setattr__")))
    (mk_CR : PySem.W.makesIn K CR = true)
    (kc_CR : PySem.W.keepIn K (.ref CR) = true)
    (ha_CR : PySem.W.findIn K (.ref CR) "__class__" = some (some (.builtin "object.__class__")))
    (hm_CR : PySem.W.mroIn K CR (.type "object") = some true)
    (me_CR : PySem.W.kitOne K (.ref CR) (.ref CR) = some true)
    (ne_CR : PySem.W.findIn K (.ref CR) "__ne__" = some (some (.builtin "object.__ne__")))
    (n_own_top : PySem.W.findIn K (.ref CR) "own_top" = some none)
    (n_own_bottom : PySem.W.findIn K (.ref CR) "own_bottom" = some none)
    (ki_CR : PySem.W.kitOne K (.ref CR) (.type "int") = some false)
    (kb_CR : PySem.W.kitOne K (.ref CR) (.type "bool") = some false)
    (oi_CR : PySem.W.kitOne K (.type "int") (.ref CR) = some false)
    (tt_C : PySem.W.kitOne K (.ref C) (.type "tuple") = some false)
    (tt_CR : PySem.W.kitOne K (.ref CR) (.type "tuple") = some false)
    (a_law : PySem.W.nsIn K mainGlobals "law" = some (some (.ref f_law)))
    (F_law : Df K "law" "law" s_law [] f_law fd_law)
    (a_pot : PySem.W.nsIn K mainGlobals "_law_pot" = some (some (.ref f_pot)))
    (F_pot : Df K "_law_pot" "_law_pot" s_pot [] f_pot fd_pot)
    (a_right : PySem.W.nsIn K mainGlobals "_law_right" = some (some (.ref f_right)))
    (F_right : Df K "_law_right" "_law_right" s_right [] f_right fd_right)
    (a_rrepr : PySem.W.findIn K (.ref CR) "__repr__" = some (some (.ref f_rrepr)))
    (i_rrepr : PySem.W.isFn K (.ref f_rrepr) = true)
    (F_rrepr : Df K "__repr__" "Ratio.__repr__" s_rrepr [] f_rrepr fd_rrepr)
    (a_prepr : PySem.W.findIn K (.ref C) "__repr__" = some (some (.ref f_prepr)))
    (i_prepr : PySem.W.isFn K (.ref f_prepr) = true)
    (F_prepr : Df K "__repr__" "Plan.__repr__" s_prepr [] f_prepr fd_prepr)
    (a_draw : PySem.W.nsIn K mainGlobals "_law_draw" = some (some (.ref f_draw)))
    (F_draw : Df K "_law_draw" "_law_draw" s_draw [] f_draw fd_draw)
    (a_pick : PySem.W.nsIn K mainGlobals "_law_pick" = some (some (.ref f_pick)))
    (F_pick : Df K "_law_pick" "_law_pick" s_pick [] f_pick fd_pick)
    (a_rounds : PySem.W.nsIn K mainGlobals "_law_rounds" = some (some (.ref f_rounds)))
    (F_rounds : Df K "_law_rounds" "_law_rounds" s_rounds [] f_rounds fd_rounds)
    (a_mixed : PySem.W.nsIn K mainGlobals "_law_mixed" = some (some (.ref f_mixed)))
    (F_mixed : Df K "_law_mixed" "_law_mixed" s_mixed [] f_mixed fd_mixed)
    (a_real : PySem.W.nsIn K mainGlobals "_law_real" = some (some (.ref f_real)))
    (F_real : Df K "_law_real" "_law_real" s_real [] f_real fd_real)
    (a_init : PySem.W.findIn K (.ref C) "__init__" = some (some (.ref f_init)))
    (i_init : PySem.W.isFn K (.ref f_init) = true)
    (F_init : Df K "__init__" "Plan.__init__" s_init [] f_init fd_init)
    (a_wantrounds : PySem.W.nsIn K mainGlobals "want_rounds" = some (some (.ref f_wantrounds)))
    (F_wantrounds : Df K "want_rounds" "want_rounds" s_wantrounds [] f_wantrounds fd_wantrounds)
    (a_isround : PySem.W.nsIn K mainGlobals "is_round" = some (some (.ref f_isround)))
    (F_isround : Df K "is_round" "is_round" s_isround [] f_isround fd_isround)
    (a_islist : PySem.W.nsIn K mainGlobals "is_list" = some (some (.ref f_islist)))
    (F_islist : Df K "is_list" "is_list" s_islist [] f_islist fd_islist)
    (a_iscut : PySem.W.nsIn K mainGlobals "is_cut" = some (some (.ref f_iscut)))
    (F_iscut : Df K "is_cut" "is_cut" s_iscut [] f_iscut fd_iscut)
    (a_isaxis : PySem.W.nsIn K mainGlobals "is_axis" = some (some (.ref f_isaxis)))
    (F_isaxis : Df K "is_axis" "is_axis" s_isaxis [] f_isaxis fd_isaxis)
    (a_areparts : PySem.W.nsIn K mainGlobals "are_parts" = some (some (.ref f_areparts)))
    (F_areparts : Df K "are_parts" "are_parts" s_areparts [] f_areparts fd_areparts)
    (a_isint : PySem.W.nsIn K mainGlobals "is_integer" = some (some (.ref f_isint)))
    (F_isint : Df K "is_integer" "is_integer" s_isint [] f_isint fd_isint)
    (a_along1 : PySem.W.nsIn K mainGlobals "parts_along" = some (some (.ref f_along1)))
    (F_along1 : Df K "parts_along" "parts_along" s_along1 [] f_along1 fd_along1)
    (a_prod : PySem.W.findIn K (.ref C) "product_of" = some (some (.ref f_prod)))
    (i_prod : PySem.W.isFn K (.ref f_prod) = true)
    (F_prod : Df K "product_of" "Plan.product_of" s_prod [] f_prod fd_prod)
    (a_glyphs : PySem.W.nsIn K mainGlobals "_law_glyphs" = some (some (.ref f_glyphs)))
    (F_glyphs : Df K "_law_glyphs" "_law_glyphs" s_glyphs [] f_glyphs fd_glyphs)
    (a_size : PySem.W.nsIn K mainGlobals "_law_size" = some (some (.ref f_size)))
    (F_size : Df K "_law_size" "_law_size" s_size [] f_size fd_size)
    (a_turnedrow : PySem.W.nsIn K mainGlobals "_law_turned" = some (some (.ref f_turnedrow)))
    (F_turnedrow : Df K "_law_turned" "_law_turned" s_turnedrow [] f_turnedrow fd_turnedrow)
    (a_rinit : PySem.W.findIn K (.ref CR) "__init__" = some (some (.ref f_rinit)))
    (i_rinit : PySem.W.isFn K (.ref f_rinit) = true)
    (F_rinit : Df K "__init__" "Ratio.__init__" s_rinit [.int 1] f_rinit fd_rinit)
    (a_compart : PySem.W.nsIn K mainGlobals "common_part" = some (some (.ref f_compart)))
    (F_compart : Df K "common_part" "common_part" s_compart [] f_compart fd_compart)
    (a_asked : PySem.W.nsIn K mainGlobals "_law_asked" = some (some (.ref f_asked)))
    (F_asked : Df K "_law_asked" "_law_asked" s_asked [] f_asked fd_asked)
    (a_isright : PySem.W.nsIn K mainGlobals "_law_is_right" = some (some (.ref f_isright)))
    (F_isright : Df K "_law_is_right" "_law_is_right" s_isright [] f_isright fd_isright)
    (a_isname2 : PySem.W.nsIn K mainGlobals "is_name" = some (some (.ref f_isname2)))
    (F_isname2 : Df K "is_name" "is_name" s_isname [] f_isname2 fd_isname2)
    (a_wantplan : PySem.W.nsIn K mainGlobals "want_plan" = some (some (.ref f_wantplan)))
    (F_wantplan : Df K "want_plan" "want_plan" s_wantplan [] f_wantplan fd_wantplan)
    (a_hasform2 : PySem.W.nsIn K mainGlobals "has_name_form" = some (some (.ref f_hasform2)))
    (F_hasform2 : Df K "has_name_form" "has_name_form" s_hasform [] f_hasform2 fd_hasform2)
    (a_count : PySem.W.nsIn K mainGlobals "is_count" = some (some (.ref f_count)))
    (F_count : Df K "is_count" "is_count" s_count [] f_count fd_count)
    (a_phaseat : PySem.W.nsIn K mainGlobals "phase_at" = some (some (.ref f_phaseat)))
    (F_phaseat : Df K "phase_at" "phase_at" s_phaseat [] f_phaseat fd_phaseat)
    (a_plen : PySem.W.findIn K (.ref C) "__len__" = some (some (.ref f_plen)))
    (i_plen : PySem.W.isFn K (.ref f_plen) = true)
    (F_plen : Df K "__len__" "Plan.__len__" s_plen [] f_plen fd_plen)
    (a_signs : PySem.W.findIn K (.ref C) "signs" = some (some (.ref f_signs)))
    (i_signs : PySem.W.isFn K (.ref f_signs) = true)
    (F_signs : Df K "signs" "Plan.signs" s_signs [] f_signs fd_signs)
    (a_parts : PySem.W.findIn K (.ref C) "parts" = some (some (.ref f_parts)))
    (i_parts : PySem.W.isFn K (.ref f_parts) = true)
    (F_parts : Df K "parts" "Plan.parts" s_parts [] f_parts fd_parts)
    (a_wantphase : PySem.W.nsIn K mainGlobals "want_phase" = some (some (.ref f_wantphase)))
    (F_wantphase : Df K "want_phase" "want_phase" s_wantphase [] f_wantphase fd_wantphase)
    (a_children : PySem.W.nsIn K mainGlobals "children" = some (some (.ref f_children)))
    (F_children : Df K "children" "children" s_children [] f_children fd_children)
    (a_wantname : PySem.W.nsIn K mainGlobals "want_name" = some (some (.ref f_wantname)))
    (F_wantname : Df K "want_name" "want_name" s_wantname [] f_wantname fd_wantname)
    (a_hasform : PySem.W.nsIn K mainGlobals "has_name_form" = some (some (.ref f_hasform)))
    (F_hasform : Df K "has_name_form" "has_name_form" s_hasform [] f_hasform fd_hasform)
    (a_nameof : PySem.W.nsIn K mainGlobals "name_of" = some (some (.ref f_nameof)))
    (F_nameof : Df K "name_of" "name_of" s_nameof [] f_nameof fd_nameof)
    (a_wantfine : PySem.W.nsIn K mainGlobals "want_fineness" = some (some (.ref f_wantfine)))
    (F_wantfine : Df K "want_fineness" "want_fineness" s_wantfine [] f_wantfine fd_wantfine)
    (a_ispair : PySem.W.nsIn K mainGlobals "is_pair" = some (some (.ref f_ispair)))
    (F_ispair : Df K "is_pair" "is_pair" s_ispair [] f_ispair fd_ispair)
    (a_pcounts : PySem.W.findIn K (.ref C) "counts" = some (some (.ref f_pcounts)))
    (i_pcounts : PySem.W.isFn K (.ref f_pcounts) = true)
    (F_pcounts : Df K "counts" "Plan.counts" s_pcounts [] f_pcounts fd_pcounts)
    (a_signsof : PySem.W.nsIn K mainGlobals "signs_of" = some (some (.ref f_signsof)))
    (F_signsof : Df K "signs_of" "signs_of" s_signsof [] f_signsof fd_signsof)
    (a_signat : PySem.W.findIn K (.ref C) "sign_at" = some (some (.ref f_signat)))
    (i_signat : PySem.W.isFn K (.ref f_signat) = true)
    (F_signat : Df K "sign_at" "Plan.sign_at" s_signat [] f_signat fd_signat)
    (a_signin : PySem.W.nsIn K mainGlobals "sign_in" = some (some (.ref f_signin)))
    (F_signin : Df K "sign_in" "sign_in" s_signin [] f_signin fd_signin) :
    ∃ fd : FuncData, (∀ (s : Shared) (v : Value), BindsTo s fd ⟨[v], []⟩ [("_law_script", v)]) ∧ ∀ base : Heap, K.In base → base.Ns mainGlobals mg → FnG P w K mg base 11 fa fd ["_law_script"] (sp_law K) := by
  have B : Blt mg := ⟨PySem.W.mg_none_of X Gn z_len, PySem.W.mg_none_of X Gn z_abs, PySem.W.mg_none_of X Gn z_max, PySem.W.mg_none_of X Gn z_min, PySem.W.mg_none_of X Gn z_int, PySem.W.mg_none_of X Gn z_bool, PySem.W.mg_none_of X Gn z_str, PySem.W.mg_none_of X Gn z_repr, PySem.W.mg_none_of X Gn z_all, PySem.W.mg_none_of X Gn z_any, PySem.W.mg_none_of X Gn z_range, PySem.W.mg_none_of X Gn z_divmod, PySem.W.mg_none_of X Gn z_isinstance, PySem.W.mg_none_of X Gn z_list, PySem.W.mg_none_of X Gn z_tuple, PySem.W.mg_none_of X Gn z_dict, PySem.W.mg_none_of X Gn z_enumerate, PySem.W.mg_none_of X Gn z_zip, PySem.W.mg_none_of X Gn z_sorted, PySem.W.mg_none_of X Gn z_sum, PySem.W.mg_none_of X Gn z_type⟩
  have I_C : ClsI K C := ⟨⟨pg_C, hd_C, po_C, sa_C⟩, ha_C, hn, htk, hm_C, me_C, ne_C⟩
  have G : PlG K mg C AX := ⟨I_C, PySem.W.mg_of X Gn g_C, n_own_rounds, n_own_parts, n_own_growth, ⟨_, PySem.W.mg_of X Gn v_EAST⟩, ⟨_, PySem.W.mg_of X Gn v_NORTH⟩, PySem.W.mg_of X Gn v_AXES, fun H => .inr ⟨_, _, _, l_AX, rfl, rfl, by show 2 ≤ sizeLine; decide, .cons ⟨_, rfl⟩ (.cons ⟨_, rfl⟩ .nil)⟩, ⟨_, l_AX, rfl, rfl⟩, ⟨_, PySem.W.mg_of X Gn v_FEWEST_PARTS⟩, ⟨_, PySem.W.mg_of X Gn v_MOST_PARTS⟩, ⟨_, PySem.W.mg_of X Gn v_MOST_FINE⟩, ⟨_, _, ⟨rd_C, ga_C⟩, ⟨cv_MOST_ROUNDS, ⟨_, rfl⟩⟩⟩, ⟨_, _, ⟨rd_C, ga_C⟩, ⟨cv_MOST_CUTS, ⟨_, rfl⟩⟩⟩, ⟨_, _, ⟨rd_C, ga_C⟩, ⟨cv_MOST_SIGNS, ⟨_, rfl⟩⟩⟩⟩
  have I_CR : ClsI K CR := ⟨⟨pg_CR, hd_CR, po_CR, sa_CR⟩, ha_CR, hn, htk, hm_CR, me_CR, ne_CR⟩
  have GR : RtG K mg CR := ⟨I_CR, PySem.W.mg_of X Gn g_CR, n_own_top, n_own_bottom, ki_CR, kb_CR, oi_CR⟩
  have TT : TtG K C CR := ⟨tt_C, tt_CR⟩
  have b_pot := F_pot.bind (ps := ["_law_script", "_law_k"]) fun _ _ _ _ _ _ us hl => match us, hl with | [_, _], _ => rfl
  have b_right := F_right.bind (ps := ["_law_pot_here"]) fun _ _ _ _ _ _ us hl => match us, hl with | [_], _ => rfl
  have b_rrepr := F_rrepr.bind (ps := ["self"]) fun _ _ _ _ _ _ us hl => match us, hl with | [_], _ => rfl
  have b_prepr := F_prepr.bind (ps := ["self"]) fun _ _ _ _ _ _ us hl => match us, hl with | [_], _ => rfl
  have b_draw := F_draw.bind (ps := ["_law_pot_here", "_law_many"]) fun _ _ _ _ _ _ us hl => match us, hl with | [_, _], _ => rfl
  have b_pick := F_pick.bind (ps := ["_law_pot_here", "_law_some"]) fun _ _ _ _ _ _ us hl => match us, hl with | [_, _], _ => rfl
  have b_rounds := F_rounds.bind (ps := ["_law_pot_here"]) fun _ _ _ _ _ _ us hl => match us, hl with | [_], _ => rfl
  have b_mixed := F_mixed.bind (ps := ["_law_pot_here", "_law_some"]) fun _ _ _ _ _ _ us hl => match us, hl with | [_, _], _ => rfl
  have b_real := F_real.bind (ps := ["_law_pot_here", "_law_rounds_here"]) fun _ _ _ _ _ _ us hl => match us, hl with | [_, _], _ => rfl
  have b_wantrounds := F_wantrounds.bind (ps := ["rounds"]) fun _ _ _ _ _ _ us hl => match us, hl with | [_], _ => rfl
  have b_isround := F_isround.bind (ps := ["value"]) fun _ _ _ _ _ _ us hl => match us, hl with | [_], _ => rfl
  have b_islist := F_islist.bind (ps := ["value"]) fun _ _ _ _ _ _ us hl => match us, hl with | [_], _ => rfl
  have b_iscut := F_iscut.bind (ps := ["value"]) fun _ _ _ _ _ _ us hl => match us, hl with | [_], _ => rfl
  have b_isaxis := F_isaxis.bind (ps := ["value"]) fun _ _ _ _ _ _ us hl => match us, hl with | [_], _ => rfl
  have b_areparts := F_areparts.bind (ps := ["value"]) fun _ _ _ _ _ _ us hl => match us, hl with | [_], _ => rfl
  have b_isint := F_isint.bind (ps := ["value"]) fun _ _ _ _ _ _ us hl => match us, hl with | [_], _ => rfl
  have b_along1 := F_along1.bind (ps := ["cuts", "axis"]) fun _ _ _ _ _ _ us hl => match us, hl with | [_, _], _ => rfl
  have b_prod := F_prod.bind (ps := ["self", "many"]) fun _ _ _ _ _ _ us hl => match us, hl with | [_, _], _ => rfl
  have b_glyphs := F_glyphs.bind (ps := ["_law_pot_here", "_law_rounds_here", "_law_many"]) fun _ _ _ _ _ _ us hl => match us, hl with | [_, _, _], _ => rfl
  have b_size := F_size.bind (ps := ["_law_cuts"]) fun _ _ _ _ _ _ us hl => match us, hl with | [_], _ => rfl
  have b_turnedrow := F_turnedrow.bind (ps := ["_law_pot_here", "_law_rounds_here", "_law_glyphs_here"]) fun _ _ _ _ _ _ us hl => match us, hl with | [_, _, _], _ => rfl
  have b_compart := F_compart.bind (ps := ["one", "other"]) fun _ _ _ _ _ _ us hl => match us, hl with | [_, _], _ => rfl
  have b_asked := F_asked.bind (ps := ["_law_tome", "_law_rounds_here", "_law_thing"]) fun _ _ _ _ _ _ us hl => match us, hl with | [_, _, _], _ => rfl
  have b_isright := F_isright.bind (ps := ["_law_rounds_here", "_law_some"]) fun _ _ _ _ _ _ us hl => match us, hl with | [_, _], _ => rfl
  have b_isname2 := F_isname2.bind (ps := ["plan", "value"]) fun _ _ _ _ _ _ us hl => match us, hl with | [_, _], _ => rfl
  have b_wantplan := F_wantplan.bind (ps := ["value"]) fun _ _ _ _ _ _ us hl => match us, hl with | [_], _ => rfl
  have b_hasform2 := F_hasform2.bind (ps := ["plan", "value"]) fun _ _ _ _ _ _ us hl => match us, hl with | [_, _], _ => rfl
  have b_count := F_count.bind (ps := ["value"]) fun _ _ _ _ _ _ us hl => match us, hl with | [_], _ => rfl
  have b_phaseat := F_phaseat.bind (ps := ["plan", "position"]) fun _ _ _ _ _ _ us hl => match us, hl with | [_, _], _ => rfl
  have b_plen := F_plen.bind (ps := ["self"]) fun _ _ _ _ _ _ us hl => match us, hl with | [_], _ => rfl
  have b_signs := F_signs.bind (ps := ["self", "phase"]) fun _ _ _ _ _ _ us hl => match us, hl with | [_, _], _ => rfl
  have b_parts := F_parts.bind (ps := ["self", "phase"]) fun _ _ _ _ _ _ us hl => match us, hl with | [_, _], _ => rfl
  have b_wantphase := F_wantphase.bind (ps := ["plan", "value"]) fun _ _ _ _ _ _ us hl => match us, hl with | [_, _], _ => rfl
  have b_children := F_children.bind (ps := ["plan", "name"]) fun _ _ _ _ _ _ us hl => match us, hl with | [_, _], _ => rfl
  have b_wantname := F_wantname.bind (ps := ["plan", "value"]) fun _ _ _ _ _ _ us hl => match us, hl with | [_, _], _ => rfl
  have b_hasform := F_hasform.bind (ps := ["plan", "value"]) fun _ _ _ _ _ _ us hl => match us, hl with | [_, _], _ => rfl
  have b_nameof := F_nameof.bind (ps := ["plan", "f", "pair"]) fun _ _ _ _ _ _ us hl => match us, hl with | [_, _, _], _ => rfl
  have b_wantfine := F_wantfine.bind (ps := ["value"]) fun _ _ _ _ _ _ us hl => match us, hl with | [_], _ => rfl
  have b_ispair := F_ispair.bind (ps := ["plan", "f", "value"]) fun _ _ _ _ _ _ us hl => match us, hl with | [_, _, _], _ => rfl
  have b_pcounts := F_pcounts.bind (ps := ["self", "f"]) fun _ _ _ _ _ _ us hl => match us, hl with | [_, _], _ => rfl
  have b_signsof := F_signsof.bind (ps := ["plan", "f", "pair"]) fun _ _ _ _ _ _ us hl => match us, hl with | [_, _, _], _ => rfl
  have b_signat := F_signat.bind (ps := ["self", "phase", "pair"]) fun _ _ _ _ _ _ us hl => match us, hl with | [_, _, _], _ => rfl
  have b_signin := F_signin.bind (ps := ["cuts", "pair"]) fun _ _ _ _ _ _ us hl => match us, hl with | [_, _], _ => rfl
  have e := hfa.symm.trans (PySem.W.mg_of X Gn a_law)
  cases e
  have hb := FunD.bindsA (ps := ["_law_script"]) F_law fun _ _ _ _ _ _ us hl => match us, hl with | [_], _ => rfl
  refine ⟨fd_law, fun s v => hb s [v] rfl, fun base _ _ => ?_⟩
  have h0_cPot : Ca P w K mg base 1 "_law_pot" (sp_pot K) [] := ⟨_, _, _, _, ok_pot F_pot B, PySem.W.mg_of X Gn a_pot, F_pot.kp, b_pot, .nil⟩
  have h2_cRp : Op2 P w K mg base 1 CR "__repr__" (sp_rrepr CR) := ⟨_, _, _, ok_rrepr F_rrepr GR, b_rrepr, a_rrepr, i_rrepr⟩
  have h4_cPp : Op2G P w K mg base 2 C "__repr__" ["self"] (sp_prepr K C) := ⟨_, _, ok_prepr F_prepr B G, b_prepr, a_prepr, i_prepr⟩
  have h6_cDr : Ca P w K mg base 1 "_law_draw" sp_draw [] := ⟨_, _, _, _, ok_draw F_draw B, PySem.W.mg_of X Gn a_draw, F_draw.kp, b_draw, .nil⟩
  have h8_cPk : Ca P w K mg base 2 "_law_pick" (sp_pick K) [] := ⟨_, _, _, _, ok_pick F_pick B h6_cDr, PySem.W.mg_of X Gn a_pick, F_pick.kp, b_pick, .nil⟩
  have h10_cMx : Ca P w K mg base 2 "_law_mixed" (sp_mixed K) [] := ⟨_, _, _, _, ok_mixed F_mixed B h6_cDr, PySem.W.mg_of X Gn a_mixed, F_mixed.kp, b_mixed, .nil⟩
  have h10_cRo : Ca P w K mg base 3 "_law_rounds" (sp_rounds K) [] := ⟨_, _, _, _, ok_rounds F_rounds B h6_cDr h8_cPk h10_cMx, PySem.W.mg_of X Gn a_rounds, F_rounds.kp, b_rounds, .nil⟩
  have h14_cL : Ca P w K mg base 1 "is_list" (sp_islist K) [] := ⟨_, _, _, _, ok_islist F_islist B, PySem.W.mg_of X Gn a_islist, F_islist.kp, b_islist, .nil⟩
  have h16_cA : Ca P w K mg base 1 "is_axis" sp_isaxis [] := ⟨_, _, _, _, ok_isaxis F_isaxis B G, PySem.W.mg_of X Gn a_isaxis, F_isaxis.kp, b_isaxis, .nil⟩
  have h18_cI : Ca P w K mg base 1 "is_integer" (sp_isint K) [] := ⟨_, _, _, _, ok_isint F_isint B, PySem.W.mg_of X Gn a_isint, F_isint.kp, b_isint, .nil⟩
  have h18_cP : Ca P w K mg base 2 "are_parts" sp_areparts [] := ⟨_, _, _, _, ok_areparts F_areparts G h18_cI, PySem.W.mg_of X Gn a_areparts, F_areparts.kp, b_areparts, .nil⟩
  have h16_cC : Ca P w K mg base 3 "is_cut" (sp_iscut K) [] := ⟨_, _, _, _, ok_iscut F_iscut B h16_cA h18_cP, PySem.W.mg_of X Gn a_iscut, F_iscut.kp, b_iscut, .nil⟩
  have h14_cR : Ca P w K mg base 4 "is_round" (sp_isround K) [] := ⟨_, _, _, _, ok_isround F_isround B G h14_cL h16_cC, PySem.W.mg_of X Gn a_isround, F_isround.kp, b_isround, .nil⟩
  have h26_c1 : Ca P w K mg base 1 "parts_along" (sp_along1 K) [] := ⟨_, _, _, _, ok_along1 F_along1 , PySem.W.mg_of X Gn a_along1, F_along1.kp, b_along1, .nil⟩
  have h14_cWR : Ca P w K mg base 5 "want_rounds" (sp_wantrounds K) [] := ⟨_, _, _, _, ok_wantrounds F_wantrounds B G h14_cR h26_c1, PySem.W.mg_of X Gn a_wantrounds, F_wantrounds.kp, b_wantrounds, .nil⟩
  have h30_cPr : Me P w K mg base 1 C "product_of" (sp_prod K C) [] := ⟨_, _, _, _, I_C.cl, ⟨a_prod, i_prod, F_prod.kp⟩, ok_prod F_prod B G, b_prod, .nil⟩
  have h14_cPl : MaR P w K mg base 6 "Plan" C (spMk K C) := ⟨f_init, ⟨mk_C, a_init, i_init, kc_C⟩, ok_init F_init B G h14_cWR h26_c1 h30_cPr, G.mgC⟩
  have h14_cRe : Ca P w K mg base 8 "_law_real" (sp_real K C) [] := ⟨_, _, _, _, ok_real F_real B h6_cDr h14_cPl, PySem.W.mg_of X Gn a_real, F_real.kp, b_real, .nil⟩
  have h36_cSz : Ca P w K mg base 1 "_law_size" (sp_size K) [] := ⟨_, _, _, _, ok_size F_size , PySem.W.mg_of X Gn a_size, F_size.kp, b_size, .nil⟩
  have h36_cGl : Ca P w K mg base 2 "_law_glyphs" (sp_glyphs K) [] := ⟨_, _, _, _, ok_glyphs F_glyphs B h6_cDr h36_cSz, PySem.W.mg_of X Gn a_glyphs, F_glyphs.kp, b_glyphs, .nil⟩
  have h40_cCp : Ca P w K mg base 1 "common_part" sp_compart [] := ⟨_, _, _, _, ok_compart F_compart , PySem.W.mg_of X Gn a_compart, F_compart.kp, b_compart, .nil⟩
  have h40_cRt1 : Ma P w K mg base 2 "Ratio" CR (sp_rinit CR) [.int 1] := (by obtain ⟨ds, vs, bs⟩ := rinit_b1 F_rinit; exact ⟨⟨_, _, _, _, ⟨mk_CR, a_rinit, i_rinit, kc_CR⟩, ok_rinit F_rinit B GR h18_cI h40_cCp, GR.mgC, bs, vs⟩⟩)
  have h40_cTu : Ca P w K mg base 4 "_law_turned" (sp_turnedrow P w K mg base) [] := ⟨_, _, _, _, ok_turnedrow F_turnedrow B GR h2_cRp h6_cDr h8_cPk h36_cSz h40_cRt1, PySem.W.mg_of X Gn a_turnedrow, F_turnedrow.kp, b_turnedrow, .nil⟩
  have h46_cIr : Ca P w K mg base 2 "_law_is_right" (sp_isright K) [] := ⟨_, _, _, _, ok_isright F_isright B h36_cSz, PySem.W.mg_of X Gn a_isright, F_isright.kp, b_isright, .nil⟩
  have h48_cWpl : Ca P w K mg base 1 "want_plan" (sp_wantplan K C) [] := ⟨_, _, _, _, ok_wantplan F_wantplan B G, PySem.W.mg_of X Gn a_wantplan, F_wantplan.kp, b_wantplan, .nil⟩
  have h50_cCo : Ca P w K mg base 2 "is_count" (sp_count K) [] := ⟨_, _, _, _, ok_count F_count h18_cI, PySem.W.mg_of X Gn a_count, F_count.kp, b_count, .nil⟩
  have h52_cLen : Op2 P w K mg base 1 C "__len__" (sp_plen K C) := ⟨_, _, _, ok_plen F_plen B G, b_plen, a_plen, i_plen⟩
  have h52_cPh : Ca P w K mg base 3 "phase_at" (sp_phaseat K C) [] := ⟨_, _, _, _, ok_phaseat F_phaseat B h52_cLen, PySem.W.mg_of X Gn a_phaseat, F_phaseat.kp, b_phaseat, .nil⟩
  have h56_cWP : Ca P w K mg base 3 "want_phase" (sp_wantphase K C) [] := ⟨_, _, _, _, ok_wantphase F_wantphase B h50_cCo h52_cLen, PySem.W.mg_of X Gn a_wantphase, F_wantphase.kp, b_wantphase, .nil⟩
  have h56_cPa : Me P w K mg base 4 C "parts" (sp_parts K C) [] := ⟨_, _, _, _, I_C.cl, ⟨a_parts, i_parts, F_parts.kp⟩, ok_parts F_parts G h56_cWP, b_parts, .nil⟩
  have h56_cSi : Me P w K mg base 5 C "signs" (sp_signs K C) [] := ⟨_, _, _, _, I_C.cl, ⟨a_signs, i_signs, F_signs.kp⟩, ok_signs F_signs h56_cPa, b_signs, .nil⟩
  have h50_cHf : Ca P w K mg base 6 "has_name_form" (sp_hasform2 K C) [] := ⟨_, _, _, _, ok_hasform2 F_hasform2 B h50_cCo h52_cPh h56_cSi, PySem.W.mg_of X Gn a_hasform2, F_hasform2.kp, b_hasform2, .nil⟩
  have h48_cIn : Ca P w K mg base 8 "is_name" (sp_isname2 K C) [] := ⟨_, _, _, _, ok_isname2 F_isname2 h48_cWpl h50_cHf, PySem.W.mg_of X Gn a_isname2, F_isname2.kp, b_isname2, .nil⟩
  have h66_cInK : CaK P w K mg base 8 "is_name" (sp_isname2 K C) ["value", "plan"] kSw2 := ⟨_, _, _, _, ok_isname2 F_isname2 h48_cWpl h50_cHf, PySem.W.mg_of X Gn a_isname2, F_isname2.kp, F_isname2.kbn (ps := ["plan", "value"]) 0 ["value", "plan"] kSw2 kSw2_rel fun _ _ _ _ _ _ us ws h1 h2 => match us, ws, h1, h2 with | [], [_, _], _, _ => rfl⟩
  have h46_cAs : Cg P w K mg base 9 "_law_asked" ["_law_tome", "_law_rounds_here", "_law_thing"] (sp_asked P w K mg base C) [] := ⟨_, _, _, ok_asked F_asked B h46_cIr h48_cIn h66_cInK, PySem.W.mg_of X Gn a_asked, F_asked.kp, b_asked, .nil⟩
  have h69_cHf : Ca P w K mg base 6 "has_name_form" (sp_hasform K C) [] := ⟨_, _, _, _, ok_hasform F_hasform B h50_cCo h52_cPh h56_cSi, PySem.W.mg_of X Gn a_hasform, F_hasform.kp, b_hasform, .nil⟩
  have h69_cWn : Ca P w K mg base 7 "want_name" (sp_wantname K C) [] := ⟨_, _, _, _, ok_wantname F_wantname h69_cHf, PySem.W.mg_of X Gn a_wantname, F_wantname.kp, b_wantname, .nil⟩
  have h69_cCh : Ca P w K mg base 8 "children" (sp_children K C) [] := ⟨_, _, _, _, ok_children F_children B h48_cWpl h69_cWn h52_cPh h56_cSi, PySem.W.mg_of X Gn a_children, F_children.kp, b_children, .nil⟩
  have h75_cWf : Ca P w K mg base 3 "want_fineness" sp_wantfine [] := ⟨_, _, _, _, ok_wantfine F_wantfine G h50_cCo, PySem.W.mg_of X Gn a_wantfine, F_wantfine.kp, b_wantfine, .nil⟩
  have h77_cPc : Me P w K mg base 4 C "counts" (sp_pcounts K C) [] := ⟨_, _, _, _, I_C.cl, ⟨a_pcounts, i_pcounts, F_pcounts.kp⟩, ok_pcounts F_pcounts h75_cWf h30_cPr, b_pcounts, .nil⟩
  have h77_cIp : Ca P w K mg base 5 "is_pair" (sp_ispair K C) [] := ⟨_, _, _, _, ok_ispair F_ispair B h50_cCo h77_cPc, PySem.W.mg_of X Gn a_ispair, F_ispair.kp, b_ispair, .nil⟩
  have h81_cSin : Ca P w K mg base 1 "sign_in" (sp_signin K) [] := ⟨_, _, _, _, ok_signin F_signin B G, PySem.W.mg_of X Gn a_signin, F_signin.kp, b_signin, .nil⟩
  have h81_cSa : Me P w K mg base 4 C "sign_at" (sp_signat K C) [] := ⟨_, _, _, _, I_C.cl, ⟨a_signat, i_signat, F_signat.kp⟩, ok_signat F_signat B G h56_cWP h50_cCo h81_cSin, b_signat, .nil⟩
  have h81_cSof : Ca P w K mg base 5 "signs_of" (sp_signsof K C) [] := ⟨_, _, _, _, ok_signsof F_signsof B h52_cPh h56_cPa h81_cSa, PySem.W.mg_of X Gn a_signsof, F_signsof.kp, b_signsof, .nil⟩
  have h75_cNo : Ca P w K mg base 6 "name_of" (sp_nameof K C) [] := ⟨_, _, _, _, ok_nameof F_nameof h48_cWpl h75_cWf h77_cIp h81_cSof, PySem.W.mg_of X Gn a_nameof, F_nameof.kp, b_nameof, .nil⟩
  have h89_cRt : Ma P w K mg base 2 "Ratio" CR (sp_rinit CR) [] := (by obtain ⟨ds, vs, bs⟩ := rinit_b2 F_rinit; exact ⟨⟨_, _, _, _, ⟨mk_CR, a_rinit, i_rinit, kc_CR⟩, ok_rinit F_rinit B GR h18_cI h40_cCp, GR.mgC, bs, vs⟩⟩)
  have h2_cRight : Cg P w K mg base 10 "_law_right" ["_law_pot_here"] sp_right [] := ⟨_, _, _, ok_right F_right B G GR TT h2_cRp h4_cPp h6_cDr h8_cPk h10_cRo h14_cRe h36_cGl h40_cTu h46_cAs h48_cIn h69_cCh h75_cNo h89_cRt, PySem.W.mg_of X Gn a_right, F_right.kp, b_right, .nil⟩
  exact ok_law F_law B h0_cPot h2_cRight
end T
set_option Elab.async false
set_option maxRecDepth 100000
set_option maxHeartbeats 4000000
namespace T
open PySem L2 Mv
open He (ga ma)
open T0 hiding top
theorem facts {P : Program} {w : World} {K : PySem.W.Frag} {h : Heap} {mg : Str → Option Value} {fa : Addr} (X : K.In h) (Gn : h.Ns mainGlobals mg) (hfa : mg "law" = some (.ref fa)) (c : SaM fcs dfs K) :
    ∃ fd : FuncData, (∀ (s : Shared) (v : Value), BindsTo s fd ⟨[v], []⟩ [("_law_script", v)]) ∧ ∀ base : Heap, K.In base → base.Ns mainGlobals mg → FnG P w K mg base 11 fa fd ["_law_script"] (sp_law K) := by
  obtain ⟨t_EAST, v_EAST⟩ := strB_ok (c.fact 37 (f := q37) rfl)
  obtain ⟨t_NORTH, v_NORTH⟩ := strB_ok (c.fact 38 (f := q38) rfl)
  obtain ⟨t_FEWEST_PARTS, v_FEWEST_PARTS⟩ := intB_ok (c.fact 39 (f := q39) rfl)
  obtain ⟨t_MOST_PARTS, v_MOST_PARTS⟩ := intB_ok (c.fact 40 (f := q40) rfl)
  obtain ⟨t_MOST_FINE, v_MOST_FINE⟩ := intB_ok (c.fact 41 (f := q41) rfl)
  obtain ⟨t1AX, t2AX, nAX, sAX, l_AX⟩ := tup2B_ok (c.fact 43 (f := q43) rfl)
  obtain ⟨u1C, cv_MOST_ROUNDS⟩ := cvB_ok (c.fact 47 (f := q47) rfl)
  obtain ⟨u2C, cv_MOST_CUTS⟩ := cvB_ok (c.fact 48 (f := q48) rfl)
  obtain ⟨u3C, cv_MOST_SIGNS⟩ := cvB_ok (c.fact 49 (f := q49) rfl)
  obtain ⟨fd_law, F_law⟩ := c.def_ 0 (d := d_law) rfl
  obtain ⟨fd_pot, F_pot⟩ := c.def_ 1 (d := d_pot) rfl
  obtain ⟨fd_right, F_right⟩ := c.def_ 2 (d := d_right) rfl
  obtain ⟨fd_rrepr, F_rrepr⟩ := c.def_ 3 (d := d_rrepr) rfl
  obtain ⟨fd_prepr, F_prepr⟩ := c.def_ 4 (d := d_prepr) rfl
  obtain ⟨fd_draw, F_draw⟩ := c.def_ 5 (d := d_draw) rfl
  obtain ⟨fd_pick, F_pick⟩ := c.def_ 6 (d := d_pick) rfl
  obtain ⟨fd_rounds, F_rounds⟩ := c.def_ 7 (d := d_rounds) rfl
  obtain ⟨fd_mixed, F_mixed⟩ := c.def_ 8 (d := d_mixed) rfl
  obtain ⟨fd_real, F_real⟩ := c.def_ 9 (d := d_real) rfl
  obtain ⟨fd_init, F_init⟩ := c.def_ 10 (d := d_init) rfl
  obtain ⟨fd_wantrounds, F_wantrounds⟩ := c.def_ 11 (d := d_wantrounds) rfl
  obtain ⟨fd_isround, F_isround⟩ := c.def_ 12 (d := d_isround) rfl
  obtain ⟨fd_islist, F_islist⟩ := c.def_ 13 (d := d_islist) rfl
  obtain ⟨fd_iscut, F_iscut⟩ := c.def_ 14 (d := d_iscut) rfl
  obtain ⟨fd_isaxis, F_isaxis⟩ := c.def_ 15 (d := d_isaxis) rfl
  obtain ⟨fd_areparts, F_areparts⟩ := c.def_ 16 (d := d_areparts) rfl
  obtain ⟨fd_isint, F_isint⟩ := c.def_ 17 (d := d_isint) rfl
  obtain ⟨fd_along1, F_along1⟩ := c.def_ 18 (d := d_along1) rfl
  obtain ⟨fd_prod, F_prod⟩ := c.def_ 19 (d := d_prod) rfl
  obtain ⟨fd_glyphs, F_glyphs⟩ := c.def_ 20 (d := d_glyphs) rfl
  obtain ⟨fd_size, F_size⟩ := c.def_ 21 (d := d_size) rfl
  obtain ⟨fd_turnedrow, F_turnedrow⟩ := c.def_ 22 (d := d_turnedrow) rfl
  obtain ⟨fd_rinit, F_rinit⟩ := c.def_ 23 (d := d_rinit) rfl
  obtain ⟨fd_compart, F_compart⟩ := c.def_ 24 (d := d_compart) rfl
  obtain ⟨fd_asked, F_asked⟩ := c.def_ 25 (d := d_asked) rfl
  obtain ⟨fd_isright, F_isright⟩ := c.def_ 26 (d := d_isright) rfl
  obtain ⟨fd_isname2, F_isname2⟩ := c.def_ 27 (d := d_isname2) rfl
  obtain ⟨fd_wantplan, F_wantplan⟩ := c.def_ 28 (d := d_wantplan) rfl
  obtain ⟨fd_hasform2, F_hasform2⟩ := c.def_ 29 (d := d_hasform2) rfl
  obtain ⟨fd_count, F_count⟩ := c.def_ 30 (d := d_count) rfl
  obtain ⟨fd_phaseat, F_phaseat⟩ := c.def_ 31 (d := d_phaseat) rfl
  obtain ⟨fd_plen, F_plen⟩ := c.def_ 32 (d := d_plen) rfl
  obtain ⟨fd_signs, F_signs⟩ := c.def_ 33 (d := d_signs) rfl
  obtain ⟨fd_parts, F_parts⟩ := c.def_ 34 (d := d_parts) rfl
  obtain ⟨fd_wantphase, F_wantphase⟩ := c.def_ 35 (d := d_wantphase) rfl
  obtain ⟨fd_children, F_children⟩ := c.def_ 36 (d := d_children) rfl
  obtain ⟨fd_wantname, F_wantname⟩ := c.def_ 37 (d := d_wantname) rfl
  obtain ⟨fd_hasform, F_hasform⟩ := c.def_ 38 (d := d_hasform) rfl
  obtain ⟨fd_nameof, F_nameof⟩ := c.def_ 39 (d := d_nameof) rfl
  obtain ⟨fd_wantfine, F_wantfine⟩ := c.def_ 40 (d := d_wantfine) rfl
  obtain ⟨fd_ispair, F_ispair⟩ := c.def_ 41 (d := d_ispair) rfl
  obtain ⟨fd_pcounts, F_pcounts⟩ := c.def_ 42 (d := d_pcounts) rfl
  obtain ⟨fd_signsof, F_signsof⟩ := c.def_ 43 (d := d_signsof) rfl
  obtain ⟨fd_signat, F_signat⟩ := c.def_ 44 (d := d_signat) rfl
  obtain ⟨fd_signin, F_signin⟩ := c.def_ 45 (d := d_signin) rfl
  exact all_mk (P := P) (w := w) X Gn hfa (C := (ga K "Plan")) (AX := (ga K "AXES")) (CR := (ga K "Ratio")) (f_law := (ga K "law")) (f_pot := (ga K "_law_pot")) (f_right := (ga K "_law_right")) (f_rrepr := (ma K (ga K "Ratio") "__repr__")) (f_prepr := (ma K (ga K "Plan") "__repr__")) (f_draw := (ga K "_law_draw")) (f_pick := (ga K "_law_pick")) (f_rounds := (ga K "_law_rounds")) (f_mixed := (ga K "_law_mixed")) (f_real := (ga K "_law_real")) (f_init := (ma K (ga K "Plan") "__init__")) (f_wantrounds := (ga K "want_rounds")) (f_isround := (ga K "is_round")) (f_islist := (ga K "is_list")) (f_iscut := (ga K "is_cut")) (f_isaxis := (ga K "is_axis")) (f_areparts := (ga K "are_parts")) (f_isint := (ga K "is_integer")) (f_along1 := (ga K "parts_along")) (f_prod := (ma K (ga K "Plan") "product_of")) (f_glyphs := (ga K "_law_glyphs")) (f_size := (ga K "_law_size")) (f_turnedrow := (ga K "_law_turned")) (f_rinit := (ma K (ga K "Ratio") "__init__")) (f_compart := (ga K "common_part")) (f_asked := (ga K "_law_asked")) (f_isright := (ga K "_law_is_right")) (f_isname2 := (ga K "is_name")) (f_wantplan := (ga K "want_plan")) (f_hasform2 := (ga K "has_name_form")) (f_count := (ga K "is_count")) (f_phaseat := (ga K "phase_at")) (f_plen := (ma K (ga K "Plan") "__len__")) (f_signs := (ma K (ga K "Plan") "signs")) (f_parts := (ma K (ga K "Plan") "parts")) (f_wantphase := (ga K "want_phase")) (f_children := (ga K "children")) (f_wantname := (ga K "want_name")) (f_hasform := (ga K "has_name_form")) (f_nameof := (ga K "name_of")) (f_wantfine := (ga K "want_fineness")) (f_ispair := (ga K "is_pair")) (f_pcounts := (ma K (ga K "Plan") "counts")) (f_signsof := (ga K "signs_of")) (f_signat := (ma K (ga K "Plan") "sign_at")) (f_signin := (ga K "sign_in"))
    (of_decide_eq_true (p := PySem.W.specialIn K (.builtin "object.__class__") "__get__" = some (some (.builtin "getset_descriptor.__get__"))) (c.fact 0 (f := q0) rfl))
    (of_decide_eq_true (p := PySem.W.takesIn K (.builtin "object.__class__") = some true) (c.fact 1 (f := q1) rfl))
    (of_decide_eq_true (p := PySem.W.nsIn K mainGlobals "len" = some none) (c.fact 2 (f := q2) rfl))
    (of_decide_eq_true (p := PySem.W.nsIn K mainGlobals "abs" = some none) (c.fact 3 (f := q3) rfl))
    (of_decide_eq_true (p := PySem.W.nsIn K mainGlobals "max" = some none) (c.fact 4 (f := q4) rfl))
    (of_decide_eq_true (p := PySem.W.nsIn K mainGlobals "min" = some none) (c.fact 5 (f := q5) rfl))
    (of_decide_eq_true (p := PySem.W.nsIn K mainGlobals "int" = some none) (c.fact 6 (f := q6) rfl))
    (of_decide_eq_true (p := PySem.W.nsIn K mainGlobals "bool" = some none) (c.fact 7 (f := q7) rfl))
    (of_decide_eq_true (p := PySem.W.nsIn K mainGlobals "str" = some none) (c.fact 8 (f := q8) rfl))
    (of_decide_eq_true (p := PySem.W.nsIn K mainGlobals "repr" = some none) (c.fact 9 (f := q9) rfl))
    (of_decide_eq_true (p := PySem.W.nsIn K mainGlobals "all" = some none) (c.fact 10 (f := q10) rfl))
    (of_decide_eq_true (p := PySem.W.nsIn K mainGlobals "any" = some none) (c.fact 11 (f := q11) rfl))
    (of_decide_eq_true (p := PySem.W.nsIn K mainGlobals "range" = some none) (c.fact 12 (f := q12) rfl))
    (of_decide_eq_true (p := PySem.W.nsIn K mainGlobals "divmod" = some none) (c.fact 13 (f := q13) rfl))
    (of_decide_eq_true (p := PySem.W.nsIn K mainGlobals "isinstance" = some none) (c.fact 14 (f := q14) rfl))
    (of_decide_eq_true (p := PySem.W.nsIn K mainGlobals "list" = some none) (c.fact 15 (f := q15) rfl))
    (of_decide_eq_true (p := PySem.W.nsIn K mainGlobals "tuple" = some none) (c.fact 16 (f := q16) rfl))
    (of_decide_eq_true (p := PySem.W.nsIn K mainGlobals "dict" = some none) (c.fact 17 (f := q17) rfl))
    (of_decide_eq_true (p := PySem.W.nsIn K mainGlobals "enumerate" = some none) (c.fact 18 (f := q18) rfl))
    (of_decide_eq_true (p := PySem.W.nsIn K mainGlobals "zip" = some none) (c.fact 19 (f := q19) rfl))
    (of_decide_eq_true (p := PySem.W.nsIn K mainGlobals "sorted" = some none) (c.fact 20 (f := q20) rfl))
    (of_decide_eq_true (p := PySem.W.nsIn K mainGlobals "sum" = some none) (c.fact 21 (f := q21) rfl))
    (of_decide_eq_true (p := PySem.W.nsIn K mainGlobals "type" = some none) (c.fact 22 (f := q22) rfl))
    (of_decide_eq_true (p := PySem.W.nsIn K mainGlobals "Plan" = some (some (.ref (ga K "Plan")))) (c.fact 23 (f := q23) rfl))
    (c.fact 24 (f := q24) rfl)
    (c.fact 25 (f := q25) rfl)
    (c.fact 26 (f := q26) rfl)
    (of_decide_eq_true (p := PySem.W.findIn K (.ref (ga K "Plan")) "__setattr__" = some (some (.builtin "object.__setattr__"))) (c.fact 27 (f := q27) rfl))
    (c.fact 28 (f := q28) rfl)
    (c.fact 29 (f := q29) rfl)
    (of_decide_eq_true (p := PySem.W.findIn K (.ref (ga K "Plan")) "__class__" = some (some (.builtin "object.__class__"))) (c.fact 30 (f := q30) rfl))
    (of_decide_eq_true (p := PySem.W.mroIn K (ga K "Plan") (.type "object") = some true) (c.fact 31 (f := q31) rfl))
    (of_decide_eq_true (p := PySem.W.kitOne K (.ref (ga K "Plan")) (.ref (ga K "Plan")) = some true) (c.fact 32 (f := q32) rfl))
    (of_decide_eq_true (p := PySem.W.findIn K (.ref (ga K "Plan")) "__ne__" = some (some (.builtin "object.__ne__"))) (c.fact 33 (f := q33) rfl))
    (of_decide_eq_true (p := PySem.W.findIn K (.ref (ga K "Plan")) "own_rounds" = some none) (c.fact 34 (f := q34) rfl))
    (of_decide_eq_true (p := PySem.W.findIn K (.ref (ga K "Plan")) "own_parts" = some none) (c.fact 35 (f := q35) rfl))
    (of_decide_eq_true (p := PySem.W.findIn K (.ref (ga K "Plan")) "own_growth" = some none) (c.fact 36 (f := q36) rfl))
    v_EAST
    v_NORTH
    v_FEWEST_PARTS
    v_MOST_PARTS
    v_MOST_FINE
    (of_decide_eq_true (p := PySem.W.nsIn K mainGlobals "AXES" = some (some (.ref (ga K "AXES")))) (c.fact 42 (f := q42) rfl))
    l_AX
    (of_decide_eq_true (p := PySem.W.typeIn K (.ref (ga K "Plan")) = some (.type "type")) (c.fact 44 (f := q44) rfl))
    (of_decide_eq_true (p := PySem.W.specialIn K (.ref (ga K "Plan")) "__getattribute__" = some (some (.builtin "type.__getattribute__"))) (c.fact 45 (f := q45) rfl))
    (c.fact 46 (f := q46) rfl)
    cv_MOST_ROUNDS
    cv_MOST_CUTS
    cv_MOST_SIGNS
    (of_decide_eq_true (p := PySem.W.nsIn K mainGlobals "Ratio" = some (some (.ref (ga K "Ratio")))) (c.fact 50 (f := q50) rfl))
    (c.fact 51 (f := q51) rfl)
    (c.fact 52 (f := q52) rfl)
    (c.fact 53 (f := q53) rfl)
    (of_decide_eq_true (p := PySem.W.findIn K (.ref (ga K "Ratio")) "__setattr__" = some (some (.builtin "object.__setattr__"))) (c.fact 54 (f := q54) rfl))
    (c.fact 55 (f := q55) rfl)
    (c.fact 56 (f := q56) rfl)
    (of_decide_eq_true (p := PySem.W.findIn K (.ref (ga K "Ratio")) "__class__" = some (some (.builtin "object.__class__"))) (c.fact 57 (f := q57) rfl))
    (of_decide_eq_true (p := PySem.W.mroIn K (ga K "Ratio") (.type "object") = some true) (c.fact 58 (f := q58) rfl))
    (of_decide_eq_true (p := PySem.W.kitOne K (.ref (ga K "Ratio")) (.ref (ga K "Ratio")) = some true) (c.fact 59 (f := q59) rfl))
    (of_decide_eq_true (p := PySem.W.findIn K (.ref (ga K "Ratio")) "__ne__" = some (some (.builtin "object.__ne__"))) (c.fact 60 (f := q60) rfl))
    (of_decide_eq_true (p := PySem.W.findIn K (.ref (ga K "Ratio")) "own_top" = some none) (c.fact 61 (f := q61) rfl))
    (of_decide_eq_true (p := PySem.W.findIn K (.ref (ga K "Ratio")) "own_bottom" = some none) (c.fact 62 (f := q62) rfl))
    (of_decide_eq_true (p := PySem.W.kitOne K (.ref (ga K "Ratio")) (.type "int") = some false) (c.fact 63 (f := q63) rfl))
    (of_decide_eq_true (p := PySem.W.kitOne K (.ref (ga K "Ratio")) (.type "bool") = some false) (c.fact 64 (f := q64) rfl))
    (of_decide_eq_true (p := PySem.W.kitOne K (.type "int") (.ref (ga K "Ratio")) = some false) (c.fact 65 (f := q65) rfl))
    (of_decide_eq_true (p := PySem.W.kitOne K (.ref (ga K "Plan")) (.type "tuple") = some false) (c.fact 66 (f := q66) rfl))
    (of_decide_eq_true (p := PySem.W.kitOne K (.ref (ga K "Ratio")) (.type "tuple") = some false) (c.fact 67 (f := q67) rfl))
    (of_decide_eq_true (p := PySem.W.nsIn K mainGlobals "law" = some (some (.ref (ga K "law")))) (c.fact 68 (f := q68) rfl))
    F_law
    (of_decide_eq_true (p := PySem.W.nsIn K mainGlobals "_law_pot" = some (some (.ref (ga K "_law_pot")))) (c.fact 69 (f := q69) rfl))
    F_pot
    (of_decide_eq_true (p := PySem.W.nsIn K mainGlobals "_law_right" = some (some (.ref (ga K "_law_right")))) (c.fact 70 (f := q70) rfl))
    F_right
    (of_decide_eq_true (p := PySem.W.findIn K (.ref (ga K "Ratio")) "__repr__" = some (some (.ref (ma K (ga K "Ratio") "__repr__")))) (c.fact 71 (f := q71) rfl))
    (c.fact 72 (f := q72) rfl)
    F_rrepr
    (of_decide_eq_true (p := PySem.W.findIn K (.ref (ga K "Plan")) "__repr__" = some (some (.ref (ma K (ga K "Plan") "__repr__")))) (c.fact 73 (f := q73) rfl))
    (c.fact 74 (f := q74) rfl)
    F_prepr
    (of_decide_eq_true (p := PySem.W.nsIn K mainGlobals "_law_draw" = some (some (.ref (ga K "_law_draw")))) (c.fact 75 (f := q75) rfl))
    F_draw
    (of_decide_eq_true (p := PySem.W.nsIn K mainGlobals "_law_pick" = some (some (.ref (ga K "_law_pick")))) (c.fact 76 (f := q76) rfl))
    F_pick
    (of_decide_eq_true (p := PySem.W.nsIn K mainGlobals "_law_rounds" = some (some (.ref (ga K "_law_rounds")))) (c.fact 77 (f := q77) rfl))
    F_rounds
    (of_decide_eq_true (p := PySem.W.nsIn K mainGlobals "_law_mixed" = some (some (.ref (ga K "_law_mixed")))) (c.fact 78 (f := q78) rfl))
    F_mixed
    (of_decide_eq_true (p := PySem.W.nsIn K mainGlobals "_law_real" = some (some (.ref (ga K "_law_real")))) (c.fact 79 (f := q79) rfl))
    F_real
    (of_decide_eq_true (p := PySem.W.findIn K (.ref (ga K "Plan")) "__init__" = some (some (.ref (ma K (ga K "Plan") "__init__")))) (c.fact 80 (f := q80) rfl))
    (c.fact 81 (f := q81) rfl)
    F_init
    (of_decide_eq_true (p := PySem.W.nsIn K mainGlobals "want_rounds" = some (some (.ref (ga K "want_rounds")))) (c.fact 82 (f := q82) rfl))
    F_wantrounds
    (of_decide_eq_true (p := PySem.W.nsIn K mainGlobals "is_round" = some (some (.ref (ga K "is_round")))) (c.fact 83 (f := q83) rfl))
    F_isround
    (of_decide_eq_true (p := PySem.W.nsIn K mainGlobals "is_list" = some (some (.ref (ga K "is_list")))) (c.fact 84 (f := q84) rfl))
    F_islist
    (of_decide_eq_true (p := PySem.W.nsIn K mainGlobals "is_cut" = some (some (.ref (ga K "is_cut")))) (c.fact 85 (f := q85) rfl))
    F_iscut
    (of_decide_eq_true (p := PySem.W.nsIn K mainGlobals "is_axis" = some (some (.ref (ga K "is_axis")))) (c.fact 86 (f := q86) rfl))
    F_isaxis
    (of_decide_eq_true (p := PySem.W.nsIn K mainGlobals "are_parts" = some (some (.ref (ga K "are_parts")))) (c.fact 87 (f := q87) rfl))
    F_areparts
    (of_decide_eq_true (p := PySem.W.nsIn K mainGlobals "is_integer" = some (some (.ref (ga K "is_integer")))) (c.fact 88 (f := q88) rfl))
    F_isint
    (of_decide_eq_true (p := PySem.W.nsIn K mainGlobals "parts_along" = some (some (.ref (ga K "parts_along")))) (c.fact 89 (f := q89) rfl))
    F_along1
    (of_decide_eq_true (p := PySem.W.findIn K (.ref (ga K "Plan")) "product_of" = some (some (.ref (ma K (ga K "Plan") "product_of")))) (c.fact 90 (f := q90) rfl))
    (c.fact 91 (f := q91) rfl)
    F_prod
    (of_decide_eq_true (p := PySem.W.nsIn K mainGlobals "_law_glyphs" = some (some (.ref (ga K "_law_glyphs")))) (c.fact 92 (f := q92) rfl))
    F_glyphs
    (of_decide_eq_true (p := PySem.W.nsIn K mainGlobals "_law_size" = some (some (.ref (ga K "_law_size")))) (c.fact 93 (f := q93) rfl))
    F_size
    (of_decide_eq_true (p := PySem.W.nsIn K mainGlobals "_law_turned" = some (some (.ref (ga K "_law_turned")))) (c.fact 94 (f := q94) rfl))
    F_turnedrow
    (of_decide_eq_true (p := PySem.W.findIn K (.ref (ga K "Ratio")) "__init__" = some (some (.ref (ma K (ga K "Ratio") "__init__")))) (c.fact 95 (f := q95) rfl))
    (c.fact 96 (f := q96) rfl)
    F_rinit
    (of_decide_eq_true (p := PySem.W.nsIn K mainGlobals "common_part" = some (some (.ref (ga K "common_part")))) (c.fact 97 (f := q97) rfl))
    F_compart
    (of_decide_eq_true (p := PySem.W.nsIn K mainGlobals "_law_asked" = some (some (.ref (ga K "_law_asked")))) (c.fact 98 (f := q98) rfl))
    F_asked
    (of_decide_eq_true (p := PySem.W.nsIn K mainGlobals "_law_is_right" = some (some (.ref (ga K "_law_is_right")))) (c.fact 99 (f := q99) rfl))
    F_isright
    (of_decide_eq_true (p := PySem.W.nsIn K mainGlobals "is_name" = some (some (.ref (ga K "is_name")))) (c.fact 100 (f := q100) rfl))
    F_isname2
    (of_decide_eq_true (p := PySem.W.nsIn K mainGlobals "want_plan" = some (some (.ref (ga K "want_plan")))) (c.fact 101 (f := q101) rfl))
    F_wantplan
    (of_decide_eq_true (p := PySem.W.nsIn K mainGlobals "has_name_form" = some (some (.ref (ga K "has_name_form")))) (c.fact 102 (f := q102) rfl))
    F_hasform2
    (of_decide_eq_true (p := PySem.W.nsIn K mainGlobals "is_count" = some (some (.ref (ga K "is_count")))) (c.fact 103 (f := q103) rfl))
    F_count
    (of_decide_eq_true (p := PySem.W.nsIn K mainGlobals "phase_at" = some (some (.ref (ga K "phase_at")))) (c.fact 104 (f := q104) rfl))
    F_phaseat
    (of_decide_eq_true (p := PySem.W.findIn K (.ref (ga K "Plan")) "__len__" = some (some (.ref (ma K (ga K "Plan") "__len__")))) (c.fact 105 (f := q105) rfl))
    (c.fact 106 (f := q106) rfl)
    F_plen
    (of_decide_eq_true (p := PySem.W.findIn K (.ref (ga K "Plan")) "signs" = some (some (.ref (ma K (ga K "Plan") "signs")))) (c.fact 107 (f := q107) rfl))
    (c.fact 108 (f := q108) rfl)
    F_signs
    (of_decide_eq_true (p := PySem.W.findIn K (.ref (ga K "Plan")) "parts" = some (some (.ref (ma K (ga K "Plan") "parts")))) (c.fact 109 (f := q109) rfl))
    (c.fact 110 (f := q110) rfl)
    F_parts
    (of_decide_eq_true (p := PySem.W.nsIn K mainGlobals "want_phase" = some (some (.ref (ga K "want_phase")))) (c.fact 111 (f := q111) rfl))
    F_wantphase
    (of_decide_eq_true (p := PySem.W.nsIn K mainGlobals "children" = some (some (.ref (ga K "children")))) (c.fact 112 (f := q112) rfl))
    F_children
    (of_decide_eq_true (p := PySem.W.nsIn K mainGlobals "want_name" = some (some (.ref (ga K "want_name")))) (c.fact 113 (f := q113) rfl))
    F_wantname
    (of_decide_eq_true (p := PySem.W.nsIn K mainGlobals "has_name_form" = some (some (.ref (ga K "has_name_form")))) (c.fact 114 (f := q114) rfl))
    F_hasform
    (of_decide_eq_true (p := PySem.W.nsIn K mainGlobals "name_of" = some (some (.ref (ga K "name_of")))) (c.fact 115 (f := q115) rfl))
    F_nameof
    (of_decide_eq_true (p := PySem.W.nsIn K mainGlobals "want_fineness" = some (some (.ref (ga K "want_fineness")))) (c.fact 116 (f := q116) rfl))
    F_wantfine
    (of_decide_eq_true (p := PySem.W.nsIn K mainGlobals "is_pair" = some (some (.ref (ga K "is_pair")))) (c.fact 117 (f := q117) rfl))
    F_ispair
    (of_decide_eq_true (p := PySem.W.findIn K (.ref (ga K "Plan")) "counts" = some (some (.ref (ma K (ga K "Plan") "counts")))) (c.fact 118 (f := q118) rfl))
    (c.fact 119 (f := q119) rfl)
    F_pcounts
    (of_decide_eq_true (p := PySem.W.nsIn K mainGlobals "signs_of" = some (some (.ref (ga K "signs_of")))) (c.fact 120 (f := q120) rfl))
    F_signsof
    (of_decide_eq_true (p := PySem.W.findIn K (.ref (ga K "Plan")) "sign_at" = some (some (.ref (ma K (ga K "Plan") "sign_at")))) (c.fact 121 (f := q121) rfl))
    (c.fact 122 (f := q122) rfl)
    F_signat
    (of_decide_eq_true (p := PySem.W.nsIn K mainGlobals "sign_in" = some (some (.ref (ga K "sign_in")))) (c.fact 123 (f := q123) rfl))
    F_signin
end T
set_option Elab.async false
open PySem PySem.W PySem.Calls PyProof.Rows
set_option maxRecDepth 100000 in
set_option maxHeartbeats 0 in
theorem PySem.Challenge.cw_movecells_k24_what_is_a_name_holds : PySem.Challenge.rw_movecells_k24_what_is_a_name.Holds := by
  refine T0.early ?_
  refine Mv.walk_gM (x := "_law_script") (l := PySem.Challenge.rw_movecells_k24_what_is_a_name) (n := 63) (k := 11) (sp := T.sp_law) rfl (by decide) T0.t_dfl ⟨rfl, by decide, by decide⟩ (fun w mg fa h Y G hm => ?_) fun _ _ a ns hl hS => ⟨a, ns, rfl, hS, hl, fun _ => rfl⟩
  obtain ⟨K, KX, c⟩ := Y
  obtain ⟨fd, hb, hF⟩ := T.facts (P := (PySem.Challenge.rw_movecells_k24_what_is_a_name).prog) (w := w) KX G (T0.t_name ▸ hm) c
  exact ⟨K, fd, KX, hb, hF⟩
