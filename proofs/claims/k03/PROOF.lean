import PyProof.Rows.All
import PySem.Challenge.RW_nearboughs_k03_rules_made
import KE.KExcSuper
import KE.KExcMake
import HandS.ExcInit
import HandS.ExcField
import HandS.ExcValue
import HandS.HeadHook4
import HandS.Property
import Wide.All
import OpenK.AllK
import Wide.FinOn
import HandS.ForMost
import HandS.IsInst
import HandS.TupLe
import HandS.Defaults
import HandS.Wide
import HandS.Star
import HandS.DictComp
import HandS.Flow
import HandS.Style
import HandS.Walk
import HandS.NoneIn
import HandS.Zip
import HandS.Codes
import HandS.Text
import HandS.TupAny
import HandS.WordsExc
import HandS.MakeKwOnly
import HandS.Head0
import HandS.Head1
import HandS.Head2
import HandS.HeadEnd
import HandS.Deep
import HandS.More
import HandS.OwnEq
import KE.GoesEnum
import HandS.MethStar
import KE.KTryMore
import HandS.HotCalls
import HandS.Lambda
import HandS.HeadWalk
import KE.KDflt
import HandS.FStr
import HandS.ClsMeth
import KE.KFmtOwn
import HandS.Small
import HandS.Records
set_option Elab.async false
set_option linter.all false
set_option maxRecDepth 100000
set_option maxHeartbeats 4000000
set_option pp.maxSteps 400
section PRE0
namespace NB
open PySem PySem.Spec PyProof.Rows L2
def neB (K : PySem.W.Frag) (C : Addr) : Bool := decide (PySem.W.findIn K (.ref C) "__ne__" = some (some (.builtin "object.__ne__"))) && decide (PySem.W.mroIn K C (.type "object") = some true)
end NB

end PRE0

section PRE1
namespace NB
open PySem PySem.Spec PyProof.Rows L2
def insB (K : PySem.W.Frag) (C : Addr) : Bool := decide (PySem.W.findIn K (.ref C) "__class__" = some (some (.builtin "object.__class__"))) && (decide (PySem.W.specialIn K (.builtin "object.__class__") "__get__" = some (some (.builtin "getset_descriptor.__get__"))) &&
  (decide (PySem.W.takesIn K (.builtin "object.__class__") = some true) && (decide (PySem.W.mroIn K C (.type "object") = some true) && (decide (PySem.W.kitOne K (.type "list") (.ref C) = some false) && (decide (PySem.W.kitOne K (.type "str") (.ref C) = some false) && (decide (PySem.W.kitOne K (.type "NoneType") (.ref C) = some false) && (decide (PySem.W.kitOne K (.type "int") (.ref C) = some false) && (decide (PySem.W.kitOne K (.type "tuple") (.ref C) = some false) && decide (PySem.W.kitOne K (.type "bool") (.ref C) = some false)))))))))
def nilB (K : PySem.W.Frag) (a : Addr) : Bool := match K.lookup a with
  | some ⟨.type c, _, .seq its _, _⟩ => decide (c = "tuple") && decide (its.size = 0)
  | _ => false
end NB

end PRE1

section PRE2
namespace NB
open PySem PySem.Spec PyProof.Rows L2
def bmB (K : PySem.W.Frag) (C : Addr) (m : Str) : Bool := decide (PySem.W.specialIn K (.ref (He.ma K C m)) "__get__" = some (some (.builtin "function.__get__"))) && (decide (PySem.W.takesIn K (.ref (He.ma K C m)) = some false) && (!PySem.W.copiedNames.contains m && PySem.W.fnIn K (He.ma K C m)))
end NB

end PRE2

section PRE3
set_option Elab.async false
set_option linter.all false
set_option maxRecDepth 100000
set_option maxHeartbeats 4000000
set_option pp.maxSteps 400
/-! NB21: defs that hold __class__, told by the head; the making of the program's exceptions -/
namespace Hy
open PySem PySem.Spec PyProof.Rows L2
abbrev Frag := PySem.W.Frag
/-- a number, reckoned first -/
def frN {α : Type} (n : Nat) (k : Nat → α) : α := match n with
  | 0 => k 0
  | m + 1 => k (m + 1)
/-- those that are not marked yet, marked -/
def pushA {α : Type} (k : Nat → List Addr → α) : List Addr → Nat → List Addr → α
  | [], m, l => k m l
  | a :: r, m, l => frN a fun a => match Nat.beq (Nat.land (Nat.shiftRight m a) 1) 1 with
    | true => pushA k r m l
    | false => frN (Nat.lor m (Nat.shiftLeft 1 a)) fun m => pushA k r m (a :: l)
/-- what is reached in so many steps, each once -/
def bfsA (g : Addr → Option Obj) : Nat → Nat → List Addr → List Addr
  | 0, _, fr => fr
  | n + 1, m, fr => fr ++ pushA (fun m new => bfsA g n m new) (fr.flatMap fun a => match g a with
    | some o => He.refsD o
    | none => []) m []
def asY (g : Addr → Option Obj) (n : Nat) : List Addr := pushA (fun m fr => bfsA g n m fr) [cStatics, mainGlobals] 0 []
structure DefC where
  cls : Str
  m : Str
  qual : Str
  params : Arguments
  body : List Stmt
  scope : Scope
  /-- a property's getter; else a def that holds __class__ -/
  prop : Bool
def gtA (K : Frag) (p : Addr) : Addr := match PySem.W.recIn K p "property" with
  | some (.ref g :: _) => g
  | _ => 0
/-- where the def stands -/
def DefC.at (K : Frag) (d : DefC) : Addr := if d.prop then gtA K (He.ma K (He.ga K d.cls) d.m) else He.ma K (He.ga K d.cls) d.m
abbrev FnC : Type := Option (Str × Str × Arguments × FuncBody × Scope × Addr × List Str × Addr)
def fnC (K : Frag) (d : DefC) : FnC := match K.lookup (d.at K) with
  | some ⟨_, _, .func fd, _⟩ => some (fd.name, fd.qualname, fd.params, fd.body, fd.scope, fd.globals, fd.closure.map (·.1), fd.builtins)
  | _ => none
def DefC.val (d : DefC) : FnC := some (d.m, d.qual, d.params, .stmts d.body, d.scope, mainGlobals, if d.prop then [] else ["__class__"], builtinsNs)
def fileB (K : Frag) (cda : Addr) (file : Str) : Bool := match K.lookup cda with
  | some ⟨_, _, .fields vs, _⟩ => (match vs[2]? with
    | some (Value.str x _) => x == file
    | _ => false)
  | _ => false
def cellB (K : Frag) (cc D : Addr) : Bool := match K.lookup cc with
  | some ⟨_, _, .cell (some (.ref D')), _⟩ => decide (D' = D)
  | _ => false
def noneB : Value → Bool
  | .none => true
  | _ => false
def propB (K : Frag) (C : Addr) (f : Str) : Bool := decide (PySem.W.findIn K (.ref C) f = some (some (.ref (He.ma K C f)))) && (decide (PySem.W.specialIn K (.ref (He.ma K C f)) "__get__" = some (some (.builtin "property.__get__"))) && (decide (PySem.W.takesIn K (.ref (He.ma K C f)) = some true) && (match PySem.W.recIn K (He.ma K C f) "property" with
  | some (.ref _ :: _) => true
  | _ => false)))
def DefC.ok (K : Frag) (file : Str) (d : DefC) : Bool := match K.lookup (d.at K) with
  | some ⟨_, _, .func fd, _⟩ => PySem.W.codeIn K fd.code d.qual && (noneB fd.defaults && (noneB fd.kwdefaults && ((match fd.code with
    | .ref cda => fileB K cda file
    | _ => false) && (match fd.closure with
    | [(_, cc)] => cellB K cc (He.ga K d.cls)
    | _ => d.prop && propB K (He.ga K d.cls) d.m))))
  | _ => false
theorem fileB_at {K : Frag} {cda : Addr} {file : Str} (h : fileB K cda file = true) : ∃ a b vs c tf, K.lookup cda = some ⟨a, b, .fields vs, c⟩ ∧ vs[2]? = some (Value.str file tf) := by
  unfold fileB at h
  split at h
  · rename_i a b vs c e
    split at h
    · rename_i x tf e2
      have := eq_of_beq h
      subst this
      exact ⟨a, b, vs, c, tf, e, e2⟩
    · cases h
  · cases h
theorem cellB_at {K : Frag} {cc D : Addr} (h : cellB K cc D = true) : ∃ a b c, K.lookup cc = some ⟨a, b, .cell (some (.ref D)), c⟩ := by
  unfold cellB at h
  split at h
  · rename_i a b D' c e
    have := of_decide_eq_true h
    subst this
    exact ⟨a, b, c, e⟩
  · cases h
/-- the def at f: a method of the class at C, its closure the cell of __class__ -/
structure FunC (K : Frag) (C : Addr) (name qual : Str) (params : Arguments) (body : List Stmt) (scope : Scope) (file : Str) (f : Addr) : Prop where
  ex : ∃ (oc : Value) (od : Option Addr) (doc pm : Value) (an : Option Addr) (cda : Addr) (ct : Value) (cc : Addr) (osl : Array (Option Value)),
    K.lookup f = some ⟨oc, od, .func (PySem.W.ksFn name qual params body scope .none .none doc pm an (.ref cda) ct cc), osl⟩ ∧ PySem.W.codeIn K (.ref cda) qual = true ∧ fileB K cda file = true ∧ cellB K cc C = true
theorem funC_of {K : Frag} {file : Str} {d : DefC} (hp : d.prop = false) (h : d.ok K file = true) (e : fnC K d = d.val) : FunC K (He.ga K d.cls) d.m d.qual d.params d.body d.scope file (He.ma K (He.ga K d.cls) d.m) := by
  have ea : d.at K = He.ma K (He.ga K d.cls) d.m := by
    unfold DefC.at
    rw [hp]
    rfl
  unfold DefC.ok at h
  unfold fnC DefC.val at e
  rw [ea, hp] at e
  rw [ea] at h
  split at h
  · rename_i oc od fd osl lk
    rw [lk] at e
    obtain ⟨n1, n2, n3, n4, n5, n6, n7, n8, n9, n10, n11, n12, n13, n14, n15⟩ := fd
    dsimp only at h e
    simp only [Bool.and_eq_true] at h
    obtain ⟨h1, h2, h3, h4, h5⟩ := h
    simp only [Option.some.injEq, Prod.mk.injEq] at e
    obtain ⟨rfl, rfl, rfl, rfl, rfl, rfl, e7, rfl⟩ := e
    cases n13 with
    | ref cda =>
      dsimp only at h4
      cases n8 with
      | none =>
        cases n9 with
        | none =>
          match n7, e7, h5 with
          | [], e7, _ => simp at e7
          | [(y, cc)], e7, h5 =>
            simp only [List.map_cons, List.map_nil, Bool.false_eq_true, if_false, List.cons.injEq, and_true] at e7
            subst e7
            exact ⟨oc, od, n10, n11, n12, cda, n14, cc, osl, lk, h1, h4, h5⟩
          | _ :: _ :: _, e7, _ => simp at e7
        | _ => cases h3
      | _ => cases h2
    | _ => cases h4
  · cases h
/-- a property of the class C and its getter -/
structure PropC (K : Frag) (C : Addr) (f qual : Str) (params : Arguments) (body : List Stmt) (scope : Scope) : Prop where
  ex : ∃ (oc : Value) (od : Option Addr) (doc pm : Value) (an : Option Addr) (cdv ct : Value) (osl : Array (Option Value)),
    K.lookup (gtA K (He.ma K C f)) = some ⟨oc, od, .func (PySem.W.fnOf f qual params body scope .none .none doc pm an cdv ct), osl⟩ ∧ PySem.W.codeIn K cdv qual = true
  prp : PropOf K C f (He.ma K C f) (gtA K (He.ma K C f))
theorem propB_ok {K : Frag} {C : Addr} {f : Str} (h : propB K C f = true) : PropOf K C f (He.ma K C f) (gtA K (He.ma K C f)) := by
  unfold propB at h
  simp only [Bool.and_eq_true, decide_eq_true_eq] at h
  obtain ⟨h1, h2, h3, h4⟩ := h
  refine ⟨h1, h2, h3, ?_⟩
  unfold gtA
  split at h4
  · rename_i g rest e
    rw [e]
    exact ⟨rest, rfl⟩
  · cases h4
theorem propC_of {K : Frag} {file : Str} {d : DefC} (hp : d.prop = true) (h : d.ok K file = true) (e : fnC K d = d.val) : PropC K (He.ga K d.cls) d.m d.qual d.params d.body d.scope := by
  have ea : d.at K = gtA K (He.ma K (He.ga K d.cls) d.m) := by
    unfold DefC.at
    rw [hp]
    rfl
  unfold DefC.ok at h
  unfold fnC DefC.val at e
  rw [ea, hp] at e
  rw [ea, hp] at h
  split at h
  · rename_i oc od fd osl lk
    rw [lk] at e
    obtain ⟨n1, n2, n3, n4, n5, n6, n7, n8, n9, n10, n11, n12, n13, n14, n15⟩ := fd
    dsimp only at h e
    simp only [Bool.and_eq_true] at h
    obtain ⟨h1, h2, h3, h4, h5⟩ := h
    simp only [Option.some.injEq, Prod.mk.injEq] at e
    obtain ⟨rfl, rfl, rfl, rfl, rfl, rfl, e7, rfl⟩ := e
    cases n8 with
    | none =>
      cases n9 with
      | none =>
        match n7, e7, h5 with
        | [], e7, h5 =>
          simp only [Bool.true_and] at h5
          exact ⟨⟨oc, od, n10, n11, n12, n13, n14, osl, lk, h1⟩, propB_ok h5⟩
        | _ :: _, e7, _ => simp at e7
      | _ => cases h3
    | _ => cases h2
  · cases h
abbrev AlY : Type := He.AlX × (Bool × List FnC)
def obsY (n : Nat) (fa : List He.Fa) (fn : List He.DefD) (ts : List He.Tab) (tf : List He.Defn) (ex : Frag → Bool) (file : Str) (cf : List DefC) (g : Addr → Option Obj) : AlY :=
  ((He.obsT fa fn ts (He.frT g (asY g n)), ex (He.frT g (asY g n)) && He.tabsB g tf (He.frT g (asY g n))), (cf.all fun d => d.ok (He.frT g (asY g n)) file, cf.map fun d => fnC (He.frT g (asY g n)) d))
def valY (fn : List He.DefD) (ts : List He.Tab) (cf : List DefC) (w : World) : AlY := (He.valX fn ts w, (true, cf.map DefC.val))
structure SaysY (fa : List He.Fa) (fn : List He.DefD) (ts : List He.Tab) (tf : List He.Defn) (ex : Frag → Bool) (file : Str) (cf : List DefC) (w : World) (h : Heap) (K : Frag) : Prop where
  x : He.SaysX fa fn ts tf ex w h K
  ok : (cf.all fun d => d.ok K file) = true
  fns : cf.map (fun d => fnC K d) = cf.map DefC.val
theorem SaysY.val_ {fa : List He.Fa} {fn : List He.DefD} {ts : List He.Tab} {tf : List He.Defn} {ex : Frag → Bool} {file : Str} {cf : List DefC} {w : World} {h : Heap} {K : Frag} (c : SaysY fa fn ts tf ex file cf w h K) (i : Nat) {d : DefC} (e : cf[i]? = some d) : fnC K d = d.val := by
  have := congrArg (fun l => l[i]?) c.fns
  simp only [List.getElem?_map, e, Option.map_some, Option.some.injEq] at this
  exact this
theorem SaysY.fn_ {fa : List He.Fa} {fn : List He.DefD} {ts : List He.Tab} {tf : List He.Defn} {ex : Frag → Bool} {file : Str} {cf : List DefC} {w : World} {h : Heap} {K : Frag} (c : SaysY fa fn ts tf ex file cf w h K) (i : Nat) {d : DefC} (e : cf[i]? = some d) (hp : d.prop = false) :
    FunC K (He.ga K d.cls) d.m d.qual d.params d.body d.scope file (He.ma K (He.ga K d.cls) d.m) := funC_of hp (List.all_eq_true.mp c.ok d (List.mem_of_getElem? e)) (c.val_ i e)
theorem SaysY.prop_ {fa : List He.Fa} {fn : List He.DefD} {ts : List He.Tab} {tf : List He.Defn} {ex : Frag → Bool} {file : Str} {cf : List DefC} {w : World} {h : Heap} {K : Frag} (c : SaysY fa fn ts tf ex file cf w h K) (i : Nat) {d : DefC} (e : cf[i]? = some d) (hp : d.prop = true) :
    PropC K (He.ga K d.cls) d.m d.qual d.params d.body d.scope := propC_of hp (List.all_eq_true.mp c.ok d (List.mem_of_getElem? e)) (c.val_ i e)
theorem saysY_of {n : Nat} {fa : List He.Fa} {fn : List He.DefD} {ts : List He.Tab} {tf : List He.Defn} {ex : Frag → Bool} {file : Str} {cf : List DefC} {w : World} {h : Heap} (e : obsY n fa fn ts tf ex file cf h.get? = valY fn ts cf w) : SaysY fa fn ts tf ex file cf w h (He.frT h.get? (asY h.get? n)) := by
  have e1 : He.obsT fa fn ts (He.frT h.get? (asY h.get? n)) = He.valT fn ts w := congrArg (fun z : AlY => z.1.1) e
  have e2 : (ex (He.frT h.get? (asY h.get? n)) && He.tabsB h.get? tf (He.frT h.get? (asY h.get? n))) = true := congrArg (fun z : AlY => z.1.2) e
  have e3 : (cf.all fun d => d.ok (He.frT h.get? (asY h.get? n)) file) = true := congrArg (fun z : AlY => z.2.1) e
  have e4 : cf.map (fun d => fnC (He.frT h.get? (asY h.get? n)) d) = cf.map DefC.val := congrArg (fun z : AlY => z.2.2) e
  obtain ⟨h1, h2⟩ := Bool.and_eq_true_iff.mp e2
  have key : ∀ p ∈ tf, PySem.W.codeHdIn (He.frT h.get? (asY h.get? n)) (He.cT (He.frT h.get? (asY h.get? n)) p).1 (He.cT (He.frT h.get? (asY h.get? n)) p).2 = true ∧ ∃ o, h.get? (He.cT (He.frT h.get? (asY h.get? n)) p).2 = some o ∧ He.emptyTab o = true := fun p hp => by
    obtain ⟨h3, h4⟩ := Bool.and_eq_true_iff.mp (List.all_eq_true.mp h2 p hp)
    refine ⟨h3, ?_⟩
    cases q : h.get? (He.cT (He.frT h.get? (asY h.get? n)) p).2 with
    | none =>
      rw [q] at h4
      cases h4
    | some o =>
      rw [q] at h4
      exact ⟨o, rfl, h4⟩
  exact ⟨⟨e1, h1, fun p hp => (key p hp).1, fun p hp => by
    obtain ⟨_, o, q, z⟩ := key p hp
    exact He.frT_none q z, fun p hp => by
    obtain ⟨_, o, q, z⟩ := key p hp
    rw [q, He.emptyTab_eq z]⟩, e3, e4⟩
def hookY (n : Nat) (fa : List He.Fa) (fn : List He.DefD) (ts : List He.Tab) (tf : List He.Defn) (ex : Frag → Bool) (file : Str) (cf : List DefC) : PySem.W.Hook where
  α := AlY
  obs := fun s => obsY n fa fn ts tf ex file cf s.heap.get?
  val := fun w => valY fn ts cf w
  says := fun w h => ∃ K : Frag, K.In h ∧ SaysY fa fn ts tf ex file cf w h K
  of := fun _ _ e => ⟨_, He.frT_in, saysY_of e⟩
  keeps := fun _ _ _ ⟨K, hK, c⟩ k => ⟨K, PySem.W.Frag.In.keeps hK k, ⟨⟨c.x.t, c.x.more, c.x.hd, c.x.out, fun p hp => k _ _ (c.x.empty p hp)⟩, c.ok, c.fns⟩⟩
theorem obsY_eq {n : Nat} {fa : List He.Fa} {fn : List He.DefD} {ts : List He.Tab} {tf : List He.Defn} {ex : Frag → Bool} {file : Str} {cf : List DefC} {g : Addr → Option Obj} {s : Shared} (h : ∀ a, g a = s.heap.get? a) : obsY n fa fn ts tf ex file cf g = (hookY n fa fn ts tf ex file cf).obs s := by
  have e : g = s.heap.get? := funext h
  rw [e] <;> rfl
end Hy

end PRE3

section PRE4
namespace Xm
open PySem PySem.Spec PyProof.Rows L2
open PySem.W (Frag)
abbrev veL : List Value := [.type "ValueError", .type "Exception", .type "BaseException", .type "object"]
abbrev leL : List Value := [.type "LookupError", .type "Exception", .type "BaseException", .type "object"]
abbrev ieL : List Value := [.type "IndexError", .type "LookupError", .type "Exception", .type "BaseException", .type "object"]
def xcB (K : Frag) (C : Addr) (B newId i : String) (bmB : List Value) : Bool :=
  PySem.W.excInitIn K C bmB newId && (PySem.W.excOver K C bmB && (decide (PySem.W.subIn K (.ref C) (.type B) = some true) && (decide (PySem.W.mroIn K C (.ref C) = some true) && (decide (PySem.W.ks_superIn K C C "__init__" = some (some (.builtin i))) &&
    (decide (PySem.W.nsIn K PySem.cStatics "thirdparty.any" = some none) && (decide (PySem.W.findIn K (.ref C) "__setattr__" = some (some (.builtin "object.__setattr__"))) && (xfB K C && (decide (PySem.W.typeIn K (.ref C) = some (.type "type")) && PySem.W.keepIn K (.ref C)))))))))
end Xm

end PRE4

section PRE5
namespace NB
open PySem PySem.Spec PyProof.Rows L2
open Xm
def fldNames : List Str := ["code", "at", "most", "node", "one", "other", "name", "word", "line", "value"]
def fldAllB (K : PySem.W.Frag) (C : Addr) : Bool := xfB K C && fldNames.all fun n => decide (PySem.W.findIn K (.ref C) n = some none)
end NB

end PRE5

section PRE6
namespace Ks
open PySem PySem.Spec PyProof.Rows L2
open PySem.W (Frag)
def supB (K : Frag) (C g : Addr) : Bool := decide (PySem.W.mroIn K C (.ref C) = some true) && (decide (PySem.W.ks_superIn K C C "__init__" = some (some (.ref g))) && (decide (PySem.W.typeIn K (.ref g) = some (.type "function")) && (PySem.W.fnIn K g && decide (PySem.W.nsIn K PySem.cStatics "thirdparty.any" = some none))))
end Ks

end PRE6

section PRE7
namespace NB
open PySem PySem.Spec PyProof.Rows L2
def cvB (K : PySem.W.Frag) (C : Addr) (f : Str) (v : V) : Bool := PySem.W.readsIn K C (.type "type") && (He.eqO (PySem.W.specialIn K (.ref C) "__getattribute__") (some (some (.builtin "type.__getattribute__"))) && (match PySem.W.findCls K (.ref C) (.type "type") f with
  | some (.val u) => He.relB v u
  | _ => false))
end NB

end PRE7

section EARLY
namespace K03
open PySem PySem.Spec PyProof.Rows L2 NB
def top (i : Nat) : Stmt := PySem.Challenge.pw_nearboughs_k03_rules_made.main.body.getD i (.Pass ⟨0, 0, 0, 0⟩)
abbrev s_is_listed : Stmt := top 12
abbrev N_is_listed : List Str := ["value"]
abbrev P_is_listed : List Str := ["value"]
theorem sc_is_listed : FnScope N_is_listed P_is_listed (defScope s_is_listed) := ⟨rfl, rfl, rfl, by decide +kernel, rfl, by decide +kernel, by decide +kernel⟩
abbrev s_is_word : Stmt := top 13
abbrev N_is_word : List Str := ["value", "most", "sign"]
abbrev P_is_word : List Str := ["value", "most"]
theorem sc_is_word : FnScope N_is_word P_is_word (defScope s_is_word) := ⟨rfl, rfl, rfl, by decide +kernel, rfl, by decide +kernel, by decide +kernel⟩
abbrev s_is_label : Stmt := top 19
abbrev N_is_label : List Str := ["value"]
abbrev P_is_label : List Str := ["value"]
theorem sc_is_label : FnScope N_is_label P_is_label (defScope s_is_label) := ⟨rfl, rfl, rfl, by decide +kernel, rfl, by decide +kernel, by decide +kernel⟩
abbrev s_Rule___init__ : Stmt := inClass (top 20) 1
abbrev N_Rule___init__ : List Str := ["self", "labels", "triples", "found", "at", "triple", "forms", "rank", "label", "top", "one", "other", "form"]
abbrev P_Rule___init__ : List Str := ["self", "labels", "triples"]
theorem sc_Rule___init__ : FnScope N_Rule___init__ P_Rule___init__ (defScope s_Rule___init__) := ⟨rfl, rfl, rfl, by decide +kernel, rfl, by decide +kernel, by decide +kernel⟩
abbrev s_Rule_is_triple : Stmt := inClass (top 20) 2
abbrev N_Rule_is_triple : List Str := ["self", "value", "part"]
abbrev P_Rule_is_triple : List Str := ["self", "value"]
theorem sc_Rule_is_triple : FnScope N_Rule_is_triple P_Rule_is_triple (defScope s_Rule_is_triple) := ⟨rfl, rfl, rfl, by decide +kernel, rfl, by decide +kernel, by decide +kernel⟩
abbrev s_Rule_has_label : Stmt := inClass (top 20) 3
abbrev N_Rule_has_label : List Str := ["self", "value"]
abbrev P_Rule_has_label : List Str := ["self", "value"]
theorem sc_Rule_has_label : FnScope N_Rule_has_label P_Rule_has_label (defScope s_Rule_has_label) := ⟨rfl, rfl, rfl, by decide +kernel, rfl, by decide +kernel, by decide +kernel⟩
abbrev s_Rule_plain : Stmt := inClass (top 20) 4
abbrev N_Rule_plain : List Str := ["self", "triple", "top", "one", "other"]
abbrev P_Rule_plain : List Str := ["self", "triple"]
theorem sc_Rule_plain : FnScope N_Rule_plain P_Rule_plain (defScope s_Rule_plain) := ⟨rfl, rfl, rfl, by decide +kernel, rfl, by decide +kernel, by decide +kernel⟩
abbrev s_Rule_labels : Stmt := inClass (top 20) 6
abbrev N_Rule_labels : List Str := ["self"]
abbrev P_Rule_labels : List Str := ["self"]
theorem sc_Rule_labels : FnScope N_Rule_labels P_Rule_labels (defScope s_Rule_labels) := ⟨rfl, rfl, rfl, by decide +kernel, rfl, by decide +kernel, by decide +kernel⟩
abbrev s_Rule_triples : Stmt := inClass (top 20) 7
abbrev N_Rule_triples : List Str := ["self"]
abbrev P_Rule_triples : List Str := ["self"]
theorem sc_Rule_triples : FnScope N_Rule_triples P_Rule_triples (defScope s_Rule_triples) := ⟨rfl, rfl, rfl, by decide +kernel, rfl, by decide +kernel, by decide +kernel⟩
abbrev s_Rule_below : Stmt := inClass (top 20) 9
abbrev N_Rule_below : List Str := ["self", "top"]
abbrev P_Rule_below : List Str := ["self", "top"]
theorem sc_Rule_below : FnScope N_Rule_below P_Rule_below (defScope s_Rule_below) := ⟨rfl, rfl, rfl, by decide +kernel, rfl, by decide +kernel, by decide +kernel⟩
abbrev s_Rule_allows : Stmt := inClass (top 20) 8
abbrev N_Rule_allows : List Str := ["self", "top", "one", "other"]
abbrev P_Rule_allows : List Str := ["self", "top", "one", "other"]
theorem sc_Rule_allows : FnScope N_Rule_allows P_Rule_allows (defScope s_Rule_allows) := ⟨rfl, rfl, rfl, by decide +kernel, rfl, by decide +kernel, by decide +kernel⟩
abbrev s_Rule___contains__ : Stmt := inClass (top 20) 16
abbrev N_Rule___contains__ : List Str := ["self", "triple"]
abbrev P_Rule___contains__ : List Str := ["self", "triple"]
theorem sc_Rule___contains__ : FnScope N_Rule___contains__ P_Rule___contains__ (defScope s_Rule___contains__) := ⟨rfl, rfl, rfl, by decide +kernel, rfl, by decide +kernel, by decide +kernel⟩
abbrev s_Rule___eq__ : Stmt := inClass (top 20) 17
abbrev N_Rule___eq__ : List Str := ["self", "other"]
abbrev P_Rule___eq__ : List Str := ["self", "other"]
theorem sc_Rule___eq__ : FnScope N_Rule___eq__ P_Rule___eq__ (defScope s_Rule___eq__) := ⟨rfl, rfl, rfl, by decide +kernel, rfl, by decide +kernel, by decide +kernel⟩
abbrev s_Rule___len__ : Stmt := inClass (top 20) 18
abbrev N_Rule___len__ : List Str := ["self"]
abbrev P_Rule___len__ : List Str := ["self"]
theorem sc_Rule___len__ : FnScope N_Rule___len__ P_Rule___len__ (defScope s_Rule___len__) := ⟨rfl, rfl, rfl, by decide +kernel, rfl, by decide +kernel, by decide +kernel⟩
abbrev s_Rule___repr__ : Stmt := inClass (top 20) 19
abbrev N_Rule___repr__ : List Str := ["self"]
abbrev P_Rule___repr__ : List Str := ["self"]
theorem sc_Rule___repr__ : FnScope N_Rule___repr__ P_Rule___repr__ (defScope s_Rule___repr__) := ⟨rfl, rfl, rfl, by decide +kernel, rfl, by decide +kernel, by decide +kernel⟩
abbrev s_checked_labels : Stmt := top 21
abbrev N_checked_labels : List Str := ["labels", "found", "label"]
abbrev P_checked_labels : List Str := ["labels"]
theorem sc_checked_labels : FnScope N_checked_labels P_checked_labels (defScope s_checked_labels) := ⟨rfl, rfl, rfl, by decide +kernel, rfl, by decide +kernel, by decide +kernel⟩
abbrev s__law_tape : Stmt := top 25
abbrev N__law_tape : List Str := ["_law_script"]
abbrev P__law_tape : List Str := ["_law_script"]
theorem sc__law_tape : FnScope N__law_tape P__law_tape (defScope s__law_tape) := ⟨rfl, rfl, rfl, by decide +kernel, rfl, by decide +kernel, by decide +kernel⟩
abbrev s__law_pick : Stmt := top 26
abbrev N__law_pick : List Str := ["_law_tape_here", "_law_many", "_law_cell", "_law_digit", "_law_square"]
abbrev P__law_pick : List Str := ["_law_tape_here", "_law_many"]
theorem sc__law_pick : FnScope N__law_pick P__law_pick (defScope s__law_pick) := ⟨rfl, rfl, rfl, by decide +kernel, rfl, by decide +kernel, by decide +kernel⟩
abbrev s__law_of : Stmt := top 27
abbrev N__law_of : List Str := ["_law_tape_here", "_law_some"]
abbrev P__law_of : List Str := ["_law_tape_here", "_law_some"]
theorem sc__law_of : FnScope N__law_of P__law_of (defScope s__law_of) := ⟨rfl, rfl, rfl, by decide +kernel, rfl, by decide +kernel, by decide +kernel⟩
abbrev s__law_mixed : Stmt := top 28
abbrev N__law_mixed : List Str := ["_law_tape_here", "_law_some", "_law_found", "_law_thing"]
abbrev P__law_mixed : List Str := ["_law_tape_here", "_law_some"]
theorem sc__law_mixed : FnScope N__law_mixed P__law_mixed (defScope s__law_mixed) := ⟨rfl, rfl, rfl, by decide +kernel, rfl, by decide +kernel, by decide +kernel⟩
abbrev s__law_same : Stmt := top 29
abbrev N__law_same : List Str := ["_law_found", "_law_due", "_law_alike", "_law_a", "_law_b"]
abbrev P__law_same : List Str := ["_law_found", "_law_due"]
theorem sc__law_same : FnScope N__law_same P__law_same (defScope s__law_same) := ⟨rfl, rfl, rfl, by decide +kernel, rfl, by decide +kernel, by decide +kernel⟩
abbrev s__law_names : Stmt := top 30
abbrev N__law_names : List Str := ["_law_tape_here", "_law_many", "_law_abc", "_law_stem", "_law_spot", "_law_start", "_law_found", "_law_bad", "_law_k", "_law_word"]
abbrev P__law_names : List Str := ["_law_tape_here", "_law_many"]
theorem sc__law_names : FnScope N__law_names P__law_names (defScope s__law_names) := ⟨rfl, rfl, rfl, by decide +kernel, rfl, by decide +kernel, by decide +kernel⟩
abbrev s__law_forms : Stmt := top 31
abbrev N__law_forms : List Str := ["_law_words", "_law_found", "_law_a", "_law_b", "_law_word"]
abbrev P__law_forms : List Str := ["_law_words"]
theorem sc__law_forms : FnScope N__law_forms P__law_forms (defScope s__law_forms) := ⟨rfl, rfl, rfl, by decide +kernel, rfl, by decide +kernel, by decide +kernel⟩
abbrev s__law_menu : Stmt := top 32
abbrev N__law_menu : List Str := ["_law_at", "_law_rows"]
abbrev P__law_menu : List Str := ["_law_at"]
theorem sc__law_menu : FnScope N__law_menu P__law_menu (defScope s__law_menu) := ⟨rfl, rfl, rfl, by decide +kernel, rfl, by decide +kernel, by decide +kernel⟩
abbrev s__law_plain : Stmt := top 33
abbrev N__law_plain : List Str := ["_law_words", "_law_triple", "_law_a", "_law_b", "_law_c"]
abbrev P__law_plain : List Str := ["_law_words", "_law_triple"]
theorem sc__law_plain : FnScope N__law_plain P__law_plain (defScope s__law_plain) := ⟨rfl, rfl, rfl, by decide +kernel, rfl, by decide +kernel, by decide +kernel⟩
abbrev s__law_known : Stmt := top 34
abbrev N__law_known : List Str := ["_law_tape_here", "_law_at"]
abbrev P__law_known : List Str := ["_law_tape_here", "_law_at"]
theorem sc__law_known : FnScope N__law_known P__law_known (defScope s__law_known) := ⟨rfl, rfl, rfl, by decide +kernel, rfl, by decide +kernel, by decide +kernel⟩
abbrev s__law_spec : Stmt := top 35
abbrev N__law_spec : List Str := ["_law_tape_here", "_law_words", "_law_share", "_law_form"]
abbrev P__law_spec : List Str := ["_law_tape_here"]
theorem sc__law_spec : FnScope N__law_spec P__law_spec (defScope s__law_spec) := ⟨rfl, rfl, rfl, by decide +kernel, rfl, by decide +kernel, by decide +kernel⟩
abbrev s__law_turned : Stmt := top 36
abbrev N__law_turned : List Str := ["_law_tape_here", "_law_triple"]
abbrev P__law_turned : List Str := ["_law_tape_here", "_law_triple"]
theorem sc__law_turned : FnScope N__law_turned P__law_turned (defScope s__law_turned) := ⟨rfl, rfl, rfl, by decide +kernel, rfl, by decide +kernel, by decide +kernel⟩
abbrev s__law_placed : Stmt := top 37
abbrev N__law_placed : List Str := ["_law_tape_here", "_law_at", "_law_many", "_law_places", "_law_words", "_law_mixed_here", "_law_plain_here", "_law_a", "_law_b", "_law_c", "_law_form"]
abbrev P__law_placed : List Str := ["_law_tape_here", "_law_at"]
theorem sc__law_placed : FnScope N__law_placed P__law_placed (defScope s__law_placed) := ⟨rfl, rfl, rfl, by decide +kernel, rfl, by decide +kernel, by decide +kernel⟩
abbrev s__law_asked_so : Stmt := top 38
abbrev N__law_asked_so : List Str := ["_law_tape_here", "_law_words", "_law_forms_here", "_law_made", "_law_far", "_law_k", "_law_a", "_law_b", "_law_c", "_law_due", "_law_told", "_law_odd", "_law_j"]
abbrev P__law_asked_so : List Str := ["_law_tape_here", "_law_words", "_law_forms_here", "_law_made"]
theorem sc__law_asked_so : FnScope N__law_asked_so P__law_asked_so (defScope s__law_asked_so) := ⟨rfl, rfl, rfl, by decide +kernel, rfl, by decide +kernel, by decide +kernel⟩
abbrev s_law : Stmt := top 39
abbrev N_law : List Str := ["_law_script", "_law_tape_here", "_law_turn", "_law_spec_here", "_law_words", "_law_triples_z", "_law_kept", "_law_made", "_law_shown", "_law_top_z", "_law_late", "_law_form", "_law_a", "_law_b", "_law_c"]
abbrev P_law : List Str := ["_law_script"]
theorem sc_law : FnScope N_law P_law (defScope s_law) := ⟨rfl, rfl, rfl, by decide +kernel, rfl, by decide +kernel, by decide +kernel⟩
def fa : List He.Fa := [.glo "is_listed", .glo "is_word", .glo "is_label", .glo "checked_labels", .glo "_law_tape", .glo "_law_pick", .glo "_law_of", .glo "_law_mixed", .glo "_law_same", .glo "_law_names", .glo "_law_forms", .glo "_law_menu", .glo "_law_plain", .glo "_law_known", .glo "_law_spec", .glo "_law_turned", .glo "_law_placed", .glo "_law_asked_so", .glo "law", .glo "Rule", .cls "Rule", .noat "Rule" "known", .noat "Rule" "own_labels", .noat "Rule" "own_triples", .noat "Rule" "pairs", .noat "Rule" "ranks", .meth "Rule" "__contains__", .meth "Rule" "__eq__", .meth "Rule" "__len__", .meth "Rule" "__repr__", .meth "Rule" "allows", .meth "Rule" "below", .meth "Rule" "has_label", .meth "Rule" "is_triple", .meth "Rule" "labels", .meth "Rule" "plain", .meth "Rule" "triples", .mkr "Rule", .free "all", .free "bool", .free "enumerate", .free "int", .free "isinstance", .free "len", .free "list", .free "range", .free "repr", .free "str", .free "super", .free "tuple", .free "zip", .glo "BARRED", .str "LETTERS" "abcdefghijklmnopqrstuvwxyz", .int "MOST_LABELS" 5, .int "MOST_LETTERS" 6]
def df_is_listed : He.DefD := ⟨("is_listed", none), "is_listed", "is_listed", defArgs s_is_listed, defBody s_is_listed, defScope s_is_listed, [], []⟩
def df_is_word : He.DefD := ⟨("is_word", none), "is_word", "is_word", defArgs s_is_word, defBody s_is_word, defScope s_is_word, [], []⟩
def df_is_label : He.DefD := ⟨("is_label", none), "is_label", "is_label", defArgs s_is_label, defBody s_is_label, defScope s_is_label, [], []⟩
def df_Rule___init__ : He.DefD := ⟨("Rule", some "__init__"), "__init__", "Rule.__init__", defArgs s_Rule___init__, defBody s_Rule___init__, defScope s_Rule___init__, [.adr (He.dflAt ("Rule", some "__init__") 0)], []⟩
def df_Rule_is_triple : He.DefD := ⟨("Rule", some "is_triple"), "is_triple", "Rule.is_triple", defArgs s_Rule_is_triple, defBody s_Rule_is_triple, defScope s_Rule_is_triple, [], []⟩
def df_Rule_has_label : He.DefD := ⟨("Rule", some "has_label"), "has_label", "Rule.has_label", defArgs s_Rule_has_label, defBody s_Rule_has_label, defScope s_Rule_has_label, [], []⟩
def df_Rule_plain : He.DefD := ⟨("Rule", some "plain"), "plain", "Rule.plain", defArgs s_Rule_plain, defBody s_Rule_plain, defScope s_Rule_plain, [], []⟩
def df_Rule_labels : He.DefD := ⟨("Rule", some "labels"), "labels", "Rule.labels", defArgs s_Rule_labels, defBody s_Rule_labels, defScope s_Rule_labels, [], []⟩
def df_Rule_triples : He.DefD := ⟨("Rule", some "triples"), "triples", "Rule.triples", defArgs s_Rule_triples, defBody s_Rule_triples, defScope s_Rule_triples, [], []⟩
def df_Rule_below : He.DefD := ⟨("Rule", some "below"), "below", "Rule.below", defArgs s_Rule_below, defBody s_Rule_below, defScope s_Rule_below, [], []⟩
def df_Rule_allows : He.DefD := ⟨("Rule", some "allows"), "allows", "Rule.allows", defArgs s_Rule_allows, defBody s_Rule_allows, defScope s_Rule_allows, [], []⟩
def df_Rule___contains__ : He.DefD := ⟨("Rule", some "__contains__"), "__contains__", "Rule.__contains__", defArgs s_Rule___contains__, defBody s_Rule___contains__, defScope s_Rule___contains__, [], []⟩
def df_Rule___eq__ : He.DefD := ⟨("Rule", some "__eq__"), "__eq__", "Rule.__eq__", defArgs s_Rule___eq__, defBody s_Rule___eq__, defScope s_Rule___eq__, [], []⟩
def df_Rule___len__ : He.DefD := ⟨("Rule", some "__len__"), "__len__", "Rule.__len__", defArgs s_Rule___len__, defBody s_Rule___len__, defScope s_Rule___len__, [], []⟩
def df_Rule___repr__ : He.DefD := ⟨("Rule", some "__repr__"), "__repr__", "Rule.__repr__", defArgs s_Rule___repr__, defBody s_Rule___repr__, defScope s_Rule___repr__, [], []⟩
def df_checked_labels : He.DefD := ⟨("checked_labels", none), "checked_labels", "checked_labels", defArgs s_checked_labels, defBody s_checked_labels, defScope s_checked_labels, [], []⟩
def df__law_tape : He.DefD := ⟨("_law_tape", none), "_law_tape", "_law_tape", defArgs s__law_tape, defBody s__law_tape, defScope s__law_tape, [], []⟩
def df__law_pick : He.DefD := ⟨("_law_pick", none), "_law_pick", "_law_pick", defArgs s__law_pick, defBody s__law_pick, defScope s__law_pick, [], []⟩
def df__law_of : He.DefD := ⟨("_law_of", none), "_law_of", "_law_of", defArgs s__law_of, defBody s__law_of, defScope s__law_of, [], []⟩
def df__law_mixed : He.DefD := ⟨("_law_mixed", none), "_law_mixed", "_law_mixed", defArgs s__law_mixed, defBody s__law_mixed, defScope s__law_mixed, [], []⟩
def df__law_same : He.DefD := ⟨("_law_same", none), "_law_same", "_law_same", defArgs s__law_same, defBody s__law_same, defScope s__law_same, [], []⟩
def df__law_names : He.DefD := ⟨("_law_names", none), "_law_names", "_law_names", defArgs s__law_names, defBody s__law_names, defScope s__law_names, [], []⟩
def df__law_forms : He.DefD := ⟨("_law_forms", none), "_law_forms", "_law_forms", defArgs s__law_forms, defBody s__law_forms, defScope s__law_forms, [], []⟩
def df__law_menu : He.DefD := ⟨("_law_menu", none), "_law_menu", "_law_menu", defArgs s__law_menu, defBody s__law_menu, defScope s__law_menu, [], []⟩
def df__law_plain : He.DefD := ⟨("_law_plain", none), "_law_plain", "_law_plain", defArgs s__law_plain, defBody s__law_plain, defScope s__law_plain, [], []⟩
def df__law_known : He.DefD := ⟨("_law_known", none), "_law_known", "_law_known", defArgs s__law_known, defBody s__law_known, defScope s__law_known, [], []⟩
def df__law_spec : He.DefD := ⟨("_law_spec", none), "_law_spec", "_law_spec", defArgs s__law_spec, defBody s__law_spec, defScope s__law_spec, [], []⟩
def df__law_turned : He.DefD := ⟨("_law_turned", none), "_law_turned", "_law_turned", defArgs s__law_turned, defBody s__law_turned, defScope s__law_turned, [], []⟩
def df__law_placed : He.DefD := ⟨("_law_placed", none), "_law_placed", "_law_placed", defArgs s__law_placed, defBody s__law_placed, defScope s__law_placed, [], []⟩
def df__law_asked_so : He.DefD := ⟨("_law_asked_so", none), "_law_asked_so", "_law_asked_so", defArgs s__law_asked_so, defBody s__law_asked_so, defScope s__law_asked_so, [], []⟩
def df_law : He.DefD := ⟨("law", none), "law", "law", defArgs s_law, defBody s_law, defScope s_law, [], []⟩
def fn : List He.DefD := [df_is_listed, df_is_word, df_is_label, df_Rule___init__, df_Rule_is_triple, df_Rule_has_label, df_Rule_plain, df_Rule_labels, df_Rule_triples, df_Rule_below, df_Rule_allows, df_Rule___contains__, df_Rule___eq__, df_Rule___len__, df_Rule___repr__, df_checked_labels, df__law_tape, df__law_pick, df__law_of, df__law_mixed, df__law_same, df__law_names, df__law_forms, df__law_menu, df__law_plain, df__law_known, df__law_spec, df__law_turned, df__law_placed, df__law_asked_so, df_law]
def exB (K : PySem.W.Frag) : Bool := neB K (He.ga K "Rule") && (insB K (He.ga K "Rule") && (nilB K (He.dflAt ("Rule", some "__init__") 0 K) && (He.tupB K "BARRED" [.str "all", .str "and", .str "else", .str "fork", .str "labels", .str "not", .str "or", .str "some", .str "there", .str "top", .str "twins", .str "unlike"] && (cvB K (He.ga K "Rule") "MOST" (.int 5) && (true)))))
def file0 : Str := PySem.Challenge.pw_nearboughs_k03_rules_made.main.file
def cfl : List Hy.DefC := []
end K03
namespace K03
open PySem PySem.Spec PyProof.Rows L2 NB
/-! ### the head: the top's run, the facts read off it -/
def loose0 : List PySem.Str := ["_wall", "BoughError", "InvalidLabel", "InvalidRule", "InvalidTriple", "InvalidText", "Unlike", "Missing", "UnknownLabel", "LETTERS", "is_listed", "is_word", "lines_of", "BARRED", "MOST_LETTERS", "MOST_LABELS", "is_label", "Rule", "checked_labels", "rule_in", "triple_in", "_law_tape", "_law_pick", "_law_of", "_law_mixed", "_law_same", "_law_names", "_law_forms", "_law_menu", "_law_plain"]
def loose1 : List PySem.Str := ["_law_known", "_law_spec", "_law_turned", "_law_placed", "_law_asked_so"]
def loose : List PySem.Str := loose0 ++ loose1
abbrev R : PySem.W.OpenRow := PySem.W.OpenLaw.row PySem.Challenge.rw_nearboughs_k03_rules_made
abbrev hk : PySem.W.Hook := Hy.hookY 7 fa fn [] [("law", none)] exB file0 cfl
def ob (s : PySem.W.SharedT) : Hy.AlY := Hy.obsY 7 fa fn [] [("law", none)] exB file0 cfl (HandSHeadRun.getT s)
theorem ob_eq (s : PySem.W.SharedT) : ob s = hk.obs s.abs := Hy.obsY_eq (HandSHeadRun.getT_eq s)
theorem run (w : World) : HandSHeadRun.RunEq R (PySem.W.view R.prog [39]) hk ob 100000 loose w := by
  intro os
  kernel_rfl
end K03
end EARLY

section PART_NB1
set_option Elab.async false
set_option linter.all false
set_option maxRecDepth 100000
set_option maxHeartbeats 4000000
set_option autoImplicit false
/-! NB1: data that stand in the heap and never change; evaluation over data alone. -/
namespace NB
open PySem PySem.Spec PyProof.Rows L2
abbrev St : Type := L2.St

/-- data -/
inductive D where
  | non | bl (b : Bool) | int (i : Int) | str (x : Str) | ty (n : String) | loc (a : Addr)
  | tup (xs : List D) | lst (xs : List D) | ktup (xs : List D)
  | dF (kvs : List (Key × D)) | lF (xs : List D)
  | dK (kvs : List (Key × D)) | dT (kvs : List (List Key × D))
  | obj (C : Addr) (fs : List (Str × D))

mutual
inductive Is (K : PySem.W.Frag) (H : Hp) : V → D → Prop
  | non : Is K H .non .non
  | bl (b : Bool) : Is K H (.bl b) (.bl b)
  | int (i : Int) : Is K H (.int i) (.int i)
  | str (x : Str) : Is K H (.str x) (.str x)
  | ty (n : String) : Is K H (.ty n) (.ty n)
  | loc (a : Addr) : Is K H (.ref a) (.loc a)
  | tup {a : Addr} {vs : List V} {ds : List D} : H a = some (.tup vs) → Iss K H vs ds → Is K H (.ref a) (.tup ds)
  | ktup {a : Addr} {vs : List V} {ds : List D} : SqT K (fun _ => none) a vs → Iss K H vs ds → Is K H (.ref a) (.ktup ds)
  | lst {a : Addr} {vs : List V} {ds : List D} : H a = some (.lst vs) → Iss K H vs ds → Is K H (.ref a) (.lst ds)
  | dK {a : Addr} {kvs : List (Key × V)} {ds : List (Key × D)} : Rd H a (.dK kvs) → kvs.map (·.1) = ds.map (·.1) → Iss K H (kvs.map (·.2)) (ds.map (·.2)) → Is K H (.ref a) (.dK ds)
  | dF {a : Addr} {o : Obj} {kvs : List (Key × V)} {ds : List (Key × D)} : H a = some (.frz o (.dK kvs)) → kvs.map (·.1) = ds.map (·.1) → Iss K H (kvs.map (·.2)) (ds.map (·.2)) → Is K H (.ref a) (.dF ds)
  | lF {a : Addr} {o : Obj} {vs : List V} {ds : List D} : H a = some (.frz o (.lst vs)) → Iss K H vs ds → Is K H (.ref a) (.lF ds)
  | dT {a : Addr} {kvs : List (List Key × V)} {ds : List (List Key × D)} : Rd H a (.dT kvs) → kvs.map (·.1) = ds.map (·.1) → Iss K H (kvs.map (·.2)) (ds.map (·.2)) → Is K H (.ref a) (.dT ds)
  | obj {a C dx : Addr} {fs : List (Str × V)} {ds : List (Str × D)} : H a = some (.ins C dx fs) → fs.map (·.1) = ds.map (·.1) → Iss K H (fs.map (·.2)) (ds.map (·.2)) → Is K H (.ref a) (.obj C ds)
inductive Iss (K : PySem.W.Frag) (H : Hp) : List V → List D → Prop
  | nil : Iss K H [] []
  | cons {v : V} {d : D} {vs : List V} {ds : List D} : Is K H v d → Iss K H vs ds → Iss K H (v :: vs) (d :: ds)
end

section
variable {K : PySem.W.Frag} {H H' : Hp}
theorem Rd.ex {a : Addr} {u : HO} (e : ∀ a o, H a = some o → H' a = some o) (h : Rd H a u) : Rd H' a u := by
  rcases h with h | ⟨o, h⟩
  · exact .inl (e _ _ h)
  · exact .inr ⟨o, e _ _ h⟩
theorem sqL_ex {a : Addr} {xs : List V} (e : ∀ a o, H a = some o → H' a = some o) (h : SqL K H a xs) : SqL K H' a xs := by
  rcases h with h | h
  · exact .inl (Rd.ex e h)
  · exact .inr h
theorem sqT_ex {a : Addr} {xs : List V} (e : ∀ a o, H a = some o → H' a = some o) (h : SqT K H a xs) : SqT K H' a xs := by
  rcases h with h | h
  · exact .inl (Rd.ex e h)
  · exact .inr h
/-- what is read of H may be read of H' -/
structure Ex2 (H H' : Hp) : Prop where
  l : ∀ a vs, H a = some (.lst vs) → H' a = some (.lst vs)
  t : ∀ a vs, H a = some (.tup vs) → H' a = some (.tup vs)
  i : ∀ a C dx fs, H a = some (.ins C dx fs) → H' a = some (.ins C dx fs)
  k : ∀ a kvs, Rd H a (.dK kvs) → Rd H' a (.dK kvs)
  u : ∀ a kvs, Rd H a (.dT kvs) → Rd H' a (.dT kvs)
  f : ∀ a o kvs, H a = some (.frz o (.dK kvs)) → H' a = some (.frz o (.dK kvs))
  g : ∀ a o vs, H a = some (.frz o (.lst vs)) → H' a = some (.frz o (.lst vs))
mutual
theorem Is.ex2 (e : Ex2 H H') : ∀ {v : V} {d : D}, Is K H v d → Is K H' v d
  | _, _, .non => .non
  | _, _, .bl b => .bl b
  | _, _, .int i => .int i
  | _, _, .str x => .str x
  | _, _, .ty n => .ty n
  | _, _, .loc a => .loc a
  | _, _, .tup h t => .tup (e.t _ _ h) (Iss.ex2 e t)
  | _, _, .ktup h t => .ktup h (Iss.ex2 e t)
  | _, _, .lst h t => .lst (e.l _ _ h) (Iss.ex2 e t)
  | _, _, .dK h k t => .dK (e.k _ _ h) k (Iss.ex2 e t)
  | _, _, .dF h k t => .dF (e.f _ _ _ h) k (Iss.ex2 e t)
  | _, _, .lF h t => .lF (e.g _ _ _ h) (Iss.ex2 e t)
  | _, _, .dT h k t => .dT (e.u _ _ h) k (Iss.ex2 e t)
  | _, _, .obj h k t => .obj (e.i _ _ _ _ h) k (Iss.ex2 e t)
theorem Iss.ex2 (e : Ex2 H H') : ∀ {vs : List V} {ds : List D}, Iss K H vs ds → Iss K H' vs ds
  | _, _, .nil => .nil
  | _, _, .cons h t => .cons (Is.ex2 e h) (Iss.ex2 e t)
end
mutual
/-- nothing in it is known to be locked -/
inductive NoF : D → Prop
  | non : NoF .non
  | bl (b : Bool) : NoF (.bl b)
  | int (i : Int) : NoF (.int i)
  | str (x : Str) : NoF (.str x)
  | ty (n : String) : NoF (.ty n)
  | loc (a : Addr) : NoF (.loc a)
  | tup {xs : List D} : NoFs xs → NoF (.tup xs)
  | ktup {xs : List D} : NoFs xs → NoF (.ktup xs)
  | lst {xs : List D} : NoFs xs → NoF (.lst xs)
  | dK {kvs : List (Key × D)} : NoFs (kvs.map (·.2)) → NoF (.dK kvs)
  | dT {kvs : List (List Key × D)} : NoFs (kvs.map (·.2)) → NoF (.dT kvs)
  | obj {C : Addr} {fs : List (Str × D)} : NoFs (fs.map (·.2)) → NoF (.obj C fs)
inductive NoFs : List D → Prop
  | nil : NoFs []
  | cons {d : D} {ds : List D} : NoF d → NoFs ds → NoFs (d :: ds)
end
theorem noFs_of : ∀ {ds : List D}, (∀ d ∈ ds, NoF d) → NoFs ds
  | [], _ => .nil
  | d :: ds, h => .cons (h d List.mem_cons_self) (noFs_of fun x m => h x (List.mem_cons_of_mem _ m))
/-- .. where nothing is known to be locked -/
structure Ex3 (H H' : Hp) : Prop where
  l : ∀ a vs, H a = some (.lst vs) → H' a = some (.lst vs)
  t : ∀ a vs, H a = some (.tup vs) → H' a = some (.tup vs)
  i : ∀ a C dx fs, H a = some (.ins C dx fs) → H' a = some (.ins C dx fs)
  k : ∀ a kvs, Rd H a (.dK kvs) → Rd H' a (.dK kvs)
  u : ∀ a kvs, Rd H a (.dT kvs) → Rd H' a (.dT kvs)
theorem Is.ex3 (e : Ex3 H H') {v : V} {d : D} (h : Is K H v d) (n : NoF d) : Is K H' v d := by
  revert n
  refine Is.rec (motive_1 := fun v d _ => NoF d → Is K H' v d) (motive_2 := fun vs ds _ => NoFs ds → Iss K H' vs ds) ?_ ?_ ?_ ?_ ?_ ?_ ?_ ?_ ?_ ?_ ?_ ?_ ?_ ?_ ?_ ?_ h
  · exact fun _ => .non
  · exact fun b _ => .bl b
  · exact fun i _ => .int i
  · exact fun x _ => .str x
  · exact fun n _ => .ty n
  · exact fun a _ => .loc a
  · intro a vs ds h t ih n
    cases n with | tup n => exact .tup (e.t _ _ h) (ih n)
  · intro a vs ds h t ih n
    cases n with | ktup n => exact .ktup h (ih n)
  · intro a vs ds h t ih n
    cases n with | lst n => exact .lst (e.l _ _ h) (ih n)
  · intro a kvs ds h k t ih n
    cases n with | dK n => exact .dK (e.k _ _ h) k (ih n)
  · intro a o kvs ds h k t ih n
    cases n
  · intro a o vs ds h t ih n
    cases n
  · intro a kvs ds h k t ih n
    cases n with | dT n => exact .dT (e.u _ _ h) k (ih n)
  · intro a C dx fs ds h k t ih n
    cases n with | obj n => exact .obj (e.i _ _ _ _ h) k (ih n)
  · exact fun _ => .nil
  · intro v d vs ds h t ih1 ih2 n
    cases n with | cons n m => exact .cons (ih1 n) (ih2 m)
mutual
theorem Is.ex (e : ∀ a o, H a = some o → H' a = some o) : ∀ {v : V} {d : D}, Is K H v d → Is K H' v d
  | _, _, .non => .non
  | _, _, .bl b => .bl b
  | _, _, .int i => .int i
  | _, _, .str x => .str x
  | _, _, .ty n => .ty n
  | _, _, .loc a => .loc a
  | _, _, .tup h t => .tup (e _ _ h) (Iss.ex e t)
  | _, _, .ktup h t => .ktup h (Iss.ex e t)
  | _, _, .lst h t => .lst (e _ _ h) (Iss.ex e t)
  | _, _, .dK h k t => .dK (Rd.ex e h) k (Iss.ex e t)
  | _, _, .dF h k t => .dF (e _ _ h) k (Iss.ex e t)
  | _, _, .lF h t => .lF (e _ _ h) (Iss.ex e t)
  | _, _, .dT h k t => .dT (Rd.ex e h) k (Iss.ex e t)
  | _, _, .obj h k t => .obj (e _ _ h) k (Iss.ex e t)
theorem Iss.ex (e : ∀ a o, H a = some o → H' a = some o) : ∀ {vs : List V} {ds : List D}, Iss K H vs ds → Iss K H' vs ds
  | _, _, .nil => .nil
  | _, _, .cons h t => .cons (Is.ex e h) (Iss.ex e t)
end
theorem Iss.length : ∀ {vs : List V} {ds : List D}, Iss K H vs ds → vs.length = ds.length
  | _, _, .nil => rfl
  | _, _, .cons _ t => congrArg (· + 1) (Iss.length t)
theorem Iss.get : ∀ {vs : List V} {ds : List D} {i : Nat} {d : D}, Iss K H vs ds → ds[i]? = some d → ∃ v, vs[i]? = some v ∧ Is K H v d
  | _, _, _, _, .nil, e => by simp at e
  | _, _, 0, _, .cons h _, e => by
    simp at e
    subst e
    exact ⟨_, rfl, h⟩
  | _, _, i + 1, _, .cons _ t, e => by
    obtain ⟨v, h1, h2⟩ := Iss.get (i := i) t (by simpa using e)
    exact ⟨v, by simpa using h1, h2⟩
theorem Iss.getV : ∀ {vs : List V} {ds : List D} {i : Nat} {v : V}, Iss K H vs ds → vs[i]? = some v → ∃ d, ds[i]? = some d ∧ Is K H v d
  | _, _, _, _, .nil, e => by simp at e
  | _, _, 0, _, .cons h _, e => by
    simp at e
    subst e
    exact ⟨_, rfl, h⟩
  | _, _, i + 1, _, .cons _ t, e => by
    obtain ⟨v, h1, h2⟩ := Iss.getV (i := i) t (by simpa using e)
    exact ⟨v, by simpa using h1, h2⟩
theorem Iss.append : ∀ {vs ws : List V} {ds es : List D}, Iss K H vs ds → Iss K H ws es → Iss K H (vs ++ ws) (ds ++ es)
  | _, _, _, _, .nil, t => t
  | _, _, _, _, .cons h s, t => .cons h (Iss.append s t)
theorem Iss.take : ∀ {vs : List V} {ds : List D} (n : Nat), Iss K H vs ds → Iss K H (vs.take n) (ds.take n)
  | _, _, 0, _ => .nil
  | _, _, _ + 1, .nil => .nil
  | _, _, n + 1, .cons h t => .cons h (Iss.take n t)
theorem Iss.drop : ∀ {vs : List V} {ds : List D} (n : Nat), Iss K H vs ds → Iss K H (vs.drop n) (ds.drop n)
  | _, _, 0, h => h
  | _, _, _ + 1, .nil => .nil
  | _, _, n + 1, .cons _ t => Iss.drop n t
theorem Iss.set : ∀ {vs : List V} {ds : List D} (i : Nat) {v : V} {d : D}, Is K H v d → Iss K H vs ds → Iss K H (vs.set i v) (ds.set i d)
  | _, _, _, _, _, _, .nil => .nil
  | _, _, 0, _, _, h, .cons _ t => .cons h t
  | _, _, i + 1, _, _, h, .cons q t => .cons q (Iss.set i h t)
theorem Iss.reverse : ∀ {vs : List V} {ds : List D}, Iss K H vs ds → Iss K H vs.reverse ds.reverse
  | _, _, .nil => .nil
  | _, _, .cons h t => by
    rw [List.reverse_cons, List.reverse_cons]
    exact Iss.append (Iss.reverse t) (.cons h .nil)
theorem Iss.replicate {v : V} {d : D} (h : Is K H v d) : ∀ n : Nat, Iss K H (List.replicate n v) (List.replicate n d)
  | 0 => .nil
  | n + 1 => .cons h (Iss.replicate h n)
theorem Iss.rep {vs : List V} {ds : List D} (h : Iss K H vs ds) : ∀ n : Nat, Iss K H (List.replicate n vs).flatten (List.replicate n ds).flatten
  | 0 => .nil
  | n + 1 => by
    rw [List.replicate_succ, List.replicate_succ, List.flatten_cons, List.flatten_cons]
    exact Iss.append h (Iss.rep h n)
/-! inversions -/
theorem is_non {v : V} (h : Is K H v .non) : v = .non := by cases h; rfl
theorem is_bl {v : V} {b : Bool} (h : Is K H v (.bl b)) : v = .bl b := by cases h; rfl
theorem is_int {v : V} {i : Int} (h : Is K H v (.int i)) : v = .int i := by cases h; rfl
theorem is_str {v : V} {x : Str} (h : Is K H v (.str x)) : v = .str x := by cases h; rfl
theorem is_ty {v : V} {n : String} (h : Is K H v (.ty n)) : v = .ty n := by cases h; rfl
theorem is_loc {v : V} {a : Addr} (h : Is K H v (.loc a)) : v = .ref a := by cases h; rfl
theorem is_tup {v : V} {ds : List D} (h : Is K H v (.tup ds)) : ∃ a vs, v = .ref a ∧ SqT K H a vs ∧ Iss K H vs ds := by cases h with | tup h t => exact ⟨_, _, rfl, .inl (.inl h), t⟩
theorem is_tupX {v : V} {ds : List D} (h : Is K H v (.tup ds)) : ∃ a vs, v = .ref a ∧ H a = some (.tup vs) ∧ Iss K H vs ds := by cases h with | tup h t => exact ⟨_, _, rfl, h, t⟩
theorem is_ktup {v : V} {ds : List D} (h : Is K H v (.ktup ds)) : ∃ a vs, v = .ref a ∧ SqT K H a vs ∧ Iss K H vs ds := by cases h with | ktup h t => exact ⟨_, _, rfl, sqT_ex (fun _ _ z => by cases z) h, t⟩
theorem is_lst {v : V} {ds : List D} (h : Is K H v (.lst ds)) : ∃ a vs, v = .ref a ∧ H a = some (.lst vs) ∧ Iss K H vs ds := by cases h with | lst h t => exact ⟨_, _, rfl, h, t⟩
theorem is_dK {v : V} {ds : List (Key × D)} (h : Is K H v (.dK ds)) : ∃ a kvs, v = .ref a ∧ Rd H a (.dK kvs) ∧ kvs.map (·.1) = ds.map (·.1) ∧ Iss K H (kvs.map (·.2)) (ds.map (·.2)) := by cases h with | dK h k t => exact ⟨_, _, rfl, h, k, t⟩
theorem is_dF {v : V} {ds : List (Key × D)} (h : Is K H v (.dF ds)) : ∃ a o kvs, v = .ref a ∧ H a = some (.frz o (.dK kvs)) ∧ kvs.map (·.1) = ds.map (·.1) ∧ Iss K H (kvs.map (·.2)) (ds.map (·.2)) := by cases h with | dF h k t => exact ⟨_, _, _, rfl, h, k, t⟩
theorem is_lF {v : V} {ds : List D} (h : Is K H v (.lF ds)) : ∃ a o vs, v = .ref a ∧ H a = some (.frz o (.lst vs)) ∧ Iss K H vs ds := by cases h with | lF h t => exact ⟨_, _, _, rfl, h, t⟩
theorem is_dT {v : V} {ds : List (List Key × D)} (h : Is K H v (.dT ds)) : ∃ a kvs, v = .ref a ∧ Rd H a (.dT kvs) ∧ kvs.map (·.1) = ds.map (·.1) ∧ Iss K H (kvs.map (·.2)) (ds.map (·.2)) := by cases h with | dT h k t => exact ⟨_, _, rfl, h, k, t⟩
theorem is_obj {v : V} {C : Addr} {ds : List (Str × D)} (h : Is K H v (.obj C ds)) : ∃ a dx fs, v = .ref a ∧ H a = some (.ins C dx fs) ∧ fs.map (·.1) = ds.map (·.1) ∧ Iss K H (fs.map (·.2)) (ds.map (·.2)) := by cases h with | obj h k t => exact ⟨_, _, _, rfl, h, k, t⟩
theorem iss_nil {vs : List V} (h : Iss K H vs []) : vs = [] := by cases h; rfl
theorem iss_cons {vs : List V} {d : D} {ds : List D} (h : Iss K H vs (d :: ds)) : ∃ v ws, vs = v :: ws ∧ Is K H v d ∧ Iss K H ws ds := by cases h with | cons h t => exact ⟨_, _, rfl, h, t⟩
end

/-! ### what is hidden, what may change -/
def hid (O : List Addr) (H : Hp) : Hp := fun a => if a ∈ O then none else H a
theorem hid_out {O : List Addr} {H : Hp} {a : Addr} (h : a ∉ O) : hid O H a = H a := if_neg h
theorem hid_some {O : List Addr} {H : Hp} {a : Addr} {o : HO} (h : hid O H a = some o) : a ∉ O ∧ H a = some o := by
  unfold hid at h
  split at h
  · cases h
  · rename_i q
    exact ⟨q, h⟩
theorem hid_nil {H : Hp} : hid [] H = H := by
  funext a
  exact if_neg (by simp)
def Le (M : List Addr) (H H' : Hp) : Prop := ∀ a o, a ∉ M → H a = some o → H' a = some o
theorem Le.refl (M : List Addr) (H : Hp) : Le M H H := fun _ _ _ h => h
theorem Le.trans {M : List Addr} {H H1 H2 : Hp} (a : Le M H H1) (b : Le M H1 H2) : Le M H H2 := fun x o n h => b x o n (a x o n h)
theorem Le.same {M : List Addr} {H H' : Hp} (s : Same H H') : Le M H H' := fun a o _ h => s a o h
theorem hid_le {M O : List Addr} {H H' : Hp} (l : Le M H H') (s : ∀ a ∈ M, a ∈ O) : ∀ a o, hid O H a = some o → hid O H' a = some o := fun a o h => by
  obtain ⟨q, e⟩ := hid_some h
  rw [hid_out q]
  exact l a o (fun m => q (s a m)) e
theorem hid_sub {O O' : List Addr} {H : Hp} (s : ∀ a ∈ O', a ∈ O) : ∀ a o, hid O H a = some o → hid O' H a = some o := fun a o h => by
  obtain ⟨q, e⟩ := hid_some h
  rw [hid_out fun m => q (s a m)]
  exact e
theorem Same.upd {H : Hp} {p : Addr} {o : HO} (h : H p = none) : Same H (upd H p o) := fun a u e => by
  rw [upd_ne (ne_of_none e h)]
  exact e
theorem sqL_hid {K : PySem.W.Frag} {O : List Addr} {H : Hp} {a : Addr} {xs : List V} (h : hid O H a = some (.lst xs)) : SqL K H a xs := .inl (.inl (hid_some h).2)
theorem sqT_hid {K : PySem.W.Frag} {O : List Addr} {H : Hp} {a : Addr} {xs : List V} (h : SqT K (hid O H) a xs) : SqT K H a xs := sqT_ex (fun a o e => (hid_some e).2) h
theorem rd_hid {O : List Addr} {H : Hp} {a : Addr} {u : HO} (h : Rd (hid O H) a u) : Rd H a u := Rd.ex (fun a o e => (hid_some e).2) h

/-- the dict of an exception stands for fs -/
def FsIs (K : PySem.W.Frag) (H : Hp) (ws : List (Str × V)) (fs : List (Str × D)) : Prop := ws.map (·.1) = fs.map (·.1) ∧ Iss K H (ws.map (·.2)) (fs.map (·.2))
/-- what a walk's text K is, which tracked objects may be changed by what is called, what is kept of them -/
structure Sys where
  K : PySem.W.Frag
  M : List Addr
  T : Hp → Prop
  dep : ∀ H H', (∀ a ∈ M, H' a = H a) → (∀ a φ, H a = some (.ext φ) → H' a = some (.ext φ)) → T H → T H'
  live : ∀ H, T H → ∀ a ∈ M, H a ≠ none
  /-- what is returned is a new list -/
  fr : Bool := false
  /-- the wish of what is raised; what may be raised; what stood at the entry -/
  E : XK := fun _ _ _ => False
  R : Addr → List (Str × D) → Prop := fun _ _ => False
  XH : Hp := fun _ => none
  take : ∀ (C : Addr) (fs : List (Str × D)) (d : Addr) (ws : List (Str × V)) (H' : Hp), Le M XH H' → T H' → H' d = some (.xd ws) → FsIs K (hid M H') ws fs → R C fs → E (.ref C) (some d) H' := by
    intro _ _ _ _ _ _ _ _ _ h
    exact h.elim
theorem Sys.same (S : Sys) (H H' : Hp) (s : Same H H') (t : S.T H) : S.T H' := S.dep H H' (fun a ha => by
  cases e : H a with
  | none => exact absurd e (S.live H t a ha)
  | some o => exact s a o e) (fun a _ e => s a _ e) t
theorem Sys.upd_own (S : Sys) {H : Hp} {p : Addr} {o : HO} (t : S.T H) (np : p ∉ S.M) (nx : ∀ φ, H p ≠ some (.ext φ)) : S.T (upd H p o) :=
  S.dep H _ (fun a ha => upd_ne fun z => np (by rw [← z]; exact ha)) (fun a φ e => by rw [upd_ne fun z => nx φ (by rw [← z]; exact e)]; exact e) t
/-- nothing is changed -/
def S0 (K : PySem.W.Frag) : Sys := { K := K, M := [], T := fun _ => True, dep := fun _ _ _ _ h => h, live := fun _ _ a h => absurd h (by simp), fr := false }
def S0F (K : PySem.W.Frag) : Sys := { K := K, M := [], T := fun _ => True, dep := fun _ _ _ _ h => h, live := fun _ _ a h => absurd h (by simp), fr := true }
/-- the same where nothing is raised -/
def Sys.calm (S : Sys) : Sys := { S with R := fun _ _ => False, XH := fun _ => none, take := fun _ _ _ _ _ _ _ _ _ h => h.elim }
/-- what stood at the entry stands, what is owned is new -/
def XOk (S : Sys) (O : List Addr) (H : Hp) : Prop := (∀ a o, a ∉ S.M → S.XH a = some o → H a = some o) ∧ ∀ l ∈ O, l ∉ S.M → S.XH l = none
theorem XOk.le {S : Sys} {M O : List Addr} {H H' : Hp} (x : XOk S O H) (l : Le M H H') (s : ∀ a ∈ M, a ∈ O) : XOk S O H' :=
  ⟨fun a o n e => l a o (fun m => by rw [x.2 a (s a m) n] at e; cases e) (x.1 a o n e), x.2⟩
theorem XOk.cons {S : Sys} {O : List Addr} {H H' : Hp} {p : Addr} (x : XOk S O H) (hp : H p = none) (l : Le (p :: S.M) H H') : XOk S (p :: O) H' := by
  have key : ∀ a o, a ∉ S.M → S.XH a = some o → a ≠ p := fun a o n e z => by
    have := x.1 a o n e
    rw [z, hp] at this
    cases this
  refine ⟨fun a o n e => l a o (fun m => ?_) (x.1 a o n e), fun q hq n => ?_⟩
  · rcases List.mem_cons.mp m with z | m
    · exact key a o n e z
    · exact n m
  · rcases List.mem_cons.mp hq with rfl | hq
    · cases e : S.XH q with
      | none => rfl
      | some o => exact absurd rfl (key q o n e)
    · exact x.2 q hq n
theorem XOk.sub {S : Sys} {O O' : List Addr} {H : Hp} (x : XOk S O H) (s : ∀ a ∈ O', a ∈ O) : XOk S O' H := ⟨x.1, fun l h => x.2 l (s l h)⟩
theorem XOk.calm {S : Sys} {O : List Addr} {H : Hp} : XOk S.calm O H := ⟨fun _ _ _ e => (by cases e), fun _ _ _ => rfl⟩

/-- what a slot holds -/
inductive Sl where
  | dat (d : D)
  | own (xs : List D)
  | ownK (kvs : List (Key × D))
  | ownT (kvs : List (List Key × D))
  | ownI (a C : Addr) (fs : List (Str × D))
def Sl.isOwn : Sl → Bool
  | .dat _ => false
  | _ => true
/-- what it stands for -/
def Sl.d : Sl → D
  | .dat d => d
  | .own xs => .lst xs
  | .ownK kvs => .dK kvs
  | .ownT kvs => .dT kvs
  | .ownI _ C fs => .obj C fs
abbrev DEnv := List (Option Sl)
def OwnOk (K : PySem.W.Frag) (O : List Addr) (H : Hp) (l : Addr) : Sl → Prop
  | .dat _ => False
  | .own xs => ∃ vs, H l = some (.lst vs) ∧ Iss K (hid O H) vs xs
  | .ownK kvs => ∃ us, H l = some (.dK us) ∧ us.map (·.1) = kvs.map (·.1) ∧ Iss K (hid O H) (us.map (·.2)) (kvs.map (·.2))
  | .ownT kvs => ∃ us, H l = some (.dT us) ∧ us.map (·.1) = kvs.map (·.1) ∧ Iss K (hid O H) (us.map (·.2)) (kvs.map (·.2))
  | .ownI a C fs => l = a ∧ ∃ dx us, H l = some (.ins C dx us) ∧ us.map (·.1) = fs.map (·.1) ∧ Iss K (hid O H) (us.map (·.2)) (fs.map (·.2))
/-- a slot's value -/
def SlOk (K : PySem.W.Frag) (O : List Addr) (H : Hp) (v : V) (s : Sl) : Prop := match s with
  | .dat d => Is K (hid O H) v d
  | s => ∃ l, v = .ref l ∧ l ∈ O ∧ OwnOk K O H l s
def OwnAt (ρ : DEnv) (σ : St) (l : Addr) (i : Nat) : Prop := ∃ s, ρ[i]? = some (some s) ∧ s.isOwn = true ∧ σ[i]? = some (some (.ref l))
structure EnvOk (S : Sys) (O : List Addr) (ρ : DEnv) (σ : St) (H : Hp) : Prop where
  len : σ.length = ρ.length
  t : S.T H
  sub : ∀ a ∈ S.M, a ∈ O
  live : ∀ a ∈ O, H a ≠ none
  at_ : ∀ (i : Nat) (s : Sl), ρ[i]? = some (some s) → ∃ v, σ[i]? = some (some v) ∧ SlOk S.K O H v s
  dis : ∀ i j l, OwnAt ρ σ l i → OwnAt ρ σ l j → i = j
  outM : ∀ i l, OwnAt ρ σ l i → l ∉ S.M
  xk : XOk S O H

theorem OwnOk.le {K : PySem.W.Frag} {M O : List Addr} {H H' : Hp} {l : Addr} {s : Sl} (h : OwnOk K O H l s) (le : Le M H H') (sub : ∀ a ∈ M, a ∈ O) (hl : l ∉ M) : OwnOk K O H' l s := by
  cases s with
  | dat d => exact h
  | own xs =>
    obtain ⟨vs, e, q⟩ := h
    exact ⟨vs, le _ _ hl e, q.ex (hid_le le sub)⟩
  | ownK kvs =>
    obtain ⟨us, e, k, q⟩ := h
    exact ⟨us, le _ _ hl e, k, q.ex (hid_le le sub)⟩
  | ownT kvs =>
    obtain ⟨us, e, k, q⟩ := h
    exact ⟨us, le _ _ hl e, k, q.ex (hid_le le sub)⟩
  | ownI a C fs =>
    obtain ⟨ea, dx, us, e, k, q⟩ := h
    exact ⟨ea, dx, us, le _ _ hl e, k, q.ex (hid_le le sub)⟩
theorem EnvOk.le {S : Sys} {O : List Addr} {ρ : DEnv} {σ : St} {H H' : Hp} (I : EnvOk S O ρ σ H) (le : Le S.M H H') (t : S.T H') : EnvOk S O ρ σ H' where
  len := I.len
  t := t
  sub := I.sub
  live := fun a ha e => by
    by_cases m : a ∈ S.M
    · exact S.live _ t a m e
    · cases q : H a with
      | none => exact I.live a ha q
      | some o => rw [le a o m q] at e; cases e
  at_ := fun i s hs => by
    obtain ⟨v, hv, ok⟩ := I.at_ i s hs
    refine ⟨v, hv, ?_⟩
    cases s with
    | dat d => exact Is.ex (hid_le le I.sub) ok
    | own xs =>
      obtain ⟨l, rfl, hl, q⟩ := ok
      exact ⟨l, rfl, hl, q.le le I.sub (I.outM i l ⟨_, hs, rfl, hv⟩)⟩
    | ownK xs =>
      obtain ⟨l, rfl, hl, q⟩ := ok
      exact ⟨l, rfl, hl, q.le le I.sub (I.outM i l ⟨_, hs, rfl, hv⟩)⟩
    | ownT xs =>
      obtain ⟨l, rfl, hl, q⟩ := ok
      exact ⟨l, rfl, hl, q.le le I.sub (I.outM i l ⟨_, hs, rfl, hv⟩)⟩
    | ownI a C fs =>
      obtain ⟨l, rfl, hl, q⟩ := ok
      exact ⟨l, rfl, hl, q.le le I.sub (I.outM i l ⟨_, hs, rfl, hv⟩)⟩
  dis := I.dis
  outM := I.outM
  xk := I.xk.le le I.sub

/-! ### evaluation over data -/
def Ev (S : Sys) (te : TE) (ρ : DEnv) (Q : D → Prop) : Prop :=
  ∀ O σ H, EnvOk S O ρ σ H → ∀ Qv : VK, (∀ d v H', Le S.M H H' → S.T H' → Is S.K (hid O H') v d → Q d → Qv v H') → te σ H Qv
def EvT (S : Sys) (tt : TT) (ρ : DEnv) (Q : Bool → Prop) : Prop :=
  ∀ O σ H, EnvOk S O ρ σ H → ∀ Qv : Bool → Hp → Prop, (∀ b H', Le S.M H H' → S.T H' → Q b → Qv b H') → tt σ H Qv
def EvA (S : Sys) (ta : TA) (ρ : DEnv) (Q : List D → Prop) : Prop :=
  ∀ O σ H, EnvOk S O ρ σ H → ∀ Qv : List V → Hp → Prop, (∀ ds vs H', Le S.M H H' → S.T H' → Iss S.K (hid O H') vs ds → Q ds → Qv vs H') → ta σ H Qv
def EvO (S : Sys) (to : TO) (ρ : DEnv) (Q : Option Int → Prop) : Prop :=
  ∀ O σ H, EnvOk S O ρ σ H → ∀ Qv : Option Int → Hp → Prop, (∀ o H', Le S.M H H' → S.T H' → Q o → Qv o H') → to σ H Qv
/-- operations by values: nothing that stood is changed -/
def RvR (K : PySem.W.Frag) (r : R2) (x y : D) (Q : D → Prop) : Prop :=
  ∀ O H (v u : V), (∀ a ∈ O, H a ≠ none) → Is K (hid O H) v x → Is K (hid O H) u y → ∀ Qv : VK, (∀ d w H', Same H H' → Is K (hid O H') w d → Q d → Qv w H') → r v u H Qv
def RvU (K : PySem.W.Frag) (r : V → Hp → VK → Prop) (x : D) (Q : D → Prop) : Prop :=
  ∀ O H (v : V), (∀ a ∈ O, H a ≠ none) → Is K (hid O H) v x → ∀ Qv : VK, (∀ d w H', Same H H' → Is K (hid O H') w d → Q d → Qv w H') → r v H Qv
def RvC (K : PySem.W.Frag) (r : List V → Hp → VK → Prop) (xs : List D) (Q : D → Prop) : Prop :=
  ∀ O H (vs : List V), (∀ a ∈ O, H a ≠ none) → Iss K (hid O H) vs xs → ∀ Qv : VK, (∀ d w H', Same H H' → Is K (hid O H') w d → Q d → Qv w H') → r vs H Qv

section
variable {S : Sys} {ρ : DEnv} {ta tb te : TE} {tt tu : TT} {Q : D → Prop} {Qb : Bool → Prop}
theorem Ev.imp {Q' : D → Prop} (h : Ev S te ρ Q) (q : ∀ d, Q d → Q' d) : Ev S te ρ Q' := fun O σ H I Qv k => h O σ H I Qv fun d v H' l t i c => k d v H' l t i (q d c)
theorem EvT.imp {Q' : Bool → Prop} (h : EvT S tt ρ Qb) (q : ∀ b, Qb b → Q' b) : EvT S tt ρ Q' := fun O σ H I Qv k => h O σ H I Qv fun b H' l t c => k b H' l t (q b c)
theorem EvA.imp {ta : TA} {Q Q' : List D → Prop} (h : EvA S ta ρ Q) (q : ∀ d, Q d → Q' d) : EvA S ta ρ Q' := fun O σ H I Qv k => h O σ H I Qv fun d v H' l t i c => k d v H' l t i (q d c)
/-- a slot that holds data -/
theorem ev_var {i : Nat} {d : D} (h : ρ[i]? = some (some (.dat d))) (q : Q d) : Ev S (tVar i) ρ Q := fun O σ H I Qv k => by
  obtain ⟨v, hv, ok⟩ := I.at_ i _ h
  exact ⟨v, hv, k d v H (Le.refl _ _) I.t ok q⟩
theorem ev_cint {i : Int} (q : Q (.int i)) : Ev S (tC (.int i)) ρ Q := fun O σ H I Qv k => k _ _ H (Le.refl _ _) I.t (.int i) q
theorem ev_cbl {b : Bool} (q : Q (.bl b)) : Ev S (tC (.bl b)) ρ Q := fun O σ H I Qv k => k _ _ H (Le.refl _ _) I.t (.bl b) q
theorem ev_cnon (q : Q .non) : Ev S (tC .non) ρ Q := fun O σ H I Qv k => k _ _ H (Le.refl _ _) I.t .non q
theorem ev_cstr {x : Str} (q : Q (.str x)) : Ev S (tC (.str x)) ρ Q := fun O σ H I Qv k => k _ _ H (Le.refl _ _) I.t (.str x) q
theorem ev_cty {n : String} (q : Q (.ty n)) : Ev S (tC (.ty n)) ρ Q := fun O σ H I Qv k => k _ _ H (Le.refl _ _) I.t (.ty n) q
/-- a constant that stands in the text -/
theorem ev_cK {v : V} {d : D} (hd : ∀ H, Is S.K H v d) (q : Q d) : Ev S (tC v) ρ Q := fun O σ H I Qv k => k _ _ H (Le.refl _ _) I.t (hd _) q
theorem ev_op {r : R2} (h : Ev S ta ρ fun x => Ev S tb ρ fun y => RvR S.K r x y Q) : Ev S (tOp r ta tb) ρ Q := fun O σ H I Qv k => by
  refine h O σ H I _ fun x v H1 l1 t1 i1 h1 => ?_
  refine h1 O σ H1 (I.le l1 t1) _ fun y u H2 l2 t2 i2 h2 => ?_
  have I2 := I.le (l1.trans l2) t2
  refine h2 O H2 v u I2.live (i1.ex (hid_le l2 I.sub)) i2 _ fun d w H3 s3 i3 c => ?_
  exact k d w H3 ((l1.trans l2).trans (Le.same s3)) (S.same _ _ s3 t2) i3 c
theorem ev_un {r : V → Hp → VK → Prop} (h : Ev S ta ρ fun x => RvU S.K r x Q) : Ev S (tUn r ta) ρ Q := fun O σ H I Qv k => by
  refine h O σ H I _ fun x v H1 l1 t1 i1 h1 => ?_
  refine h1 O H1 v (I.le l1 t1).live i1 _ fun d w H3 s3 i3 c => ?_
  exact k d w H3 (l1.trans (Le.same s3)) (S.same _ _ s3 t1) i3 c
theorem ev_cb {r : List V → Hp → VK → Prop} {t : TA} (h : EvA S t ρ fun xs => RvC S.K r xs Q) : Ev S (tCB r t) ρ Q := fun O σ H I Qv k => by
  refine h O σ H I _ fun x v H1 l1 t1 i1 h1 => ?_
  refine h1 O H1 v (I.le l1 t1).live i1 _ fun d w H3 s3 i3 c => ?_
  exact k d w H3 (l1.trans (Le.same s3)) (S.same _ _ s3 t1) i3 c
theorem eva_nil {Q : List D → Prop} (q : Q []) : EvA S tNil ρ Q := fun O σ H I Qv k => k [] [] H (Le.refl _ _) I.t .nil q
theorem eva_cons {t : TA} {Q : List D → Prop} (h : Ev S ta ρ fun x => EvA S t ρ fun xs => Q (x :: xs)) : EvA S (tCons ta t) ρ Q := fun O σ H I Qv k => by
  refine h O σ H I _ fun x v H1 l1 t1 i1 h1 => ?_
  refine h1 O σ H1 (I.le l1 t1) _ fun xs vs H2 l2 t2 i2 c => ?_
  exact k (x :: xs) (v :: vs) H2 (l1.trans l2) t2 (.cons (i1.ex (hid_le l2 I.sub)) i2) c
theorem eva_star {t : TA} {Q : List D → Prop} (h : Ev S ta ρ fun x => ∃ xs, (x = .tup xs ∨ x = .lst xs) ∧ EvA S t ρ fun ys => Q (xs ++ ys)) : EvA S (StX.tStar S.K ta t) ρ Q := fun O σ H I Qv k => by
  refine h O σ H I _ fun x v H1 l1 t1 i1 ⟨xs, hx, h1⟩ => ?_
  have : ∃ a vs, v = .ref a ∧ (SqT S.K H1 a vs ∨ SqL S.K H1 a vs) ∧ Iss S.K (hid O H1) vs xs := by
    rcases hx with rfl | rfl
    · obtain ⟨a, vs, e, q, s⟩ := is_tup i1
      exact ⟨a, vs, e, .inl (sqT_hid q), s⟩
    · obtain ⟨a, vs, e, q, s⟩ := is_lst i1
      exact ⟨a, vs, e, .inr (sqL_hid q), s⟩
  obtain ⟨a, vs, rfl, q, s⟩ := this
  refine ⟨a, vs, rfl, q, ?_⟩
  refine h1 O σ H1 (I.le l1 t1) _ fun ys ws H2 l2 t2 i2 c => ?_
  exact k (xs ++ ys) (vs ++ ws) H2 (l1.trans l2) t2 (Iss.append (s.ex (hid_le l2 I.sub)) i2) c
/-- a new object that is data -/
theorem is_new_tup {K : PySem.W.Frag} {O : List Addr} {H : Hp} {p : Addr} {vs : List V} {ds : List D} (live : ∀ a ∈ O, H a ≠ none) (hp : H p = none) (i : Iss K (hid O H) vs ds) : Is K (hid O (upd H p (.tup vs))) (.ref p) (.tup ds) := by
  have np : p ∉ O := fun m => live p m hp
  refine .tup ?_ (i.ex fun a o e => ?_)
  · rw [hid_out np, upd_same]
  · obtain ⟨n, e⟩ := hid_some e
    rw [hid_out n, upd_ne (ne_of_none e hp)]
    exact e
theorem is_new_lst {K : PySem.W.Frag} {O : List Addr} {H : Hp} {p : Addr} {vs : List V} {ds : List D} (live : ∀ a ∈ O, H a ≠ none) (hp : H p = none) (i : Iss K (hid O H) vs ds) : Is K (hid O (upd H p (.lst vs))) (.ref p) (.lst ds) := by
  have np : p ∉ O := fun m => live p m hp
  refine .lst ?_ (i.ex fun a o e => ?_)
  · rw [hid_out np, upd_same]
  · obtain ⟨n, e⟩ := hid_some e
    rw [hid_out n, upd_ne (ne_of_none e hp)]
    exact e
theorem ev_tup {t : TA} (h : EvA S t ρ fun xs => xs.length ≤ sizeLine ∧ Q (.tup xs)) : Ev S (tTup t) ρ Q := fun O σ H I Qv k => by
  refine h O σ H I _ fun xs vs H1 l1 t1 i1 ⟨z, q⟩ => ?_
  refine ⟨by rw [i1.length]; exact z, fun p hp => ?_⟩
  exact k _ _ _ (l1.trans (Le.same (Same.upd hp))) (S.same _ _ (Same.upd hp) t1) (is_new_tup (I.le l1 t1).live hp i1) q
theorem ev_lst {t : TA} (h : EvA S t ρ fun xs => xs.length ≤ sizeLine ∧ Q (.lst xs)) : Ev S (tLst t) ρ Q := fun O σ H I Qv k => by
  refine h O σ H I _ fun xs vs H1 l1 t1 i1 ⟨z, q⟩ => ?_
  refine ⟨by rw [i1.length]; exact z, fun p hp => ?_⟩
  exact k _ _ _ (l1.trans (Le.same (Same.upd hp))) (S.same _ _ (Same.upd hp) t1) (is_new_lst (I.le l1 t1).live hp i1) q
theorem ev_if (h : EvT S tt ρ fun b => if b = true then Ev S ta ρ Q else Ev S tb ρ Q) : Ev S (tIf tt ta tb) ρ Q := fun O σ H I Qv k => by
  refine h O σ H I _ fun b H1 l1 t1 c => ?_
  cases b with
  | true => exact c O σ H1 (I.le l1 t1) _ fun d v H2 l2 => k d v H2 (l1.trans l2)
  | false => exact c O σ H1 (I.le l1 t1) _ fun d v H2 l2 => k d v H2 (l1.trans l2)
/-! ### tests -/
theorem evt_b (h : Ev S te ρ fun d => ∃ b, d = .bl b ∧ Qb b) : EvT S (tB te) ρ Qb := fun O σ H I Qv k => by
  refine h O σ H I _ fun d v H1 l1 t1 i1 ⟨b, e, q⟩ => ?_
  subst e
  exact ⟨b, is_bl i1, k b H1 l1 t1 q⟩
theorem evt_test (h : Ev S te ρ fun d => ∃ b, d = .bl b ∧ Qb b) : EvT S (tTest te) ρ Qb := fun O σ H I Qv k => by
  refine h O σ H I _ fun d v H1 l1 t1 i1 ⟨b, e, q⟩ => ?_
  subst e
  exact ⟨b, is_bl i1, k b H1 l1 t1 q⟩
theorem evt_not (h : EvT S tt ρ fun b => Qb (!b)) : EvT S (tNot tt) ρ Qb := fun O σ H I Qv k => h O σ H I _ fun b H1 l1 t1 c => k _ H1 l1 t1 c
theorem evt_and (h : EvT S tt ρ fun b => if b = true then EvT S tu ρ Qb else Qb false) : EvT S (tAnd tt tu) ρ Qb := fun O σ H I Qv k => by
  refine h O σ H I _ fun b H1 l1 t1 c => ?_
  cases b with
  | true =>
    show (if true = true then tu σ H1 Qv else Qv false H1)
    rw [if_pos rfl]
    exact c O σ H1 (I.le l1 t1) _ fun d H2 l2 => k d H2 (l1.trans l2)
  | false =>
    show (if false = true then tu σ H1 Qv else Qv false H1)
    rw [if_neg Bool.false_ne_true]
    exact k false H1 l1 t1 c
theorem evt_or (h : EvT S tt ρ fun b => if b = true then Qb true else EvT S tu ρ Qb) : EvT S (tOr tt tu) ρ Qb := fun O σ H I Qv k => by
  refine h O σ H I _ fun b H1 l1 t1 c => ?_
  cases b with
  | true =>
    show (if true = true then Qv true H1 else tu σ H1 Qv)
    rw [if_pos rfl]
    exact k true H1 l1 t1 c
  | false =>
    show (if false = true then Qv true H1 else tu σ H1 Qv)
    rw [if_neg Bool.false_ne_true]
    exact c O σ H1 (I.le l1 t1) _ fun d H2 l2 => k d H2 (l1.trans l2)
theorem evt_yes (q : Qb true) : EvT S tYes ρ Qb := fun O σ H I Qv k => k true H (Le.refl _ _) I.t q
/-- and, or, not as values (of bools) -/
theorem ev_andV (h : Ev S ta ρ fun d => ∃ b, d = .bl b ∧ if b = true then Ev S tb ρ Q else Q (.bl false)) : Ev S (tAndV ta tb) ρ Q := fun O σ H I Qv k => by
  refine h O σ H I _ fun d v H1 l1 t1 i1 ⟨b, e, c⟩ => ?_
  subst e
  refine ⟨b, is_bl i1, ?_⟩
  cases b with
  | true =>
    rw [if_pos rfl]
    exact c O σ H1 (I.le l1 t1) _ fun d v H2 l2 => k d v H2 (l1.trans l2)
  | false =>
    rw [if_neg Bool.false_ne_true]
    exact k _ _ H1 l1 t1 (.bl false) c
theorem ev_orV (h : Ev S ta ρ fun d => ∃ b, d = .bl b ∧ if b = true then Q (.bl true) else Ev S tb ρ Q) : Ev S (tOrV ta tb) ρ Q := fun O σ H I Qv k => by
  refine h O σ H I _ fun d v H1 l1 t1 i1 ⟨b, e, c⟩ => ?_
  subst e
  refine ⟨b, is_bl i1, ?_⟩
  cases b with
  | true =>
    rw [if_pos rfl]
    exact k _ _ H1 l1 t1 (.bl true) c
  | false =>
    rw [if_neg Bool.false_ne_true]
    exact c O σ H1 (I.le l1 t1) _ fun d v H2 l2 => k d v H2 (l1.trans l2)
theorem ev_notV (h : Ev S ta ρ fun d => ∃ b, d = .bl b ∧ Q (.bl (!b))) : Ev S (tNotV ta) ρ Q := fun O σ H I Qv k => by
  refine h O σ H I _ fun d v H1 l1 t1 i1 ⟨b, e, c⟩ => ?_
  subst e
  exact ⟨b, is_bl i1, k _ _ H1 l1 t1 (.bl _) c⟩
end
end NB

end PART_NB1
section PART_NB2
set_option Elab.async false
set_option linter.all false
set_option maxRecDepth 100000
set_option maxHeartbeats 4000000
set_option autoImplicit false
/-! NB2: sources of loops, targets, comprehensions, statements, promises over data. -/
namespace NB
open PySem PySem.Spec PyProof.Rows L2

/-! ### what is walked -/
/-- the i-th of xs is given; for whatever is owned by then -/
def DY (K : PySem.W.Frag) (O : List Addr) (H1 : Hp) (xs : List D) : Nat → Hp → V → Hp → Prop := fun i H x H' =>
  Same H H' ∧ ∃ d, xs[i]? = some d ∧ ∀ O', (∀ a ∈ O', a ∈ O ∨ H1 a = none) → (∀ a ∈ O', H a ≠ none) → Is K (hid O' H') x d
def EvI (S : Sys) (wi : TI) (ρ : DEnv) (Q : List D → Prop) : Prop :=
  ∀ O σ H, EnvOk S O ρ σ H → ∀ R : It → Hp → Prop, (∀ J xs H1, Le S.M H H1 → S.T H1 → Walk J xs.length (Le O H1) (DY S.K O H1 xs) → Q xs → R J H1) → wi σ H R
theorem hid_later {O O' : List Addr} {H1 H : Hp} (le : Le O H1 H) (new : ∀ a ∈ O', a ∈ O ∨ H1 a = none) : ∀ a o, hid O H1 a = some o → hid O' H a = some o := fun a o e => by
  obtain ⟨n, e⟩ := hid_some e
  have n' : a ∉ O' := fun m => by
    rcases new a m with h | h
    · exact n h
    · rw [h] at e; cases e
  rw [hid_out n']
  exact le a o n e
section
variable {S : Sys} {ρ : DEnv} {te : TE}
theorem evi_list {Q : List D → Prop} (h : Ev S te ρ fun d => ∃ xs, d = .lst xs ∧ Q xs) : EvI S (iList S.K te) ρ Q := fun O σ H I R k => by
  refine h O σ H I _ fun d v H1 l1 t1 i1 ⟨xs, e, q⟩ => ?_
  subst e
  obtain ⟨a, vs, rfl, hs, is⟩ := is_lst i1
  refine ⟨a, rfl, ⟨vs, sqL_hid hs⟩, k _ xs H1 l1 t1 ?_ q⟩
  rw [← is.length]
  refine walk_list.mono (fun H2 l2 => sqL_hid (hid_later l2 (fun a h => .inl h) _ _ hs)) fun i H2 x H3 hi l2 ⟨e3, y⟩ => ?_
  subst e3
  obtain ⟨d, hd, i2⟩ := is.getV y
  exact ⟨Same.refl _, d, hd, fun O' new _ => i2.ex (hid_later l2 new)⟩
theorem evi_tup {Q : List D → Prop} (h : Ev S te ρ fun d => ∃ xs, d = .tup xs ∧ Q xs) : EvI S (iTup S.K te) ρ Q := fun O σ H I R k => by
  refine h O σ H I _ fun d v H1 l1 t1 i1 ⟨xs, e, q⟩ => ?_
  subst e
  obtain ⟨a, vs, rfl, hs, is⟩ := is_tup i1
  refine ⟨a, rfl, ⟨vs, sqT_hid hs⟩, k _ xs H1 l1 t1 ?_ q⟩
  rw [← is.length]
  refine walk_tup.mono (fun H2 l2 => sqT_hid (sqT_ex (hid_later l2 (fun a h => .inl h)) hs)) fun i H2 x H3 hi l2 ⟨e3, y⟩ => ?_
  subst e3
  obtain ⟨d, hd, i2⟩ := is.getV y
  exact ⟨Same.refl _, d, hd, fun O' new _ => i2.ex (hid_later l2 new)⟩
/-- lo, lo + 1, .. -/
def rngD (lo : Int) (n : Nat) : List D := (List.range n).map fun i => .int (lo + (i : Nat))
theorem rngD_length (lo : Int) (n : Nat) : (rngD lo n).length = n := by simp [rngD]
theorem rngD_get {lo : Int} {n i : Nat} (h : i < n) : (rngD lo n)[i]? = some (.int (lo + (i : Nat))) := by simp [rngD, h]
theorem evi_range1 {ta : TA} {Q : List D → Prop} (h : EvA S ta ρ fun ds => ∃ j : Int, ds = [.int j] ∧ -(2 ^ 62) ≤ j ∧ j < 2 ^ 62 ∧ Q (rngD 0 j.toNat)) : EvI S (iRng1 ta) ρ Q := fun O σ H I R k => by
  refine h O σ H I _ fun ds vs H1 l1 t1 i1 ⟨j, e, h1, h2, q⟩ => ?_
  subst e
  obtain ⟨v, ws, rfl, i2, i3⟩ := iss_cons i1
  obtain rfl := iss_nil i3
  refine ⟨j, by rw [is_int i2], h1, h2, k _ _ H1 l1 t1 ?_ q⟩
  rw [rngD_length]
  refine walk_range.mono (fun _ _ => trivial) fun i H2 x H3 hi _ ⟨e3, y⟩ => ?_
  subst e3 y
  exact ⟨Same.refl _, _, rngD_get hi, fun O' _ _ => .int _⟩
theorem evi_range2 {ta : TA} {Q : List D → Prop} (h : EvA S ta ρ fun ds => ∃ i j : Int, ds = [.int i, .int j] ∧ (-(2 ^ 62) ≤ i ∧ i < 2 ^ 62 ∧ -(2 ^ 62) ≤ j ∧ j < 2 ^ 62) ∧ Q (rngD i (j - i).toNat)) : EvI S (iRng2 ta) ρ Q := fun O σ H I R k => by
  refine h O σ H I _ fun ds vs H1 l1 t1 i1 ⟨i, j, e, h1, q⟩ => ?_
  subst e
  obtain ⟨v, ws, rfl, i2, i3⟩ := iss_cons i1
  obtain ⟨v', ws', rfl, i4, i5⟩ := iss_cons i3
  obtain rfl := iss_nil i5
  refine ⟨i, j, by rw [is_int i2, is_int i4], h1, k _ _ H1 l1 t1 ?_ q⟩
  rw [rngD_length]
  refine walk_range.mono (fun _ _ => trivial) fun i H2 x H3 hi _ ⟨e3, y⟩ => ?_
  subst e3 y
  exact ⟨Same.refl _, _, rngD_get hi, fun O' _ _ => .int _⟩
/-- a text's signs -/
def signsD (x : Str) : List D := x.cps.toList.map fun c => .str ⟨#[c]⟩
theorem evi_str {Q : List D → Prop} (h : Ev S te ρ fun d => ∃ x, d = .str x ∧ Q (signsD x)) : EvI S (iStr te) ρ Q := fun O σ H I R k => by
  refine h O σ H I _ fun d v H1 l1 t1 i1 ⟨x, e, q⟩ => ?_
  subst e
  refine ⟨x, is_str i1, k _ _ H1 l1 t1 ?_ q⟩
  have hl : (signsD x).length = x.cps.size := by simp [signsD]
  rw [hl]
  refine walk_str.mono (fun _ _ => trivial) fun i H2 v H3 hi _ ⟨e3, c, hc, y⟩ => ?_
  subst e3 y
  refine ⟨Same.refl _, .str ⟨#[c]⟩, ?_, fun O' _ _ => .str _⟩
  simp only [signsD, List.getElem?_map, Array.getElem?_toList, hc, Option.map_some]
theorem is_pair {K : PySem.W.Frag} {O' : List Addr} {H : Hp} {T : Addr} {x y : V} {d e : D} (hT : H T = none) (live : ∀ a ∈ O', H a ≠ none) (i1 : Is K (hid O' H) x d) (i2 : Is K (hid O' H) y e) : Is K (hid O' (upd H T (.tup [x, y]))) (.ref T) (.tup [d, e]) :=
  is_new_tup live hT (.cons i1 (.cons i2 .nil))
/-- enumerate(list) -/
def enumD : Nat → List D → List D
  | _, [] => []
  | n, x :: r => .tup [.int n, x] :: enumD (n + 1) r
theorem enumD_length : ∀ (n : Nat) (xs : List D), (enumD n xs).length = xs.length
  | _, [] => rfl
  | n, _ :: r => congrArg (· + 1) (enumD_length (n + 1) r)
theorem enumD_get : ∀ {n : Nat} {xs : List D} {i : Nat} {d : D}, xs[i]? = some d → (enumD n xs)[i]? = some (.tup [.int ((n + i : Nat)), d])
  | n, [], i, d, h => by simp at h
  | n, x :: r, 0, d, h => by
    simp at h
    subst h
    rfl
  | n, x :: r, i + 1, d, h => by
    have := enumD_get (n := n + 1) (xs := r) (i := i) (d := d) (by simpa using h)
    show (enumD (n + 1) r)[i]? = _
    rw [this, show n + 1 + i = n + (i + 1) by omega]
theorem evi_enum {ta : TA} {Q : List D → Prop} (h : EvA S ta ρ fun ds => ∃ xs, ds = [.lst xs] ∧ Q (enumD 0 xs)) : EvI S (iEnum S.K ta) ρ Q := fun O σ H I R k => by
  refine h O σ H I _ fun ds vs H1 l1 t1 i1 ⟨xs, e, q⟩ => ?_
  subst e
  obtain ⟨v, ws, rfl, i2, i3⟩ := iss_cons i1
  obtain rfl := iss_nil i3
  obtain ⟨a, vs, rfl, hs, is⟩ := is_lst i2
  refine ⟨a, vs, rfl, sqL_hid hs, k _ (enumD 0 xs) H1 l1 t1 ?_ q⟩
  rw [enumD_length, ← is.length]
  refine walk_enum.mono (fun H2 l2 => sqL_hid (hid_later l2 (fun a h => .inl h) _ _ hs)) fun i H2 v H3 hi l2 y => ?_
  obtain ⟨T, x, y, rfl, hT, rfl, hx, hy⟩ := y
  obtain ⟨d, hd, id⟩ := is.getV hy
  obtain rfl : V.int (i : Nat) = x := Option.some.inj hx
  refine ⟨Same.upd hT, _, enumD_get hd, fun O' new live => ?_⟩
  have := is_pair (K := S.K) hT live (.int (i : Nat)) (id.ex (hid_later l2 new))
  rw [show (0 + i : Nat) = i by omega]
  exact this
/-- zip of two lists -/
def zipD (xs ys : List D) : List D := (xs.zip ys).map fun p => .tup [p.1, p.2]
theorem evi_zip {ta : TA} {Q : List D → Prop} (h : EvA S ta ρ fun ds => ∃ xs ys, ds = [.lst xs, .lst ys] ∧ Q (zipD xs ys)) : EvI S (iZip S.K ta) ρ Q := fun O σ H I R k => by
  refine h O σ H I _ fun ds vs H1 l1 t1 i1 ⟨xs, ys, e, q⟩ => ?_
  subst e
  obtain ⟨v, ws, rfl, i2, i3⟩ := iss_cons i1
  obtain ⟨v', ws', rfl, i4, i5⟩ := iss_cons i3
  obtain rfl := iss_nil i5
  obtain ⟨a, vs, rfl, hs, is⟩ := is_lst i2
  obtain ⟨b, us, rfl, hs2, is2⟩ := is_lst i4
  refine ⟨a, b, vs, us, rfl, sqL_hid hs, sqL_hid hs2, k _ (zipD xs ys) H1 l1 t1 ?_ q⟩
  have hl : (zipD xs ys).length = min vs.length us.length := by simp [zipD, is.length, is2.length]
  rw [hl]
  refine (walk_zip (xs := vs) (ys := us) rfl).mono (fun H2 l2 => ⟨sqL_hid (hid_later l2 (fun a h => .inl h) _ _ hs), sqL_hid (hid_later l2 (fun a h => .inl h) _ _ hs2)⟩) fun i H2 v H3 hi l2 y => ?_
  obtain ⟨T, x, y, rfl, hT, rfl, hx, hy⟩ := y
  obtain ⟨d, hd, id⟩ := is.getV hx
  obtain ⟨d', hd', id'⟩ := is2.getV hy
  refine ⟨Same.upd hT, .tup [d, d'], ?_, fun O' new live => is_pair hT live (id.ex (hid_later l2 new)) (id'.ex (hid_later l2 new))⟩
  have hz : (xs.zip ys)[i]? = some (d, d') := List.getElem?_zip_eq_some.mpr (by exact ⟨hd, hd'⟩)
  simp [zipD, hz]
end

/-! ### targets: data is bound; only the slots vs may be changed -/
def EvG (S : Sys) (vs : List Nat) (g : TG) (ρ : DEnv) (d : D) (Q : DEnv → Prop) : Prop :=
  ∀ O σ H v, EnvOk S O ρ σ H → Is S.K (hid O H) v d → ∀ Qs : St → Hp → Prop, (∀ ρ' σ', EnvOk S O ρ' σ' H → wipe σ' vs = wipe σ vs → (∀ i l, OwnAt ρ' σ' l i → OwnAt ρ σ l i) → Q ρ' → Qs σ' H) → g v σ H Qs
def EvGs (S : Sys) (vs : List Nat) (g : TGs) (ρ : DEnv) (ds : List D) (Q : DEnv → Prop) : Prop :=
  ∀ O σ H us, EnvOk S O ρ σ H → Iss S.K (hid O H) us ds → ∀ Qs : St → Hp → Prop, (∀ ρ' σ', EnvOk S O ρ' σ' H → wipe σ' vs = wipe σ vs → (∀ i l, OwnAt ρ' σ' l i → OwnAt ρ σ l i) → Q ρ' → Qs σ' H) → g us σ H Qs
theorem wipe_set {σ : St} {k : Nat} {x : Option V} : ∀ {vs : List Nat}, k ∈ vs → wipe (σ.set k x) vs = wipe σ vs
  | [], h => by simp at h
  | v :: vs, h => by
    show (wipe (σ.set k x) vs).set v none = (wipe σ vs).set v none
    by_cases e : k ∈ vs
    · rw [wipe_set e]
    · have ev : k = v := by
        rcases List.mem_cons.mp h with h | h
        · exact h
        · exact absurd h e
      subst ev
      have : wipe (σ.set k x) vs = (wipe σ vs).set k x := by
        clear h
        induction vs with
        | nil => rfl
        | cons u us ih =>
          have hu : k ≠ u := fun z => e (by rw [z]; exact List.mem_cons_self)
          have hus : k ∉ us := fun z => e (List.mem_cons_of_mem _ z)
          show (wipe (σ.set k x) us).set u none = ((wipe σ us).set u none).set k x
          rw [ih hus, List.set_comm _ _ hu]
      rw [this, List.set_set]
theorem wipe_noop : ∀ (us : List Nat) (τ : St), (∀ u ∈ us, ∀ y, τ[u]? ≠ some (some y)) → wipe τ us = τ
  | [], _, _ => rfl
  | u :: us, τ, hτ => by
    show (wipe τ us).set u none = τ
    rw [wipe_noop us τ fun w hw => hτ w (List.mem_cons_of_mem _ hw)]
    apply List.ext_getElem?
    intro j
    by_cases ej : u = j
    · subst ej
      by_cases hl : u < τ.length
      · rw [List.getElem?_set_self hl]
        cases q : τ[u]? with
        | none => rw [List.getElem?_eq_none_iff] at q; omega
        | some o =>
          cases o with
          | none => rfl
          | some y => exact absurd q (hτ u List.mem_cons_self y)
      · rw [List.getElem?_eq_none (by simpa using hl), List.getElem?_eq_none (by simpa using hl)]
    · rw [List.getElem?_set_ne ej]
theorem wipe_idem (σ : St) (vs : List Nat) : wipe (wipe σ vs) vs = wipe σ vs := wipe_noop vs _ fun u hu y e => (wipe_some e).2 hu
theorem OwnAt.of_set {ρ : DEnv} {σ : St} {k : Nat} {d : D} {v : V} {l : Addr} {i : Nat} (h : OwnAt (ρ.set k (some (.dat d))) (σ.set k (some v)) l i) (hl : σ.length = ρ.length) : OwnAt ρ σ l i ∧ i ≠ k := by
  obtain ⟨s, h1, h2, h3⟩ := h
  by_cases e : k = i
  · subst e
    rw [List.getElem?_set] at h1
    simp only [if_true] at h1
    split at h1
    · cases h1
      cases h2
    · cases h1
  · rw [List.getElem?_set_ne e] at h1 h3
    exact ⟨⟨s, h1, h2, h3⟩, fun z => e z.symm⟩
theorem EnvOk.set {S : Sys} {O : List Addr} {ρ : DEnv} {σ : St} {H : Hp} {k : Nat} {d : D} {v : V} (I : EnvOk S O ρ σ H) (i : Is S.K (hid O H) v d) : EnvOk S O (ρ.set k (some (.dat d))) (σ.set k (some v)) H where
  len := by rw [List.length_set, List.length_set]; exact I.len
  t := I.t
  sub := I.sub
  live := I.live
  at_ := fun j s hs => by
    by_cases e : k = j
    · subst e
      have hk : k < ρ.length := by
        by_cases hk : k < ρ.length
        · exact hk
        · rw [List.getElem?_eq_none (by simpa using hk)] at hs; cases hs
      rw [List.getElem?_set_self hk] at hs
      cases hs
      exact ⟨v, List.getElem?_set_self (by rw [I.len]; exact hk), i⟩
    · rw [List.getElem?_set_ne e] at hs ⊢
      exact I.at_ j s hs
  dis := fun i j l hi hj => I.dis i j l (hi.of_set I.len).1 (hj.of_set I.len).1
  outM := fun i l hi => I.outM i l (hi.of_set I.len).1
  xk := I.xk
section
variable {S : Sys} {ρ : DEnv} {vs : List Nat} {d : D} {ds : List D} {Q : DEnv → Prop}
theorem evg_name {k : Nat} (hk : k ∈ vs) (q : Q (ρ.set k (some (.dat d)))) : EvG S vs (gName k) ρ d Q := fun O σ H v I i Qs h =>
  h _ _ (I.set i) (wipe_set hk) (fun i l o => (o.of_set I.len).1) q
theorem evgs_nil (q : Q ρ) : EvGs S vs gNil ρ [] Q := fun O σ H us I i Qs h => ⟨iss_nil i, h ρ σ I rfl (fun _ _ o => o) q⟩
theorem evgs_cons {t : TG} {u : TGs} (h : EvG S vs t ρ d fun ρ1 => EvGs S vs u ρ1 ds Q) : EvGs S vs (gCons t u) ρ (d :: ds) Q := fun O σ H us I i Qs k => by
  obtain ⟨v, ws, rfl, i1, i2⟩ := iss_cons i
  refine ⟨v, ws, rfl, h O σ H v I i1 _ fun ρ1 σ1 I1 e1 o1 h1 => ?_⟩
  exact h1 O σ1 H ws I1 i2 _ fun ρ2 σ2 I2 e2 o2 q => k ρ2 σ2 I2 (e2.trans e1) (fun i l o => o1 i l (o2 i l o)) q
theorem evg_tup {n : Nat} {t : TGs} (hn : ds.length = n) (h : EvGs S vs t ρ ds Q) : EvG S vs (gTup S.K n t) ρ (.tup ds) Q := fun O σ H v I i Qs k => by
  obtain ⟨a, us, rfl, hs, is⟩ := is_tup i
  exact ⟨a, us, rfl, sqT_hid hs, is.length.trans hn, h O σ H us I is Qs k⟩
theorem evg_unl {n : Nat} {t : TGs} (hn : ds.length = n) (h : EvGs S vs t ρ ds Q) : EvG S vs (gUnl S.K n t) ρ (.lst ds) Q := fun O σ H v I i Qs k => by
  obtain ⟨a, us, rfl, hs, is⟩ := is_lst i
  exact ⟨a, us, rfl, sqL_hid hs, is.length.trans hn, h O σ H us I is Qs k⟩
end

/-! ### list comprehensions -/
def wipeD (ρ : DEnv) : List Nat → DEnv
  | [] => ρ
  | v :: vs => (wipeD ρ vs).set v none
theorem wipeD_length (ρ : DEnv) : ∀ vs : List Nat, (wipeD ρ vs).length = ρ.length
  | [] => rfl
  | v :: vs => by unfold wipeD; rw [List.length_set, wipeD_length ρ vs]
theorem wipeD_some {ρ : DEnv} {i : Nat} {x : Sl} : ∀ {vs : List Nat}, (wipeD ρ vs)[i]? = some (some x) → ρ[i]? = some (some x) ∧ i ∉ vs
  | [], h => ⟨h, by simp⟩
  | v :: vs, h => by
    unfold wipeD at h
    by_cases hi : v = i
    · subst hi
      by_cases hv : v < (wipeD ρ vs).length
      · rw [List.getElem?_set_self hv] at h; cases h
      · rw [List.getElem?_eq_none (by simpa using hv)] at h; cases h
    · rw [List.getElem?_set_ne hi] at h
      obtain ⟨h1, h2⟩ := wipeD_some h
      exact ⟨h1, by simp only [List.mem_cons, not_or]; exact ⟨fun e => hi e.symm, h2⟩⟩
theorem EnvOk.wiped {S : Sys} {O : List Addr} {ρ : DEnv} {σ : St} {H : Hp} (I : EnvOk S O ρ σ H) (vs : List Nat) : EnvOk S O (wipeD ρ vs) (wipe σ vs) H := by
  have own : ∀ i l, OwnAt (wipeD ρ vs) (L2.wipe σ vs) l i → OwnAt ρ σ l i := fun i l ⟨s, h1, h2, h3⟩ => ⟨s, (wipeD_some h1).1, h2, (wipe_some h3).1⟩
  exact {
    len := by rw [wipeD_length, wipe_length]; exact I.len
    t := I.t
    sub := I.sub
    live := I.live
    at_ := fun i s hs => by
      obtain ⟨h1, h2⟩ := wipeD_some hs
      obtain ⟨v, h3, h4⟩ := I.at_ i s h1
      exact ⟨v, by rw [wipe_out h2]; exact h3, h4⟩
    dis := fun i j l hi hj => I.dis i j l (own _ _ hi) (own _ _ hj)
    outM := fun i l hi => I.outM i l (own _ _ hi)
    xk := I.xk }
/-- one more owned object, which nothing else leans on -/
theorem EnvOk.owned {S : Sys} {O : List Addr} {ρ : DEnv} {σ : St} {H H' : Hp} {p : Addr} (I : EnvOk S O ρ σ H) (hp : H p = none) (hp' : H' p ≠ none) (le : Le (p :: S.M) H H') (t : S.T H') : EnvOk S (p :: O) ρ σ H' := by
  have np : p ∉ O := fun m => I.live p m hp
  have ex : ∀ a o, hid O H a = some o → hid (p :: O) H' a = some o := fun a o e => by
    obtain ⟨n, e⟩ := hid_some e
    have na : a ∉ p :: O := by
      simp only [List.mem_cons, not_or]
      exact ⟨fun z => (by rw [z, hp] at e; cases e), n⟩
    rw [hid_out na]
    exact le a o (by simp only [List.mem_cons, not_or]; exact ⟨fun z => na (by rw [z]; exact List.mem_cons_self), fun m => n (I.sub a m)⟩) e
  have at' : ∀ l o, l ∈ O → l ∉ S.M → H l = some o → H' l = some o := fun l o hl hm e => le l o (by
    simp only [List.mem_cons, not_or]
    exact ⟨fun z => np (by rw [← z]; exact hl), hm⟩) e
  exact {
    len := I.len
    t := t
    sub := fun a ha => List.mem_cons_of_mem _ (I.sub a ha)
    live := fun a ha e => by
      rcases List.mem_cons.mp ha with rfl | ha
      · exact hp' e
      · by_cases m : a ∈ S.M
        · exact S.live _ t a m e
        · cases q : H a with
          | none => exact I.live a ha q
          | some o => rw [at' a o ha m q] at e; cases e
    at_ := fun i s hs => by
      obtain ⟨v, hv, ok⟩ := I.at_ i s hs
      refine ⟨v, hv, ?_⟩
      cases s with
      | dat d => exact Is.ex ex ok
      | own xs =>
        obtain ⟨l, rfl, hl, vs, e, q⟩ := ok
        exact ⟨l, rfl, List.mem_cons_of_mem _ hl, vs, at' _ _ hl (I.outM i l ⟨_, hs, rfl, hv⟩) e, q.ex ex⟩
      | ownK xs =>
        obtain ⟨l, rfl, hl, us, e, ke, q⟩ := ok
        exact ⟨l, rfl, List.mem_cons_of_mem _ hl, us, at' _ _ hl (I.outM i l ⟨_, hs, rfl, hv⟩) e, ke, q.ex ex⟩
      | ownT xs =>
        obtain ⟨l, rfl, hl, us, e, ke, q⟩ := ok
        exact ⟨l, rfl, List.mem_cons_of_mem _ hl, us, at' _ _ hl (I.outM i l ⟨_, hs, rfl, hv⟩) e, ke, q.ex ex⟩
      | ownI a C fs =>
        obtain ⟨l, rfl, hl, ea, dx, us, e, ke, q⟩ := ok
        exact ⟨l, rfl, List.mem_cons_of_mem _ hl, ea, dx, us, at' _ _ hl (I.outM i l ⟨_, hs, rfl, hv⟩) e, ke, q.ex ex⟩
    dis := I.dis
    outM := I.outM
    xk := I.xk.cons hp le }
inductive All2 {α β : Type} (R : α → β → Prop) : List α → List β → Prop
  | nil : All2 R [] []
  | cons {a : α} {b : β} {as : List α} {bs : List β} : R a b → All2 R as bs → All2 R (a :: as) (b :: bs)
theorem All2.snoc {α β : Type} {R : α → β → Prop} : ∀ {as : List α} {bs : List β} {a : α} {b : β}, All2 R as bs → R a b → All2 R (as ++ [a]) (bs ++ [b])
  | _, _, _, _, .nil, h => .cons h .nil
  | _, _, _, _, .cons h t, k => .cons h (All2.snoc t k)
theorem All2.length {α β : Type} {R : α → β → Prop} : ∀ {as : List α} {bs : List β}, All2 R as bs → as.length = bs.length
  | _, _, .nil => rfl
  | _, _, .cons _ t => congrArg (· + 1) (All2.length t)
theorem All2.map_eq {α β : Type} {f : α → β} : ∀ {as : List α} {bs : List β}, All2 (fun a b => b = f a) as bs → bs = as.map f
  | _, _, .nil => rfl
  | _, _, .cons h t => by rw [h, All2.map_eq t, List.map_cons]
theorem take_snoc {α : Type} : ∀ {l : List α} {i : Nat} {x : α}, l[i]? = some x → l.take (i + 1) = l.take i ++ [x]
  | [], i, x, h => by simp at h
  | a :: l, 0, x, h => by
    simp at h
    subst h
    rfl
  | a :: l, i + 1, x, h => by
    have := take_snoc (l := l) (i := i) (x := x) (by simpa using h)
    simp [this]
theorem flatten_snoc {α : Type} (xss : List (List α)) (xs : List α) : (xss ++ [xs]).flatten = xss.flatten ++ xs := by simp

/-- the invariant of a comprehension's turns -/
structure LcInv {α : Type} (S : Sys) (O : List Addr) (H1 : Hp) (Dn : Addr) (R : α → List D → Prop) (xs : List α) (i : Nat) (H : Hp) : Prop where
  le : Le S.M H1 H
  t : S.T H
  live : ∀ a ∈ O, H a ≠ none
  acc : ∃ vs ds yss, H Dn = some (.lst vs) ∧ Iss S.K (hid (Dn :: O) H) vs ds ∧ All2 R (xs.take i) yss ∧ ds = yss.flatten ∧ vs.length ≤ i
theorem ev_lc {S : Sys} {ρ : DEnv} {wi : TI} {g : TG} {tt : TT} {te : TE} {vs : List Nat} {Q : D → Prop}
    (h : EvI S wi ρ fun xs0 => ∃ (α : Type) (xs : List α) (src : α → D), xs0 = xs.map src ∧ ∃ R : α → List D → Prop, (∀ x ∈ xs, EvG S vs g (wipeD ρ vs) (src x) fun ρ1 => EvT S tt ρ1 fun b => if b = true then Ev S te ρ1 (fun y => R x [y]) else R x []) ∧ xs.length ≤ sizeLine ∧ ∀ yss, All2 R xs yss → Q (.lst yss.flatten)) :
    Ev S (tLc wi g tt te vs) ρ Q := fun O σ H I Qv k => by
  refine h O σ H I _ fun J xs0 H1 l1 t1 W ⟨α, xs, src, hxs, R, hR, hz, hQ⟩ => ?_
  subst hxs
  rw [List.length_map] at W
  intro Dn hD
  have I1 := I.le l1 t1
  have nD : Dn ∉ O := fun m => I1.live Dn m hD
  have nM : Dn ∉ S.M := fun m => nD (I.sub Dn m)
  refine lc_it W (fun i H => LcInv S O H1 Dn R xs i H) ?_ (fun i H2 _ L => fun a o ha e => L.le a o (fun m => ha (I.sub a m)) e) ?_ ?_
  · exact ⟨Le.same (Same.upd hD), S.same _ _ (Same.upd hD) t1, (I1.le (Le.same (Same.upd hD)) (S.same _ _ (Same.upd hD) t1)).live, [], [], [], upd_same, .nil, .nil, rfl, Nat.zero_le _⟩
  · intro i x H2 H3 hi L ⟨s3, d, hd, hx⟩
    obtain ⟨us, ds, yss, e2, is2, a2, rfl, z2⟩ := L.acc
    obtain ⟨a0, ha0, rfl⟩ : ∃ a0, xs[i]? = some a0 ∧ d = src a0 := by
      rw [List.getElem?_map] at hd
      cases q : xs[i]? with
      | none => rw [q] at hd; cases hd
      | some a0 =>
        rw [q] at hd
        exact ⟨a0, rfl, (Option.some.inj hd).symm⟩
    have mem : a0 ∈ xs := List.mem_of_getElem? ha0
    -- the block's state
    have t3 : S.T H3 := S.same _ _ s3 L.t
    have e3 : H3 Dn = some (.lst us) := s3 _ _ e2
    have Le13 : Le S.M H1 H3 := L.le.trans (Le.same s3)
    have I3 : EnvOk S (Dn :: O) (wipeD ρ vs) (L2.wipe σ vs) H3 := (I1.wiped vs).owned hD (by rw [e3]; exact fun z => by cases z) (fun a o ha e => Le13 a o (fun m => ha (List.mem_cons_of_mem _ m)) e) t3
    have ix : Is S.K (hid (Dn :: O) H3) x (src a0) := hx (Dn :: O) (fun a ha => by
      rcases List.mem_cons.mp ha with rfl | ha
      · exact .inr hD
      · exact .inl ha) (fun a ha e => by
      rcases List.mem_cons.mp ha with rfl | ha
      · rw [e2] at e; cases e
      · exact L.live a ha e)
    have is3 : Iss S.K (hid (Dn :: O) H3) us yss.flatten := is2.ex fun a o e => by
      obtain ⟨n, e⟩ := hid_some e
      rw [hid_out n]
      exact s3 a o e
    refine hR a0 mem (Dn :: O) _ H3 x I3 ix _ fun ρ1 σ1 I4 w4 _ h4 => ⟨?_, ?_⟩
    · rw [w4, wipe_idem]
    · refine h4 (Dn :: O) σ1 H3 I4 _ fun b H4 l4 t4 h5 => ?_
      have nDM : Dn ∉ S.M := nM
      have e4 : H4 Dn = some (.lst us) := l4 _ _ nDM e3
      have is4 : Iss S.K (hid (Dn :: O) H4) us yss.flatten := is3.ex (hid_le l4 fun a ha => List.mem_cons_of_mem _ (I.sub a ha))
      have I5 := I4.le l4 t4
      cases b with
      | false =>
        show LcInv S O H1 Dn R xs (i + 1) H4
        refine ⟨Le13.trans l4, t4, fun a ha => I5.live a (List.mem_cons_of_mem _ ha), us, yss.flatten, yss ++ [[]], e4, is4, ?_, by simp, by omega⟩
        rw [take_snoc ha0]
        exact a2.snoc h5
      | true =>
        show te σ1 H4 fun y H5 => ∃ acc, H5 Dn = some (.lst acc) ∧ acc.length < sizeLine ∧ LcInv S O H1 Dn R xs (i + 1) (upd H5 Dn (.lst (acc ++ [y])))
        refine h5 (Dn :: O) σ1 H4 I5 _ fun y v H5 l5 t5 i5 r5 => ?_
        have e5 : H5 Dn = some (.lst us) := l5 _ _ nDM e4
        have is5 : Iss S.K (hid (Dn :: O) H5) us yss.flatten := is4.ex (hid_le l5 fun a ha => List.mem_cons_of_mem _ (I.sub a ha))
        have ex : ∀ a o, hid (Dn :: O) H5 a = some o → hid (Dn :: O) (upd H5 Dn (.lst (us ++ [v]))) a = some o := fun a o e => by
          obtain ⟨n, e⟩ := hid_some e
          rw [hid_out n, upd_ne fun z => n (by rw [z]; exact List.mem_cons_self)]
          exact e
        have I6 := I5.le l5 t5
        have leu : ∀ a o, a ≠ Dn → H5 a = some o → upd H5 Dn (.lst (us ++ [v])) a = some o := fun a o na e => by rw [upd_ne na]; exact e
        refine ⟨us, e5, Nat.lt_of_le_of_lt z2 (Nat.lt_of_lt_of_le hi hz), ?_⟩
        refine ⟨fun a o ha e => leu a o (fun z => by rw [z, hD] at e; cases e) ((Le13.trans (l4.trans l5)) a o ha e), ?_, fun a ha e => ?_, us ++ [v], yss.flatten ++ [y], yss ++ [[y]], upd_same, Iss.append (is5.ex ex) (.cons (i5.ex ex) .nil), ?_, by simp, by rw [List.length_append, List.length_singleton]; omega⟩
        · -- T stays: the new list is none of M's
          exact S.upd_own t5 nM (fun _ z => by rw [e5] at z; cases z)
        · by_cases q : a = Dn
          · exact nD (by rw [← q]; exact ha)
          · rw [upd_ne q] at e
            exact I6.live a (List.mem_cons_of_mem _ ha) e
        · rw [take_snoc ha0]
          exact a2.snoc r5
  · intro H2 L
    obtain ⟨us, ds, yss, e2, is2, a2, rfl, z2⟩ := L.acc
    rw [List.take_length] at a2
    refine k _ _ H2 (l1.trans L.le) L.t ?_ (hQ yss a2)
    refine .lst ?_ (is2.ex (hid_sub fun a ha => List.mem_cons_of_mem _ ha))
    rw [hid_out nD]
    exact e2
end NB

end PART_NB2
section PART_NB3
set_option Elab.async false
set_option linter.all false
set_option maxRecDepth 100000
set_option maxHeartbeats 4000000
set_option autoImplicit false
/-! NB3: statements and promises over data. -/
namespace NB
open PySem PySem.Spec PyProof.Rows L2

structure Base where
  H0 : Hp
  O0 : List Addr
structure SOk (S : Sys) (B : Base) (O : List Addr) (ρ : DEnv) (σ : St) (H : Hp) : Prop where
  env : EnvOk S O ρ σ H
  sub : ∀ a ∈ B.O0, a ∈ O
  le : Le S.M B.H0 H
  live : ∀ a ∈ B.O0, B.H0 a ≠ none
  own : ∀ i l, OwnAt ρ σ l i → B.H0 l = none
structure Step (O : List Addr) (H : Hp) (O' : List Addr) (H' : Hp) : Prop where
  new : ∀ a ∈ O', a ∈ O ∨ H a = none
  le : Le O H H'
theorem Step.refl (O : List Addr) (H : Hp) : Step O H O H := ⟨fun _ h => .inl h, Le.refl _ _⟩
theorem Step.trans {O O1 O2 : List Addr} {H H1 H2 : Hp} (a : Step O H O1 H1) (b : Step O1 H1 O2 H2) : Step O H O2 H2 where
  new := fun x h => by
    rcases b.new x h with h | h
    · exact a.new x h
    · cases q : H x with
      | none => exact .inr rfl
      | some o =>
        by_cases m : x ∈ O
        · exact .inl m
        · rw [a.le x o m q] at h; cases h
  le := fun x o n e => by
    refine b.le x o (fun m => ?_) (a.le x o n e)
    rcases a.new x m with m | m
    · exact n m
    · rw [m] at e; cases e
theorem SOk.go {S : Sys} {B : Base} {O : List Addr} {ρ : DEnv} {σ : St} {H H' : Hp} (I : SOk S B O ρ σ H) (le : Le S.M H H') (t : S.T H') : SOk S B O ρ σ H' ∧ Step O H O H' :=
  ⟨⟨I.env.le le t, I.sub, I.le.trans le, I.live, I.own⟩, fun _ h => .inl h, fun a o n e => le a o (fun m => n (I.env.sub a m)) e⟩
/-- what is wanted behind statements, over data -/
structure Post where
  nx : DEnv → Prop
  rt : D → Prop
  bk : DEnv → Prop
  ct : DEnv → Prop
/-- a new list, of which nothing else knows -/
def Fresh (K : PySem.W.Frag) (B : Base) (v : V) (d : D) (H : Hp) : Prop := ∃ a us xs, v = .ref a ∧ d = .lst xs ∧ B.H0 a = none ∧ H a = some (.lst us) ∧ Iss K (hid (a :: B.O0) H) us xs
def Run (S : Sys) (ts : TS) (ρ : DEnv) (P : Post) : Prop :=
  ∀ B O σ H, SOk S B O ρ σ H → ∀ Dv : Ends,
    (∀ ρ' O' σ' H', SOk S B O' ρ' σ' H' → Step O H O' H' → P.nx ρ' → Dv.nx σ' H') →
    (∀ d v H', Le S.M B.H0 H' → S.T H' → Is S.K (hid B.O0 H') v d → (S.fr = true → Fresh S.K B v d H') → P.rt d → Dv.rt v H') →
    (∀ ρ' O' σ' H', SOk S B O' ρ' σ' H' → Step O H O' H' → P.bk ρ' → Dv.bk σ' H') →
    (∀ ρ' O' σ' H', SOk S B O' ρ' σ' H' → Step O H O' H' → P.ct ρ' → Dv.ct σ' H') → ts Dv σ H
section
variable {S : Sys} {ρ : DEnv} {P : Post} {ts tu : TS} {te : TE}
theorem run_next (q : P.nx ρ) : Run S tNext ρ P := fun B O σ H I Dv k _ _ _ => k ρ O σ H I (Step.refl _ _) q
theorem run_break (q : P.bk ρ) : Run S tBreak ρ P := fun B O σ H I Dv _ _ k _ => k ρ O σ H I (Step.refl _ _) q
theorem run_cont (q : P.ct ρ) : Run S tCont ρ P := fun B O σ H I Dv _ _ _ k => k ρ O σ H I (Step.refl _ _) q
theorem run_seq (h : Run S ts ρ { P with nx := fun ρ' => Run S tu ρ' P }) : Run S (tSeq ts tu) ρ P := fun B O σ H I Dv k1 k2 k3 k4 => by
  show ts { Dv with nx := tu Dv } σ H
  refine h B O σ H I { Dv with nx := tu Dv } (fun ρ1 O1 σ1 H1 I1 s1 h1 => ?_) k2 k3 k4
  exact h1 B O1 σ1 H1 I1 Dv (fun ρ2 O2 σ2 H2 I2 s2 => k1 ρ2 O2 σ2 H2 I2 (s1.trans s2)) k2 (fun ρ2 O2 σ2 H2 I2 s2 => k3 ρ2 O2 σ2 H2 I2 (s1.trans s2)) (fun ρ2 O2 σ2 H2 I2 s2 => k4 ρ2 O2 σ2 H2 I2 (s1.trans s2))
/-- what follows an if is proved once, from Mid on -/
theorem run_cut {Mid : DEnv → Prop} (h : Run S ts ρ { P with nx := Mid }) (h2 : ∀ ρ', Mid ρ' → Run S tu ρ' P) : Run S (tSeq ts tu) ρ P := run_seq fun B O σ H I Dv k1 k2 k3 k4 =>
  h B O σ H I Dv (fun ρ1 O1 σ1 H1 I1 s1 m => k1 ρ1 O1 σ1 H1 I1 s1 (h2 ρ1 m)) k2 k3 k4
theorem Run.imp {P' : Post} (h : Run S ts ρ P) (h1 : ∀ ρ', P.nx ρ' → P'.nx ρ') (h2 : ∀ d, P.rt d → P'.rt d) (h3 : ∀ ρ', P.bk ρ' → P'.bk ρ') (h4 : ∀ ρ', P.ct ρ' → P'.ct ρ') : Run S ts ρ P' := fun B O σ H I Dv k1 k2 k3 k4 =>
  h B O σ H I Dv (fun ρ1 O1 σ1 H1 I1 s1 m => k1 ρ1 O1 σ1 H1 I1 s1 (h1 _ m)) (fun d v H' l t i f m => k2 d v H' l t i f (h2 _ m)) (fun ρ1 O1 σ1 H1 I1 s1 m => k3 ρ1 O1 σ1 H1 I1 s1 (h3 _ m)) fun ρ1 O1 σ1 H1 I1 s1 m => k4 ρ1 O1 σ1 H1 I1 s1 (h4 _ m)
theorem run_ret (h : Ev S te ρ P.rt) (hf : S.fr = false := by rfl) : Run S (tRet te) ρ P := fun B O σ H I Dv _ k _ _ =>
  h O σ H I.env _ fun d v H1 l1 t1 i1 q => k d v H1 (I.le.trans l1) t1 (i1.ex (hid_sub I.sub)) (fun z => by rw [hf] at z; cases z) q
theorem run_retN (h : P.rt .non) (hf : S.fr = false := by rfl) : Run S tRetN ρ P := fun B O σ H I Dv _ k _ _ => k .non .non H I.le I.env.t .non (fun z => by rw [hf] at z; cases z) h
theorem run_asg {g : TG} {vs : List Nat} (h : Ev S te ρ fun d => EvG S vs g ρ d P.nx) : Run S (tAsg te g) ρ P := fun B O σ H I Dv k _ _ _ => by
  refine h O σ H I.env _ fun d v H1 l1 t1 i1 q => ?_
  obtain ⟨I1, s1⟩ := I.go l1 t1
  exact q O σ H1 v I1.env i1 _ fun ρ2 σ2 I2 _ o2 q2 => k ρ2 O σ2 H1 ⟨I2, I1.sub, I1.le, I1.live, fun i l o => I1.own i l (o2 i l o)⟩ s1 q2
theorem run_set {i : Nat} (h : Ev S te ρ fun d => P.nx (ρ.set i (some (.dat d)))) : Run S (tAsg te (gName i)) ρ P := run_asg (vs := [i]) (h.imp fun _ q => evg_name (by simp) q)
theorem run_expr (h : Ev S te ρ fun _ => P.nx ρ) : Run S (tDrop te) ρ P := fun B O σ H I Dv k _ _ _ => by
  refine h O σ H I.env _ fun d v H1 l1 t1 i1 q => ?_
  obtain ⟨I1, s1⟩ := I.go l1 t1
  exact k ρ O σ H1 I1 s1 q
theorem run_if {c : TT} (h : EvT S c ρ fun b => if b = true then Run S ts ρ P else Run S tu ρ P) : Run S (tIfS c ts tu) ρ P := fun B O σ H I Dv k1 k2 k3 k4 => by
  refine h O σ H I.env _ fun b H1 l1 t1 q => ?_
  obtain ⟨I1, s1⟩ := I.go l1 t1
  cases b with
  | true =>
    show (if true = true then ts Dv σ H1 else tu Dv σ H1)
    rw [if_pos rfl]
    exact q B O σ H1 I1 Dv (fun ρ2 O2 σ2 H2 I2 s2 => k1 ρ2 O2 σ2 H2 I2 (s1.trans s2)) k2 (fun ρ2 O2 σ2 H2 I2 s2 => k3 ρ2 O2 σ2 H2 I2 (s1.trans s2)) (fun ρ2 O2 σ2 H2 I2 s2 => k4 ρ2 O2 σ2 H2 I2 (s1.trans s2))
  | false =>
    show (if false = true then ts Dv σ H1 else tu Dv σ H1)
    rw [if_neg Bool.false_ne_true]
    exact q B O σ H1 I1 Dv (fun ρ2 O2 σ2 H2 I2 s2 => k1 ρ2 O2 σ2 H2 I2 (s1.trans s2)) k2 (fun ρ2 O2 σ2 H2 I2 s2 => k3 ρ2 O2 σ2 H2 I2 (s1.trans s2)) (fun ρ2 O2 σ2 H2 I2 s2 => k4 ρ2 O2 σ2 H2 I2 (s1.trans s2))
/-- for: J by the turn and the slots -/
theorem run_for {wi : TI} {g : TG} {vs : List Nat} (h : EvI S wi ρ fun xs => ∃ J : Nat → DEnv → Prop, J 0 ρ ∧ (∀ i x ρ1, xs[i]? = some x → J i ρ1 → EvG S vs g ρ1 x fun ρ2 => Run S ts ρ2 ⟨J (i + 1), P.rt, P.nx, J (i + 1)⟩) ∧ ∀ ρ1, J xs.length ρ1 → P.nx ρ1) :
    Run S (tFor wi g ts) ρ P := fun B O σ H I Dv k1 k2 k3 k4 => by
  refine h O σ H I.env _ fun J xs H1 l1 t1 W ⟨Jv, j0, hs, he⟩ => ?_
  obtain ⟨I1, s1⟩ := I.go l1 t1
  refine for_it W (fun i σ2 H2 => ∃ ρ2 O2, SOk S B O2 ρ2 σ2 H2 ∧ Step O H1 O2 H2 ∧ Jv i ρ2) ⟨ρ, O, I1, Step.refl _ _, j0⟩ (fun i σ2 H2 _ ⟨ρ2, O2, I2, s2, _⟩ => s2.le) ?_ ?_
  · rintro i x σ2 H2 H3 hi ⟨ρ2, O2, I2, s2, j2⟩ ⟨s3, d, hd, hx⟩
    have i3 := hx O2 s2.new I2.env.live
    have t3 := S.same _ _ s3 I2.env.t
    obtain ⟨I3, st3⟩ := I2.go (Le.same s3) t3
    refine hs i d ρ2 hd j2 O2 σ2 H3 x I3.env i3 _ fun ρ4 σ4 I4 _ o4 r4 => ?_
    have I4' : SOk S B O2 ρ4 σ4 H3 := ⟨I4, I3.sub, I3.le, I3.live, fun i l o => I3.own i l (o4 i l o)⟩
    refine r4 B O2 σ4 H3 I4' _ (fun ρ5 O5 σ5 H5 I5 s5 j5 => ⟨ρ5, O5, I5, (s2.trans st3).trans s5, j5⟩) k2 (fun ρ5 O5 σ5 H5 I5 s5 q => ?_) (fun ρ5 O5 σ5 H5 I5 s5 j5 => ⟨ρ5, O5, I5, (s2.trans st3).trans s5, j5⟩)
    exact k1 ρ5 O5 σ5 H5 I5 (((s1.trans s2).trans st3).trans s5) q
  · rintro σ2 H2 ⟨ρ2, O2, I2, s2, j2⟩
    exact k1 ρ2 O2 σ2 H2 I2 (s1.trans s2) (he ρ2 j2)
/-- while: J and a measure -/
theorem run_while {c : TT} (J : DEnv → Prop) (μ : DEnv → Nat) (j0 : J ρ) (h : ∀ ρ1, J ρ1 → EvT S c ρ1 fun b => if b = true then Run S ts ρ1 ⟨fun ρ2 => J ρ2 ∧ μ ρ2 < μ ρ1, P.rt, P.nx, fun ρ2 => J ρ2 ∧ μ ρ2 < μ ρ1⟩ else P.nx ρ1) :
    Run S (tWhile c ts) ρ P := fun B O σ H I Dv k1 k2 k3 k4 => by
  refine ⟨fun m σ2 H2 => ∃ ρ2 O2, m = μ ρ2 ∧ SOk S B O2 ρ2 σ2 H2 ∧ Step O H O2 H2 ∧ J ρ2, ⟨_, ρ, O, rfl, I, Step.refl _ _, j0⟩, ?_⟩
  rintro m σ2 H2 ⟨ρ2, O2, rfl, I2, s2, j2⟩
  refine h ρ2 j2 O2 σ2 H2 I2.env _ fun b H3 l3 t3 q => ?_
  obtain ⟨I3, s3⟩ := I2.go l3 t3
  cases b with
  | true =>
    rw [if_pos rfl]
    refine ⟨fun σ5 H5 => ∃ ρ5 O5, SOk S B O5 ρ5 σ5 H5 ∧ Step O H O5 H5 ∧ J ρ5 ∧ μ ρ5 < μ ρ2, fun σ5 H5 ⟨ρ5, O5, I5, s5, j5, l5⟩ => ⟨_, l5, ρ5, O5, rfl, I5, s5, j5⟩, ?_⟩
    exact q B O2 σ2 H3 I3 _ (fun ρ5 O5 σ5 H5 I5 s5 ⟨j5, l5⟩ => ⟨ρ5, O5, I5, (s2.trans s3).trans s5, j5, l5⟩) k2 (fun ρ5 O5 σ5 H5 I5 s5 q5 => k1 ρ5 O5 σ5 H5 I5 ((s2.trans s3).trans s5) q5) (fun ρ5 O5 σ5 H5 I5 s5 ⟨j5, l5⟩ => ⟨ρ5, O5, I5, (s2.trans s3).trans s5, j5, l5⟩)
  | false =>
    rw [if_neg Bool.false_ne_true]
    exact k1 ρ2 O2 σ2 H3 I3 (s2.trans s3) q
/-! ### owned lists -/
theorem OwnAt.ne {ρ : DEnv} {σ : St} {k i : Nat} {s : Option Sl} {v : Option V} {l : Addr} (h : OwnAt (ρ.set k s) (σ.set k v) l i) (e : k ≠ i) : OwnAt ρ σ l i := by
  obtain ⟨t, h1, h2, h3⟩ := h
  rw [List.getElem?_set_ne e] at h1 h3
  exact ⟨t, h1, h2, h3⟩
theorem OwnAt.self {ρ : DEnv} {σ : St} {k : Nat} {s : Sl} {v : V} {l : Addr} (h : OwnAt (ρ.set k (some s)) (σ.set k (some v)) l k) : v = .ref l ∧ s.isOwn = true := by
  obtain ⟨t, h1, h2, h3⟩ := h
  rw [List.getElem?_set] at h1 h3
  simp only [if_true] at h1 h3
  split at h3
  · split at h1
    · cases h1
      exact ⟨Option.some.inj (Option.some.inj h3), h2⟩
    · cases h1
  · cases h3
/-- a new owned object at p is put into slot k -/
theorem EnvOk.put_own {S : Sys} {O : List Addr} {ρ : DEnv} {σ : St} {H : Hp} {p : Addr} {o : HO} {k : Nat} {s : Sl} (I : EnvOk S O ρ σ H) (hp : H p = none) (hs : s.isOwn = true) (ok : OwnOk S.K (p :: O) (upd H p o) p s) :
    EnvOk S (p :: O) (ρ.set k (some s)) (σ.set k (some (.ref p))) (upd H p o) := by
  have np : p ∉ O := fun m => I.live p m hp
  have t' := S.same _ _ (Same.upd (o := o) hp) I.t
  have I' : EnvOk S (p :: O) ρ σ (upd H p o) := I.owned hp (by rw [upd_same]; exact fun z => by cases z) (fun a u ha e => by rw [upd_ne fun z => ha (by rw [z]; exact List.mem_cons_self)]; exact e) t'
  have old : ∀ i, OwnAt ρ σ p i → False := fun i h => by
    obtain ⟨s, h1, h2, h3⟩ := h
    obtain ⟨v, hv, q⟩ := I.at_ i s h1
    rw [h3] at hv
    obtain rfl : V.ref p = v := Option.some.inj (Option.some.inj hv)
    cases s with
    | dat d => cases h2
    | own xs =>
      obtain ⟨l, e, m, _⟩ := q
      cases e
      exact np m
    | ownK xs =>
      obtain ⟨l, e, m, _⟩ := q
      cases e
      exact np m
    | ownT xs =>
      obtain ⟨l, e, m, _⟩ := q
      cases e
      exact np m
    | ownI b C fs =>
      obtain ⟨l, e, m, _⟩ := q
      cases e
      exact np m
  exact {
    len := by rw [List.length_set, List.length_set]; exact I.len
    t := t'
    sub := I'.sub
    live := I'.live
    at_ := fun i u hu => by
      by_cases e : k = i
      · subst e
        have hk : k < ρ.length := by
          by_cases hk : k < ρ.length
          · exact hk
          · rw [List.getElem?_eq_none (by simpa using hk)] at hu; cases hu
        rw [List.getElem?_set_self hk] at hu
        cases hu
        refine ⟨.ref p, List.getElem?_set_self (by rw [I.len]; exact hk), ?_⟩
        cases s with
        | dat d => cases hs
        | own xs => exact ⟨p, rfl, List.mem_cons_self, ok⟩
        | ownK xs => exact ⟨p, rfl, List.mem_cons_self, ok⟩
        | ownT xs => exact ⟨p, rfl, List.mem_cons_self, ok⟩
        | ownI b C fs => exact ⟨p, rfl, List.mem_cons_self, ok⟩
      · rw [List.getElem?_set_ne e] at hu ⊢
        exact I'.at_ i u hu
    dis := fun i j l hi hj => by
      by_cases ei : k = i
      · subst ei
        by_cases ej : k = j
        · exact ej
        · have e := hi.self.1
          cases e
          exact (old j (hj.ne ej)).elim
      · by_cases ej : k = j
        · subst ej
          have e := hj.self.1
          cases e
          exact (old i (hi.ne ei)).elim
        · exact I.dis i j l (hi.ne ei) (hj.ne ej)
    outM := fun i l hi => by
      by_cases ei : k = i
      · subst ei
        have e := hi.self.1
        cases e
        exact fun m => np (I.sub _ m)
      · exact I.outM i l (hi.ne ei)
    xk := I'.xk }
theorem SOk.put_own {S : Sys} {B : Base} {O : List Addr} {ρ : DEnv} {σ : St} {H : Hp} {p : Addr} {o : HO} {k : Nat} {s : Sl} (I : SOk S B O ρ σ H) (hp : H p = none) (hs : s.isOwn = true) (ok : OwnOk S.K (p :: O) (upd H p o) p s) :
    SOk S B (p :: O) (ρ.set k (some s)) (σ.set k (some (.ref p))) (upd H p o) ∧ Step O H (p :: O) (upd H p o) := by
  have np : p ∉ O := fun m => I.env.live p m hp
  refine ⟨⟨I.env.put_own hp hs ok, fun a ha => List.mem_cons_of_mem _ (I.sub a ha), I.le.trans (Le.same (Same.upd hp)), I.live, fun i l hi => ?_⟩, fun a ha => ?_, Le.same (Same.upd hp)⟩
  · by_cases ei : k = i
    · subst ei
      have e := hi.self.1
      cases e
      cases q : B.H0 p with
      | none => rfl
      | some u =>
        have nM : p ∉ S.M := fun m => np (I.env.sub _ m)
        rw [I.le p u nM q] at hp; cases hp
    · exact I.own i l (hi.ne ei)
  · rcases List.mem_cons.mp ha with rfl | ha
    · exact .inr hp
    · exact .inl ha
theorem iss_push {K : PySem.W.Frag} {O : List Addr} {H : Hp} {p : Addr} {o : HO} {vs : List V} {ds : List D} (hp : H p = none) (i : Iss K (hid O H) vs ds) : Iss K (hid (p :: O) (upd H p o)) vs ds := i.ex fun a u e => by
  obtain ⟨n, e⟩ := hid_some e
  have na : a ≠ p := ne_of_none e hp
  rw [hid_out (by simp only [List.mem_cons, not_or]; exact ⟨na, n⟩), upd_ne na]
  exact e
/-- x = [..], the list to be changed later -/
theorem run_own {t : TA} {k : Nat} (h : EvA S t ρ fun ds => ds.length ≤ sizeLine ∧ P.nx (ρ.set k (some (.own ds)))) : Run S (tAsg (tLst t) (gName k)) ρ P := fun B O σ H I Dv k1 _ _ _ => by
  refine h O σ H I.env _ fun ds vs H1 l1 t1 i1 ⟨z, q⟩ => ?_
  obtain ⟨I1, s1⟩ := I.go l1 t1
  refine ⟨by rw [i1.length]; exact z, fun p hp => ?_⟩
  obtain ⟨I2, s2⟩ := I1.put_own (k := k) (s := .own ds) (o := .lst vs) hp rfl ⟨vs, upd_same, iss_push hp i1⟩
  exact k1 _ _ _ _ I2 (s1.trans s2) q
/-- the object of an owned slot is changed -/
theorem SOk.mut {S : Sys} {B : Base} {O : List Addr} {ρ : DEnv} {σ : St} {H : Hp} {l : Addr} {o : HO} {k : Nat} {s s' : Sl} (I : SOk S B O ρ σ H) (hk : ρ[k]? = some (some s)) (hs : s.isOwn = true) (hs' : s'.isOwn = true) (hv : σ[k]? = some (some (.ref l))) (hl : l ∈ O) (ok : OwnOk S.K O (upd H l o) l s') :
    SOk S B O (ρ.set k (some s')) σ (upd H l o) ∧ Step O H O (upd H l o) := by
  have nM : l ∉ S.M := I.env.outM k l ⟨s, hk, hs, hv⟩
  have ex : ∀ a u, hid O H a = some u → hid O (upd H l o) a = some u := fun a u e => by
    obtain ⟨n, e⟩ := hid_some e
    rw [hid_out n, upd_ne fun z => n (by rw [z]; exact hl)]
    exact e
  have hσ : σ.set k (some (.ref l)) = σ := by
    apply List.ext_getElem?
    intro j
    by_cases e : k = j
    · subst e
      have : k < σ.length := by
        by_cases h : k < σ.length
        · exact h
        · rw [List.getElem?_eq_none (by simpa using h)] at hv; cases hv
      rw [List.getElem?_set_self this, hv]
    · rw [List.getElem?_set_ne e]
  have own : ∀ i m, OwnAt (ρ.set k (some s')) σ m i → OwnAt ρ σ m i := fun i m h => by
    by_cases e : k = i
    · subst e
      obtain ⟨t, h1, h2, h3⟩ := h
      exact ⟨s, hk, hs, h3⟩
    · rw [← hσ] at h
      exact h.ne e
  have oth : ∀ i u m, ρ[i]? = some (some u) → u.isOwn = true → σ[i]? = some (some (.ref m)) → k ≠ i → m ≠ l := fun i u m h1 h2 h3 e z => by
    subst z
    exact e (I.env.dis k i m ⟨s, hk, hs, hv⟩ ⟨u, h1, h2, h3⟩)
  have ot : ∀ i u, k ≠ i → ρ[i]? = some (some u) → ∃ v, σ[i]? = some (some v) ∧ SlOk S.K O (upd H l o) v u := fun i u e h1 => by
    obtain ⟨v, h2, q⟩ := I.env.at_ i u h1
    refine ⟨v, h2, ?_⟩
    cases u with
    | dat d => exact Is.ex ex q
    | own xs =>
      obtain ⟨m, rfl, hm, vs, e2, q⟩ := q
      exact ⟨m, rfl, hm, vs, by rw [upd_ne (oth i _ m h1 rfl h2 e)]; exact e2, q.ex ex⟩
    | ownK xs =>
      obtain ⟨m, rfl, hm, us, e2, e3, q⟩ := q
      exact ⟨m, rfl, hm, us, by rw [upd_ne (oth i _ m h1 rfl h2 e)]; exact e2, e3, q.ex ex⟩
    | ownT xs =>
      obtain ⟨m, rfl, hm, us, e2, e3, q⟩ := q
      exact ⟨m, rfl, hm, us, by rw [upd_ne (oth i _ m h1 rfl h2 e)]; exact e2, e3, q.ex ex⟩
    | ownI b C fs =>
      obtain ⟨m, rfl, hm, eb, dx, us, e2, e3, q⟩ := q
      exact ⟨m, rfl, hm, eb, dx, us, by rw [upd_ne (oth i _ m h1 rfl h2 e)]; exact e2, e3, q.ex ex⟩
  have h0 : B.H0 l = none := I.own k l ⟨s, hk, hs, hv⟩
  refine ⟨⟨{
    len := by rw [List.length_set]; exact I.env.len
    t := S.upd_own I.env.t nM fun φ z => by
      obtain ⟨v', hv', q⟩ := I.env.at_ k s hk
      rw [hv] at hv'
      cases hv'
      cases s with
      | dat d => cases hs
      | own xs => obtain ⟨m, e0, _, us, e1, _⟩ := q; cases e0; rw [e1] at z; cases z
      | ownK xs => obtain ⟨m, e0, _, us, e1, _⟩ := q; cases e0; rw [e1] at z; cases z
      | ownT xs => obtain ⟨m, e0, _, us, e1, _⟩ := q; cases e0; rw [e1] at z; cases z
      | ownI b C fs => obtain ⟨m, e0, _, eb, dx, us, e1, _⟩ := q; cases e0; rw [e1] at z; cases z
    sub := I.env.sub
    live := fun a ha e => ?_
    at_ := fun i u hu => ?_
    dis := fun i j m hi hj => I.env.dis i j m (own _ _ hi) (own _ _ hj)
    outM := fun i m hi => I.env.outM i m (own _ _ hi)
    xk := I.env.xk.le (M := [l]) (fun a u n e => by rw [upd_ne fun z => n (by rw [z]; exact List.mem_singleton_self _)]; exact e) (fun a ha => by rw [List.mem_singleton.mp ha]; exact hl) }, I.sub, fun a u n e => ?_, I.live, fun i m hi => I.own i m (own _ _ hi)⟩, fun _ h => .inl h, fun a u n e => ?_⟩
  · by_cases q : a = l
    · subst q
      rw [upd_same] at e; cases e
    · rw [upd_ne q] at e
      exact I.env.live a ha e
  · by_cases e : k = i
    · subst e
      have hk' : k < ρ.length := by
        by_cases h : k < ρ.length
        · exact h
        · rw [List.getElem?_eq_none (by simpa using h)] at hk; cases hk
      rw [List.getElem?_set_self hk'] at hu
      cases hu
      refine ⟨.ref l, hv, ?_⟩
      cases s' with
      | dat d => cases hs'
      | own xs => exact ⟨l, rfl, hl, ok⟩
      | ownK xs => exact ⟨l, rfl, hl, ok⟩
      | ownT xs => exact ⟨l, rfl, hl, ok⟩
      | ownI b C fs => exact ⟨l, rfl, hl, ok⟩
    · rw [List.getElem?_set_ne e] at hu
      exact ot i u e hu
  · rw [upd_ne fun z => by rw [z, h0] at e; cases e]
    exact I.le a u n e
  · rw [upd_ne fun z => n (by rw [z]; exact hl)]
    exact e
/-- an owned list, at its place -/
theorem SOk.own_at {S : Sys} {B : Base} {O : List Addr} {ρ : DEnv} {σ : St} {H : Hp} {k : Nat} {xs : List D} (I : SOk S B O ρ σ H) (hk : ρ[k]? = some (some (.own xs))) : ∃ l vs, σ[k]? = some (some (.ref l)) ∧ l ∈ O ∧ H l = some (.lst vs) ∧ Iss S.K (hid O H) vs xs := by
  obtain ⟨v, hv, l, rfl, hl, vs, e, q⟩ := I.env.at_ k _ hk
  exact ⟨l, vs, hv, hl, e, q⟩
/-- x.append(e) -/
theorem run_append {k : Nat} {xs : List D} (hk : ρ[k]? = some (some (.own xs))) (hz : xs.length < sizeLine) (h : Ev S te ρ fun d => P.nx (ρ.set k (some (.own (xs ++ [d]))))) : Run S (tDrop (tBM S.K "list" rAppend (tVar k) (tCons te tNil))) ρ P := fun B O σ H I Dv k1 _ _ _ => by
  obtain ⟨l, vs, hv, hl, e, is⟩ := I.own_at hk
  refine ⟨.ref l, hv, .inl ⟨rfl, _, .inl (.inl e)⟩, ?_⟩
  refine h O σ H I.env _ fun d v H1 l1 t1 i1 q => ?_
  obtain ⟨I1, s1⟩ := I.go l1 t1
  have nM : l ∉ S.M := I.env.outM k l ⟨_, hk, rfl, hv⟩
  have e1 := l1 _ _ nM e
  have is1 := is.ex (hid_le l1 I.env.sub)
  refine ⟨l, vs, v, rfl, rfl, e1, by rw [is.length]; exact hz, ?_⟩
  have ex : ∀ a u, hid O H1 a = some u → hid O (upd H1 l (.lst (vs ++ [v]))) a = some u := fun a u e => by
    obtain ⟨n, e⟩ := hid_some e
    rw [hid_out n, upd_ne fun z => n (by rw [z]; exact hl)]
    exact e
  obtain ⟨I2, s2⟩ := I1.mut (s' := .own (xs ++ [d])) (o := .lst (vs ++ [v])) hk rfl rfl hv hl ⟨_, upd_same, Iss.append (is1.ex ex) (.cons (i1.ex ex) .nil)⟩
  exact k1 _ _ _ _ I2 (s1.trans s2) q
/-- what was owned is from now on data -/
theorem EnvOk.freeze {S : Sys} {O : List Addr} {ρ : DEnv} {σ : St} {H : Hp} {k : Nat} {s : Sl} (I : EnvOk S O ρ σ H) (hk : ρ[k]? = some (some s)) (hs : s.isOwn = true) :
    ∃ l, σ[k]? = some (some (.ref l)) ∧ EnvOk S (O.filter (· ≠ l)) (ρ.set k (some (.dat s.d))) σ H := by
  obtain ⟨v, hv, q⟩ := I.at_ k s hk
  have : ∃ l, v = .ref l ∧ l ∈ O ∧ OwnOk S.K O H l s := by
    cases s with
    | dat d => cases hs
    | own xs => exact q
    | ownK xs => exact q
    | ownT xs => exact q
    | ownI b C fs => exact q
  obtain ⟨l, rfl, hl, ok⟩ := this
  have nM : l ∉ S.M := I.outM k l ⟨s, hk, hs, hv⟩
  have hsub : ∀ a ∈ O.filter (· ≠ l), a ∈ O := fun a ha => (List.mem_filter.mp ha).1
  have hl' : l ∉ O.filter (· ≠ l) := fun m => by simpa using (List.mem_filter.mp m).2
  have hd : Is S.K (hid (O.filter (· ≠ l)) H) (.ref l) s.d := by
    cases s with
    | dat d => cases hs
    | own xs =>
      obtain ⟨vs, e, is⟩ := ok
      exact .lst (by rw [hid_out hl']; exact e) (is.ex (hid_sub hsub))
    | ownK xs =>
      obtain ⟨us, e, k, is⟩ := ok
      exact .dK (.inl (by rw [hid_out hl']; exact e)) k (is.ex (hid_sub hsub))
    | ownT xs =>
      obtain ⟨us, e, k, is⟩ := ok
      exact .dT (.inl (by rw [hid_out hl']; exact e)) k (is.ex (hid_sub hsub))
    | ownI b C fs =>
      obtain ⟨eb, dx, us, e, k, is⟩ := ok
      exact .obj (by rw [hid_out hl']; exact e) k (is.ex (hid_sub hsub))
  have hσ : σ.set k (some (.ref l)) = σ := by
    apply List.ext_getElem?
    intro j
    by_cases e : k = j
    · subst e
      have : k < σ.length := by
        by_cases h : k < σ.length
        · exact h
        · rw [List.getElem?_eq_none (by simpa using h)] at hv; cases hv
      rw [List.getElem?_set_self this, hv]
    · rw [List.getElem?_set_ne e]
  have own : ∀ i m, OwnAt (ρ.set k (some (.dat s.d))) σ m i → OwnAt ρ σ m i ∧ k ≠ i := fun i m h => by
    rw [← hσ] at h
    obtain ⟨h1, h2⟩ := h.of_set I.len
    exact ⟨h1, fun z => h2 z.symm⟩
  have oth : ∀ i u m, ρ[i]? = some (some u) → u.isOwn = true → σ[i]? = some (some (.ref m)) → k ≠ i → m ≠ l := fun i u m h1 h2 h3 e z => by
    subst z
    exact e (I.dis k i m ⟨s, hk, hs, hv⟩ ⟨u, h1, h2, h3⟩)
  have keep : ∀ m, m ∈ O → m ≠ l → m ∈ O.filter (· ≠ l) := fun m h n => List.mem_filter.mpr ⟨h, by simpa using n⟩
  refine ⟨l, hv, {
    len := by rw [List.length_set]; exact I.len
    t := I.t
    sub := fun a ha => keep a (I.sub a ha) fun z => nM (by rw [← z]; exact ha)
    live := fun a ha => I.live a (hsub a ha)
    at_ := fun i u hu => ?_
    dis := fun i j m hi hj => I.dis i j m (own _ _ hi).1 (own _ _ hj).1
    outM := fun i m hi => I.outM i m (own _ _ hi).1
    xk := I.xk.sub hsub }⟩
  by_cases e : k = i
  · subst e
    have hk' : k < ρ.length := by
      by_cases h : k < ρ.length
      · exact h
      · rw [List.getElem?_eq_none (by simpa using h)] at hk; cases hk
    rw [List.getElem?_set_self hk'] at hu
    cases hu
    exact ⟨.ref l, hv, hd⟩
  · rw [List.getElem?_set_ne e] at hu
    obtain ⟨v, h2, q⟩ := I.at_ i u hu
    refine ⟨v, h2, ?_⟩
    cases u with
    | dat d => exact Is.ex (hid_sub hsub) q
    | own xs =>
      obtain ⟨m, rfl, hm, vs, e2, q⟩ := q
      exact ⟨m, rfl, keep m hm (oth i _ m hu rfl h2 e), vs, e2, q.ex (hid_sub hsub)⟩
    | ownK xs =>
      obtain ⟨m, rfl, hm, us, e2, e3, q⟩ := q
      exact ⟨m, rfl, keep m hm (oth i _ m hu rfl h2 e), us, e2, e3, q.ex (hid_sub hsub)⟩
    | ownT xs =>
      obtain ⟨m, rfl, hm, us, e2, e3, q⟩ := q
      exact ⟨m, rfl, keep m hm (oth i _ m hu rfl h2 e), us, e2, e3, q.ex (hid_sub hsub)⟩
    | ownI b C fs =>
      obtain ⟨m, rfl, hm, eb, dx, us, e2, e3, q⟩ := q
      exact ⟨m, rfl, keep m hm (oth i _ m hu rfl h2 e), eb, dx, us, e2, e3, q.ex (hid_sub hsub)⟩
theorem run_freeze {k : Nat} {s : Sl} (hk : ρ[k]? = some (some s)) (hs : s.isOwn = true) (h : Run S ts (ρ.set k (some (.dat s.d))) P) : Run S ts ρ P := fun B O σ H I Dv k1 k2 k3 k4 => by
  obtain ⟨l, hv, I'⟩ := I.env.freeze hk hs
  have h0 := I.own k l ⟨s, hk, hs, hv⟩
  have hσ : σ.set k (some (.ref l)) = σ := by
    apply List.ext_getElem?
    intro j
    by_cases e : k = j
    · subst e
      have : k < σ.length := by
        by_cases h : k < σ.length
        · exact h
        · rw [List.getElem?_eq_none (by simpa using h)] at hv; cases hv
      rw [List.getElem?_set_self this, hv]
    · rw [List.getElem?_set_ne e]
  have I2 : SOk S B (O.filter (· ≠ l)) (ρ.set k (some (.dat s.d))) σ H := ⟨I', fun a ha => List.mem_filter.mpr ⟨I.sub a ha, by simpa using fun z : a = l => I.live l (by rw [← z]; exact ha) h0⟩, I.le, I.live, fun i m hi => by
    rw [← hσ] at hi
    exact I.own i m (hi.of_set I.env.len).1⟩
  have st : Step O H (O.filter (· ≠ l)) H := ⟨fun a ha => .inl (List.mem_filter.mp ha).1, Le.refl _ _⟩
  exact h B _ σ H I2 Dv (fun ρ1 O1 σ1 H1 I1 s1 q => k1 ρ1 O1 σ1 H1 I1 (st.trans s1) q) k2 (fun ρ1 O1 σ1 H1 I1 s1 q => k3 ρ1 O1 σ1 H1 I1 (st.trans s1) q) fun ρ1 O1 σ1 H1 I1 s1 q => k4 ρ1 O1 σ1 H1 I1 (st.trans s1) q
/-- a value that no object is -/
def flatD : D → Bool
  | .non => true
  | .bl _ => true
  | .int _ => true
  | .str _ => true
  | .ty _ => true
  | _ => false
theorem is_flat {K : PySem.W.Frag} {H H' : Hp} {v : V} {d : D} (h : Is K H v d) (f : flatD d = true) : Is K H' v d := by
  cases h <;> first | exact .non | exact .bl _ | exact .int _ | exact .str _ | exact .ty _ | cases f
/-- an owned object is read -/
theorem ev_borrow {k : Nat} {s : Sl} {Q : D → Prop} (hk : ρ[k]? = some (some s)) (hs : s.isOwn = true) (h : Ev S te (ρ.set k (some (.dat s.d))) fun d => flatD d = true ∧ Q d) : Ev S te ρ Q := fun O σ H I Qv q => by
  obtain ⟨l, hv, I'⟩ := I.freeze hk hs
  exact h _ σ H I' _ fun d v H1 l1 t1 i1 ⟨f, c⟩ => q d v H1 l1 t1 (is_flat i1 f) c
theorem evt_borrow {tt : TT} {k : Nat} {s : Sl} {Q : Bool → Prop} (hk : ρ[k]? = some (some s)) (hs : s.isOwn = true) (h : EvT S tt (ρ.set k (some (.dat s.d))) Q) : EvT S tt ρ Q := fun O σ H I Qv q => by
  obtain ⟨l, hv, I'⟩ := I.freeze hk hs
  exact h _ σ H I' _ fun b H1 l1 t1 c => q b H1 l1 t1 c
end

/-! ### promises -/
/-- what a def asks of its arguments and gives, as a transformer over data -/
structure Fn where
  f : List D → (D → Prop) → Prop
  mono : ∀ ds Q Q', (∀ d, Q d → Q' d) → f ds Q → f ds Q'
def spF (S : Sys) (F : Fn) : Sp := fun vs H Q _ => ∃ O ds, S.T H ∧ (∀ a ∈ S.M, a ∈ O) ∧ (∀ a ∈ O, H a ≠ none) ∧ Iss S.K (hid O H) vs ds ∧ F.f ds fun d => ∀ v H', Le S.M H H' → S.T H' → Is S.K (hid O H') v d → Q v H'
def startD (N : List Str) (ds : List D) : DEnv := ds.map (fun d => some (.dat d)) ++ List.replicate (N.length - ds.length) none
theorem sok_start {S : Sys} {N : List Str} {O : List Addr} {H : Hp} {vs : List V} {ds : List D} (t : S.T H) (sub : ∀ a ∈ S.M, a ∈ O) (live : ∀ a ∈ O, H a ≠ none) (i : Iss S.K (hid O H) vs ds) (x : XOk S O H) : SOk S ⟨H, O⟩ O (startD N ds) (start N vs) H := by
  have at_ : ∀ (i : Nat) (s : Sl), (startD N ds)[i]? = some (some s) → ∃ d, s = .dat d ∧ ds[i]? = some d := fun i s h => by
    unfold startD at h
    by_cases hi : i < ds.length
    · rw [List.getElem?_append_left (by simpa using hi), List.getElem?_map] at h
      cases e : ds[i]? with
      | none => rw [e] at h; cases h
      | some d =>
        rw [e] at h
        exact ⟨d, (Option.some.inj (Option.some.inj h)).symm, rfl⟩
    · rw [List.getElem?_append_right (by simpa using hi), List.getElem?_replicate] at h
      split at h <;> cases h
  have no : ∀ i l, ¬ OwnAt (startD N ds) (start N vs) l i := fun i l ⟨s, h1, h2, _⟩ => by
    obtain ⟨d, rfl, _⟩ := at_ i s h1
    cases h2
  exact ⟨{
    len := by unfold startD L2.start; simp [i.length]
    t := t
    sub := sub
    live := live
    at_ := fun j s hs => by
      obtain ⟨d, rfl, hd⟩ := at_ j s hs
      obtain ⟨v, hv, iv⟩ := i.get hd
      refine ⟨v, ?_, iv⟩
      have hj : j < vs.length := by
        by_cases h : j < vs.length
        · exact h
        · rw [List.getElem?_eq_none (by simpa using h)] at hv; cases hv
      unfold L2.start
      rw [List.getElem?_append_left (by simpa using hj), List.getElem?_map, hv] <;> rfl
    dis := fun i j l h _ => (no i l h).elim
    outM := fun i l h => (no i l h).elim
    xk := x }, fun _ h => h, Le.refl _ _, live, fun i l h => (no i l h).elim⟩
/-- a def's body keeps its promise -/
theorem body_of {S : Sys} {F : Fn} {t : TS} {N : List Str} {vs : List V} {H : Hp} {Q : VK} {E : XK} (h : spF S F vs H Q E) (hr : ∀ ds R, F.f ds R → Run S t (startD N ds) ⟨fun _ => R .non, R, fun _ => False, fun _ => False⟩) (hx : ∀ O H, XOk S O H := by exact fun _ _ => ⟨fun _ _ _ e => (by cases e), fun _ _ _ => rfl⟩) :
    t { nx := fun _ H' => Q .non H', rt := Q } (start N vs) H := by
  obtain ⟨O, ds, tt, sub, live, i, f⟩ := h
  exact hr ds _ f ⟨H, O⟩ O _ H (sok_start tt sub live i (hx _ _)) _ (fun ρ' O' σ' H' I' _ q => q .non H' I'.le I'.env.t .non) (fun d v H' l t i _ q => q v H' l t i) (fun _ _ _ _ _ _ q => q.elim) (fun _ _ _ _ _ _ q => q.elim)
/-- a call of a def that changes nothing -/
theorem ev_call {S : Sys} {ρ : DEnv} {F : Fn} {t : TA} {E : XK} {Q : D → Prop} (h : EvA S t ρ fun ds => F.f ds Q) : Ev S (tCall (spF (S0 S.K) F) [] E t) ρ Q := fun O σ H I Qv k => by
  refine h O σ H I _ fun ds vs H1 l1 t1 i1 q => ?_
  rw [List.append_nil]
  refine ⟨O, ds, trivial, fun a ha => absurd ha (by simp [S0]), (I.le l1 t1).live, i1, F.mono _ _ _ (fun d c v H' l _ i => ?_) q⟩
  have l' : Same H1 H' := fun a o e => l a o (by simp [S0]) e
  exact k d v H' (l1.trans (Le.same l')) (S.same _ _ l' t1) i c
/-- .. with defaults -/
theorem ev_callD {S : Sys} {ρ : DEnv} {F : Fn} {t : TA} {E : XK} {Q : D → Prop} {dvs : List V} {dds : List D} (hd : ∀ H, Iss S.K H dvs dds) (h : EvA S t ρ fun ds => F.f (ds ++ dds) Q) : Ev S (tCall (spF (S0 S.K) F) dvs E t) ρ Q := fun O σ H I Qv k => by
  refine h O σ H I _ fun ds vs H1 l1 t1 i1 q => ?_
  refine ⟨O, ds ++ dds, trivial, fun a ha => absurd ha (by simp [S0]), (I.le l1 t1).live, Iss.append i1 (hd _), F.mono _ _ _ (fun d c v H' l _ i => ?_) q⟩
  have l' : Same H1 H' := fun a o e => l a o (by simp [S0]) e
  exact k d v H' (l1.trans (Le.same l')) (S.same _ _ l' t1) i c
/-- a call of a def under the same law of change -/
theorem ev_callS {S : Sys} {ρ : DEnv} {F : Fn} {t : TA} {E : XK} {Q : D → Prop} {sp : Sp} (hsp : ∀ vs H Q E, spF S F vs H Q E → sp vs H Q E) (h : EvA S t ρ fun ds => F.f ds Q) : Ev S (tCall sp [] E t) ρ Q := fun O σ H I Qv k => by
  refine h O σ H I _ fun ds vs H1 l1 t1 i1 q => ?_
  rw [List.append_nil]
  refine hsp _ _ _ _ ⟨O, ds, t1, I.sub, (I.le l1 t1).live, i1, F.mono _ _ _ (fun d c v H' l t' i => ?_) q⟩
  exact k d v H' (l1.trans l) t' i c
end NB

end PART_NB3
section PART_NB4
set_option Elab.async false
set_option linter.all false
set_option maxRecDepth 100000
set_option maxHeartbeats 4000000
set_option autoImplicit false
/-! NB4: operators, built-ins, methods over data. -/
namespace NB
open PySem PySem.Spec PyProof.Rows L2

section
variable {K : PySem.W.Frag} {Q : D → Prop}
/-- the value of a flat datum -/
def dV : D → V
  | .non => .non
  | .bl b => .bl b
  | .int i => .int i
  | .str x => .str x
  | .ty n => .ty n
  | .loc a => .ref a
  | _ => .non
theorem is_dV {H : Hp} {v : V} {d : D} (h : Is K H v d) (f : flatD d = true) : v = dV d := by
  cases h <;> first | rfl | cases f
theorem iss_dV {H : Hp} : ∀ {vs : List V} {ds : List D}, Iss K H vs ds → ds.all flatD = true → vs = ds.map dV
  | _, _, .nil, _ => rfl
  | _, _, .cons h t, f => by
    rw [List.all_cons, Bool.and_eq_true] at f
    rw [is_dV h f.1, iss_dV t f.2, List.map_cons]
/-! ### ints -/
theorem rvr_ii {g : Int → Int → Int} {i j : Int} (q : Q (.int (g i j))) : RvR K (rI0 fun i j => .int (g i j)) (.int i) (.int j) Q := fun O H v u live hv hu Qv k =>
  ⟨i, j, is_int hv, is_int hu, k _ _ H (Same.refl _) (.int _) q⟩
theorem rvr_ib {g : Int → Int → Bool} {i j : Int} (q : Q (.bl (g i j))) : RvR K (rI0 fun i j => .bl (g i j)) (.int i) (.int j) Q := fun O H v u live hv hu Qv k =>
  ⟨i, j, is_int hv, is_int hu, k _ _ H (Same.refl _) (.bl _) q⟩
theorem rvr_iic {C : Int → Int → Prop} {g : Int → Int → Int} {i j : Int} (c : C i j) (q : Q (.int (g i j))) : RvR K (rI C fun i j => .int (g i j)) (.int i) (.int j) Q := fun O H v u live hv hu Qv k =>
  ⟨i, j, is_int hv, is_int hu, c, k _ _ H (Same.refl _) (.int _) q⟩
theorem rvu_neg {i : Int} (q : Q (.int (-i))) : RvU K (rU fun i => .int (-i)) (.int i) Q := fun O H v live hv Qv k => ⟨i, is_int hv, k _ _ H (Same.refl _) (.int _) q⟩
/-! ### == of flat data -/
theorem rvr_eq {x y : D} (fx : flatD x = true) (fy : flatD y = true) (s : scal (dV x) (dV y) = true) (q : Q (.bl (decide (dV x = dV y)))) : RvR K rEq x y Q := fun O H v u live hv hu Qv k => by
  rw [is_dV hv fx, is_dV hu fy]
  exact ⟨s, k _ _ H (Same.refl _) (.bl _) q⟩
theorem rvr_ne {x y : D} (fx : flatD x = true) (fy : flatD y = true) (s : scal (dV x) (dV y) = true) (q : Q (.bl (!decide (dV x = dV y)))) : RvR K rNe x y Q := fun O H v u live hv hu Qv k => by
  rw [is_dV hv fx, is_dV hu fy]
  exact ⟨s, k _ _ H (Same.refl _) (.bl _) q⟩
theorem dec_int (i j : Int) : decide (V.int i = V.int j) = decide (i = j) := by
  by_cases h : i = j
  · subst h; simp
  · simp [h]
theorem dec_str (i j : Str) : decide (V.str i = V.str j) = decide (i = j) := by
  by_cases h : i = j
  · subst h; simp
  · simp [h]
theorem dec_bl (i j : Bool) : decide (V.bl i = V.bl j) = decide (i = j) := by
  by_cases h : i = j
  · subst h; simp
  · simp [h]
theorem rvr_eqI {i j : Int} (q : Q (.bl (decide (i = j)))) : RvR K rEq (.int i) (.int j) Q := rvr_eq rfl rfl rfl (by show Q (.bl (decide (V.int i = V.int j))); rw [dec_int]; exact q)
theorem rvr_neI {i j : Int} (q : Q (.bl (!decide (i = j)))) : RvR K rNe (.int i) (.int j) Q := rvr_ne rfl rfl rfl (by show Q (.bl (!decide (V.int i = V.int j))); rw [dec_int]; exact q)
theorem rvr_eqS {i j : Str} (q : Q (.bl (decide (i = j)))) : RvR K rEq (.str i) (.str j) Q := rvr_eq rfl rfl rfl (by show Q (.bl (decide (V.str i = V.str j))); rw [dec_str]; exact q)
theorem rvr_neS {i j : Str} (q : Q (.bl (!decide (i = j)))) : RvR K rNe (.str i) (.str j) Q := rvr_ne rfl rfl rfl (by show Q (.bl (!decide (V.str i = V.str j))); rw [dec_str]; exact q)
theorem rvr_eqB {i j : Bool} (q : Q (.bl (decide (i = j)))) : RvR K rEq (.bl i) (.bl j) Q := rvr_eq rfl rfl rfl (by show Q (.bl (decide (V.bl i = V.bl j))); rw [dec_bl]; exact q)
/-! ### is None, is True -/
def isNon : D → Bool
  | .non => true
  | _ => false
theorem is_non_iff {H : Hp} {v : V} {d : D} (h : Is K H v d) : decide (v = .non) = isNon d := by
  cases h <;> first | rfl | exact decide_eq_false (fun z => by cases z)
def rIsN0 : R2 := fun x y H Q => y = .non ∧ Q (.bl (decide (x = .non))) H
def rNotN0 : R2 := fun x y H Q => y = .non ∧ Q (.bl (!decide (x = .non))) H
theorem op_isN0 {X : Cx} : OpR X (compareOp .Is) rIsN0 := op_isN
theorem op_notN0 {X : Cx} : OpR X (compareOp .IsNot) rNotN0 := op_notN
theorem rvr_isN {x : D} (q : Q (.bl (isNon x))) : RvR K rIsN0 x .non Q := fun O H v u live hv hu Qv k =>
  ⟨NB.is_non hu, by rw [is_non_iff hv]; exact k _ _ H (Same.refl _) (.bl _) q⟩
theorem rvr_notN {x : D} (q : Q (.bl (!isNon x))) : RvR K rNotN0 x .non Q := fun O H v u live hv hu Qv k =>
  ⟨NB.is_non hu, by rw [is_non_iff hv]; exact k _ _ H (Same.refl _) (.bl _) q⟩
def rIsB0 : R2 := fun x y H Q => ∃ a b, x = .bl a ∧ y = .bl b ∧ Q (.bl (decide (a = b))) H
def rNotB0 : R2 := fun x y H Q => ∃ a b, x = .bl a ∧ y = .bl b ∧ Q (.bl (!decide (a = b))) H
theorem op_isB0 {X : Cx} : OpR X (compareOp .Is) rIsB0 := op_is_bl
theorem op_notB0 {X : Cx} : OpR X (compareOp .IsNot) rNotB0 := op_isnot_bl
theorem rvr_isB {a b : Bool} (q : Q (.bl (decide (a = b)))) : RvR K rIsB0 (.bl a) (.bl b) Q := fun O H v u live hv hu Qv k => ⟨a, b, is_bl hv, is_bl hu, k _ _ H (Same.refl _) (.bl _) q⟩
theorem rvr_notB {a b : Bool} (q : Q (.bl (!decide (a = b)))) : RvR K rNotB0 (.bl a) (.bl b) Q := fun O H v u live hv hu Qv k => ⟨a, b, is_bl hv, is_bl hu, k _ _ H (Same.refl _) (.bl _) q⟩
/-! ### in a flat list or tuple -/
def inD (x : D) (ys : List D) : Bool := inV (dV x) (ys.map dV)
/-- flat, no type -/
def plainD : D → Bool
  | .non => true
  | .bl _ => true
  | .int _ => true
  | .str _ => true
  | _ => false
theorem plain_flat {d : D} (h : plainD d = true) : flatD d = true := by cases d <;> first | rfl | cases h
theorem plain_flatV {d : D} (h : plainD d = true) : flatV (dV d) = true := by cases d <;> first | rfl | cases h
theorem plain_all {ds : List D} (h : ds.all plainD = true) : ds.all flatD = true := by
  rw [List.all_eq_true] at h ⊢
  exact fun d m => plain_flat (h d m)
theorem plain_allV {ds : List D} (h : ds.all plainD = true) : (ds.map dV).all flatV = true := by
  rw [List.all_eq_true] at h ⊢
  intro v m
  obtain ⟨d, hd, rfl⟩ := List.mem_map.mp m
  exact plain_flatV (h d hd)
theorem rvr_in {neg : Bool} {x y : D} {ys : List D} (fx : plainD x = true) (hy : y = .lst ys ∨ y = .tup ys) (fy : ys.all plainD = true) (q : Q (.bl (if neg then !inD x ys else inD x ys))) : RvR K (rIn K neg) x y Q := fun O H v u live hv hu Qv k => by
  rw [is_dV hv (plain_flat fx)]
  rcases hy with rfl | rfl
  · obtain ⟨a, vs, rfl, hs, is⟩ := is_lst hu
    have e := iss_dV is (plain_all fy)
    subst e
    exact ⟨a, _, rfl, .inl (sqL_hid hs), plain_flatV fx, plain_allV fy, k _ _ H (Same.refl _) (.bl _) q⟩
  · obtain ⟨a, vs, rfl, hs, is⟩ := is_tup hu
    have e := iss_dV is (plain_all fy)
    subst e
    exact ⟨a, _, rfl, .inr (sqT_hid hs), plain_flatV fx, plain_allV fy, k _ _ H (Same.refl _) (.bl _) q⟩
/-! ### texts -/
def rAddS : R2 := fun x y H Q => ∃ i j, x = .str i ∧ y = .str j ∧ i.length + j.length ≤ sizeLine ∧ Q (.str (i ++ j)) H
theorem op_addS {X : Cx} : OpR X (binaryOp .Add) rAddS := op_add_str
theorem rvr_addS {i j : Str} (z : i.length + j.length ≤ sizeLine) (q : Q (.str (i ++ j))) : RvR K rAddS (.str i) (.str j) Q := fun O H v u live hv hu Qv k => ⟨i, j, is_str hv, is_str hu, z, k _ _ H (Same.refl _) (.str _) q⟩
/-- one sign in a text -/
def rInC : R2 := fun x y H Q => ∃ (c : Nat) (z : Str), x = .str ⟨#[c]⟩ ∧ y = .str z ∧ Q (.bl (decide (c ∈ z.cps.toList))) H
theorem op_inC {X : Cx} : OpR X (compareOp .In) rInC := op_in_sign
theorem rvr_inC {c : Nat} {z : Str} (q : Q (.bl (decide (c ∈ z.cps.toList)))) : RvR K rInC (.str ⟨#[c]⟩) (.str z) Q := fun O H v u live hv hu Qv k => ⟨c, z, is_str hv, is_str hu, k _ _ H (Same.refl _) (.bl _) q⟩
/-! ### items -/
theorem rvr_ixL {ds : List D} {i : Int} {d : D} (h : atI ds i = some d) (q : Q d) : RvR K (rIxL K) (.lst ds) (.int i) Q := fun O H v u live hv hu Qv k => by
  obtain ⟨a, vs, rfl, hs, is⟩ := is_lst hv
  have : ∃ w, atI vs i = some w ∧ Is K (hid O H) w d := by
    unfold atI at h ⊢
    rw [is.length]
    cases e : ixN ds.length i with
    | none => rw [e] at h; cases h
    | some j =>
      rw [e] at h
      exact is.get h
  obtain ⟨w, hw, iw⟩ := this
  exact ⟨a, vs, i, w, rfl, is_int hu, sqL_hid hs, hw, k _ _ H (Same.refl _) iw q⟩
theorem rvr_ixT {ds : List D} {i : Int} {d : D} (h : atI ds i = some d) (q : Q d) : RvR K (rIxT K) (.tup ds) (.int i) Q := fun O H v u live hv hu Qv k => by
  obtain ⟨a, vs, rfl, hs, is⟩ := is_tup hv
  have : ∃ w, atI vs i = some w ∧ Is K (hid O H) w d := by
    unfold atI at h ⊢
    rw [is.length]
    cases e : ixN ds.length i with
    | none => rw [e] at h; cases h
    | some j =>
      rw [e] at h
      exact is.get h
  obtain ⟨w, hw, iw⟩ := this
  exact ⟨a, vs, i, w, rfl, is_int hu, sqT_hid hs, hw, k _ _ H (Same.refl _) iw q⟩
theorem rvr_ixS {z : Str} {i : Int} {c : Nat} (hz : z.length ≤ sizeLine) (h : atI z.cps.toList i = some c) (q : Q (.str ⟨#[c]⟩)) : RvR K rIxS (.str z) (.int i) Q := fun O H v u live hv hu Qv k =>
  ⟨z, i, c, is_str hv, is_int hu, hz, h, k _ _ H (Same.refl _) (.str _) q⟩
/-- any of the three -/
theorem rvr_ixq_l {ds : List D} {i : Int} {d : D} (h : atI ds i = some d) (q : Q d) : RvR K (rIx K) (.lst ds) (.int i) Q := fun O H v u live hv hu Qv k => .inl (rvr_ixL h q O H v u live hv hu Qv k)
theorem rvr_ixq_t {ds : List D} {i : Int} {d : D} (h : atI ds i = some d) (q : Q d) : RvR K (rIx K) (.tup ds) (.int i) Q := fun O H v u live hv hu Qv k => .inr (.inl (rvr_ixT h q O H v u live hv hu Qv k))
theorem rvr_ixq_s {z : Str} {i : Int} {c : Nat} (hz : z.length ≤ sizeLine) (h : atI z.cps.toList i = some c) (q : Q (.str ⟨#[c]⟩)) : RvR K (rIx K) (.str z) (.int i) Q := fun O H v u live hv hu Qv k => .inr (.inr (rvr_ixS hz h q O H v u live hv hu Qv k))
theorem atI_ofNat {α : Type} {xs : List α} {j : Nat} {x : α} (h : xs[j]? = some x) : atI xs (j : Int) = some x := by
  have hj : j < xs.length := by
    by_cases q : j < xs.length
    · exact q
    · rw [List.getElem?_eq_none (by simpa using q)] at h; cases h
  unfold atI ixN
  rw [if_pos (by omega), if_pos (by omega)]
  simpa using h
theorem atI_of {α : Type} {xs : List α} {i : Int} {j : Nat} {x : α} (e : i = (j : Int)) (h : xs[j]? = some x) : atI xs i = some x := by
  rw [e]; exact atI_ofNat h
/-! ### slices -/
theorem evo_none {S : Sys} {ρ : DEnv} {Qo : Option Int → Prop} (q : Qo none) : EvO S tNoPart ρ Qo := fun O σ H I Qv k => k none H (Le.refl _ _) I.t q
theorem evo_some {S : Sys} {ρ : DEnv} {te : TE} {Qo : Option Int → Prop} (h : Ev S te ρ fun d => ∃ i, d = .int i ∧ Qo (some i)) : EvO S (tPart te) ρ Qo := fun O σ H I Qv k => by
  refine h O σ H I _ fun d v H1 l1 t1 i1 ⟨i, e, q⟩ => ?_
  subst e
  exact ⟨i, is_int i1, k _ H1 l1 t1 q⟩
def RvS (K : PySem.W.Frag) (r : V → Option Int → Option Int → Hp → VK → Prop) (x : D) (lo hi : Option Int) (Q : D → Prop) : Prop :=
  ∀ O H (v : V), (∀ a ∈ O, H a ≠ none) → Is K (hid O H) v x → ∀ Qv : VK, (∀ d w H', Same H H' → Is K (hid O H') w d → Q d → Qv w H') → r v lo hi H Qv
theorem ev_sl {S : Sys} {ρ : DEnv} {te : TE} {tl th : TO} {r : V → Option Int → Option Int → Hp → VK → Prop} (h : Ev S te ρ fun x => EvO S tl ρ fun lo => EvO S th ρ fun hi => RvS S.K r x lo hi Q) : Ev S (tSl r te tl th) ρ Q := fun O σ H I Qv k => by
  refine h O σ H I _ fun x v H1 l1 t1 i1 h1 => ?_
  refine h1 O σ H1 (I.le l1 t1) _ fun lo H2 l2 t2 h2 => ?_
  refine h2 O σ H2 (I.le (l1.trans l2) t2) _ fun hi H3 l3 t3 h3 => ?_
  have l := (l1.trans l2).trans l3
  refine h3 O H3 v (I.le l t3).live (i1.ex (hid_le (l2.trans l3) I.sub)) _ fun d w H4 s4 i4 c => ?_
  exact k d w H4 (l.trans (Le.same s4)) (S.same _ _ s4 t3) i4 c
theorem rvs_str {z : Str} {lo hi : Option Int} (hz : z.length ≤ sizeLine) (q : Q (.str (cutS z lo hi))) : RvS K rSlS (.str z) lo hi Q := fun O H v live hv Qv k => ⟨z, is_str hv, hz, k _ _ H (Same.refl _) (.str _) q⟩
def cutD (ds : List D) (lo hi : Option Int) : List D := (ds.drop (HT.sIx ds.length 0 lo)).take (HT.sIx ds.length ds.length hi - HT.sIx ds.length 0 lo)
theorem iss_cut {H : Hp} {vs : List V} {ds : List D} (h : Iss K H vs ds) (lo hi : Option Int) : Iss K H (cutV vs lo hi) (cutD ds lo hi) := by
  unfold cutV cutD
  rw [h.length]
  exact (h.drop _).take _
theorem rvs_lst {ds : List D} {lo hi : Option Int} (q : Q (.lst (cutD ds lo hi))) : RvS K (rSlL K) (.lst ds) lo hi Q := fun O H v live hv Qv k => by
  obtain ⟨a, vs, rfl, hs, is⟩ := is_lst hv
  exact ⟨a, vs, rfl, sqL_hid hs, fun p hp => k _ _ _ (Same.upd hp) (is_new_lst live hp (iss_cut is lo hi)) q⟩
/-! ### lists -/
theorem rvr_cat {xs ys : List D} (z : xs.length + ys.length ≤ sizeLine) (q : Q (.lst (xs ++ ys))) : RvR K rCat (.lst xs) (.lst ys) Q := fun O H v u live hv hu Qv k => by
  obtain ⟨a, vs, rfl, hs, is⟩ := is_lst hv
  obtain ⟨b, us, rfl, hs2, is2⟩ := is_lst hu
  exact ⟨a, b, vs, us, rfl, rfl, (hid_some hs).2, (hid_some hs2).2, by rw [is.length, is2.length]; exact z, fun p hp => k _ _ _ (Same.upd hp) (is_new_lst live hp (is.append is2)) q⟩
theorem rvr_rep {xs : List D} {n : Int} (h1 : -(2 ^ 63) ≤ n) (h2 : n < 2 ^ 63) (z : xs.length * n.toNat ≤ sizeLine) (q : Q (.lst (List.replicate n.toNat xs).flatten)) : RvR K rRep (.lst xs) (.int n) Q := fun O H v u live hv hu Qv k => by
  obtain ⟨a, vs, rfl, hs, is⟩ := is_lst hv
  exact ⟨a, n, vs, rfl, is_int hu, (hid_some hs).2, h1, h2, by rw [is.length]; exact z, fun p hp => k _ _ _ (Same.upd hp) (is_new_lst live hp (is.rep _)) q⟩
/-! ### built-ins -/
def rLenQ (K : PySem.W.Frag) : List V → Hp → VK → Prop := fun xs H Q => ∃ p ys, xs = [.ref p] ∧ (SqL K H p ys ∨ SqT K H p ys) ∧ Q (.int ys.length) H
def rLenS : List V → Hp → VK → Prop := fun xs H Q => ∃ z, xs = [.str z] ∧ z.length ≤ sizeLine ∧ Q (.int z.length) H
def rLenA (K : PySem.W.Frag) : List V → Hp → VK → Prop := fun xs H Q => rLenQ K xs H Q ∨ rLenS xs H Q
theorem cr_len {X : Cx} : CallR X (.builtin "len") (rLenA X.K) := CallR.or call_len_seq call_len_str
theorem iss1 {H : Hp} {vs : List V} {d : D} (h : Iss K H vs [d]) : ∃ v, vs = [v] ∧ Is K H v d := by
  obtain ⟨v, ws, rfl, i, j⟩ := iss_cons h
  rw [iss_nil j]
  exact ⟨v, rfl, i⟩
theorem iss2 {H : Hp} {vs : List V} {d e : D} (h : Iss K H vs [d, e]) : ∃ v u, vs = [v, u] ∧ Is K H v d ∧ Is K H u e := by
  obtain ⟨v, ws, rfl, i, j⟩ := iss_cons h
  obtain ⟨u, rfl, k⟩ := iss1 j
  exact ⟨v, u, rfl, i, k⟩
theorem rvc_lenL {ds : List D} (q : Q (.int ds.length)) : RvC K (rLenA K) [.lst ds] Q := fun O H vs live hi Qv k => by
  obtain ⟨v, rfl, i⟩ := iss1 hi
  obtain ⟨a, us, rfl, hs, is⟩ := is_lst i
  exact .inl ⟨a, us, rfl, .inl (sqL_hid hs), by rw [is.length]; exact k _ _ H (Same.refl _) (.int _) q⟩
theorem rvc_lenT {ds : List D} (q : Q (.int ds.length)) : RvC K (rLenA K) [.tup ds] Q := fun O H vs live hi Qv k => by
  obtain ⟨v, rfl, i⟩ := iss1 hi
  obtain ⟨a, us, rfl, hs, is⟩ := is_tup i
  exact .inl ⟨a, us, rfl, .inr (sqT_hid hs), by rw [is.length]; exact k _ _ H (Same.refl _) (.int _) q⟩
theorem rvc_lenS {z : Str} (hz : z.length ≤ sizeLine) (q : Q (.int z.length)) : RvC K (rLenA K) [.str z] Q := fun O H vs live hi Qv k => by
  obtain ⟨v, rfl, i⟩ := iss1 hi
  exact .inr ⟨z, by rw [is_str i], hz, k _ _ H (Same.refl _) (.int _) q⟩
def rInt1 : List V → Hp → VK → Prop := fun xs H Q => (∃ i, xs = [.int i] ∧ Q (.int i) H) ∨ ∃ k, xs = [.bl k] ∧ Q (.int (if k then 1 else 0)) H
theorem cr_int {X : Cx} : CallR X (.type "int") rInt1 := call_int1
theorem rvc_intI {i : Int} (q : Q (.int i)) : RvC K rInt1 [.int i] Q := fun O H vs live hi Qv k => by
  obtain ⟨v, rfl, h⟩ := iss1 hi
  exact .inl ⟨i, by rw [is_int h], k _ _ H (Same.refl _) (.int _) q⟩
theorem rvc_intB {b : Bool} (q : Q (.int (if b then 1 else 0))) : RvC K rInt1 [.bl b] Q := fun O H vs live hi Qv k => by
  obtain ⟨v, rfl, h⟩ := iss1 hi
  exact .inr ⟨b, by rw [is_bl h], k _ _ H (Same.refl _) (.int _) q⟩
theorem iss_bls {H : Hp} : ∀ {vs : List V} {bs : List Bool}, Iss K H vs (bs.map D.bl) → vs = bs.map V.bl
  | _, [], h => iss_nil h
  | _, b :: bs, h => by
    obtain ⟨v, ws, rfl, i, j⟩ := iss_cons h
    rw [is_bl i, iss_bls j, List.map_cons]
theorem iss_strs {H : Hp} : ∀ {vs : List V} {bs : List Str}, Iss K H vs (bs.map D.str) → vs = bs.map V.str
  | _, [], h => iss_nil h
  | _, b :: bs, h => by
    obtain ⟨v, ws, rfl, i, j⟩ := iss_cons h
    rw [is_str i, iss_strs j, List.map_cons]
theorem iss_ints {H : Hp} : ∀ {vs : List V} {bs : List Int}, Iss K H vs (bs.map D.int) → vs = bs.map V.int
  | _, [], h => iss_nil h
  | _, b :: bs, h => by
    obtain ⟨v, ws, rfl, i, j⟩ := iss_cons h
    rw [is_int i, iss_ints j, List.map_cons]
theorem rvc_all {bs : List Bool} (q : Q (.bl (bs.all id))) : RvC K (rAll K) [.lst (bs.map .bl)] Q := fun O H vs live hi Qv k => by
  obtain ⟨v, rfl, h⟩ := iss1 hi
  obtain ⟨a, us, rfl, hs, is⟩ := is_lst h
  rw [iss_bls is] at hs
  exact ⟨a, bs, rfl, sqL_hid hs, k _ _ H (Same.refl _) (.bl _) q⟩
theorem rvc_any {bs : List Bool} (q : Q (.bl (bs.any id))) : RvC K (rAny K) [.lst (bs.map .bl)] Q := fun O H vs live hi Qv k => by
  obtain ⟨v, rfl, h⟩ := iss1 hi
  obtain ⟨a, us, rfl, hs, is⟩ := is_lst h
  rw [iss_bls is] at hs
  exact ⟨a, bs, rfl, sqL_hid hs, k _ _ H (Same.refl _) (.bl _) q⟩
def rListQ (K : PySem.W.Frag) : List V → Hp → VK → Prop := fun xs H Q => ∃ p ys, xs = [.ref p] ∧ (SqL K H p ys ∨ SqT K H p ys) ∧ ∀ l, H l = none → Q (.ref l) (upd H l (.lst ys))
theorem cr_list {X : Cx} : CallR X (.type "list") (rListQ X.K) := call_list_of
theorem rvc_list {x : D} {ds : List D} (hx : x = .lst ds ∨ x = .tup ds) (q : Q (.lst ds)) : RvC K (rListQ K) [x] Q := fun O H vs live hi Qv k => by
  obtain ⟨v, rfl, h⟩ := iss1 hi
  rcases hx with rfl | rfl
  · obtain ⟨a, us, rfl, hs, is⟩ := is_lst h
    exact ⟨a, us, rfl, .inl (sqL_hid hs), fun p hp => k _ _ _ (Same.upd hp) (is_new_lst live hp is) q⟩
  · obtain ⟨a, us, rfl, hs, is⟩ := is_tup h
    exact ⟨a, us, rfl, .inr (sqT_hid hs), fun p hp => k _ _ _ (Same.upd hp) (is_new_lst live hp is) q⟩
def rTupQ (K : PySem.W.Frag) : List V → Hp → VK → Prop := fun xs H Q => ∃ p ys, xs = [.ref p] ∧ ((SqL K H p ys ∧ ∀ l, H l = none → Q (.ref l) (upd H l (.tup ys))) ∨ (SqT K H p ys ∧ Q (.ref p) H))
theorem cr_tup {X : Cx} : CallR X (.type "tuple") (rTupQ X.K) := call_tuple_of
theorem rvc_tupL {ds : List D} (q : Q (.tup ds)) : RvC K (rTupQ K) [.lst ds] Q := fun O H vs live hi Qv k => by
  obtain ⟨v, rfl, h⟩ := iss1 hi
  obtain ⟨a, us, rfl, hs, is⟩ := is_lst h
  exact ⟨a, us, rfl, .inl ⟨sqL_hid hs, fun p hp => k _ _ _ (Same.upd hp) (is_new_tup live hp is) q⟩⟩
theorem rvc_tupT {ds : List D} (q : Q (.tup ds)) : RvC K (rTupQ K) [.tup ds] Q := fun O H vs live hi Qv k => by
  obtain ⟨v, rfl, h⟩ := iss1 hi
  obtain ⟨a, us, rfl, hs, is⟩ := is_tupX h
  exact ⟨a, us, rfl, .inr ⟨.inl (.inl (hid_some hs).2), k _ _ H (Same.refl _) (.tup hs is) q⟩⟩
/-! ### isinstance -/
def tyD : D → String
  | .non => "NoneType"
  | .bl _ => "bool"
  | .int _ => "int"
  | .str _ => "str"
  | .tup _ => "tuple"
  | .ktup _ => "tuple"
  | .lst _ => "list"
  | .dK _ => "dict"
  | .lF _ => "list"
  | _ => "?"
/-- what isinstance can tell without the classes of the text -/
def basic : D → Bool
  | .ty _ => false
  | .loc _ => false
  | .dT _ => false
  | .dF _ => false
  | .obj _ _ => false
  | _ => true
theorem tyX_of {O : List Addr} {H : Hp} {v : V} {d : D} (h : Is K (hid O H) v d) (b : basic d = true) : TyX K H v (.type (tyD d)) := by
  cases h with
  | non => exact .base .non
  | bl c => exact .base (.bl c)
  | int i => exact .base (.int i)
  | str x => exact .base (.str x)
  | ty n => cases b
  | loc a => cases b
  | tup hs _ => exact .base (.tup (hid_some hs).2)
  | ktup hs _ =>
    rcases hs with (h | ⟨o, h⟩) | ⟨o, its, n, h1, h2, _⟩
    · cases h
    · cases h
    · exact .kTuple h1 h2
  | lst hs _ => exact .base (.lst (hid_some hs).2)
  | dK hs _ _ =>
    rcases hs with h | ⟨o, h⟩
    · exact .base (.dK (hid_some h).2)
    · exact .fDict (hid_some h).2
  | dF hs _ _ => cases b
  | dT hs _ _ => cases b
  | lF hs _ => exact .base (.frz (hid_some hs).2)
  | obj _ _ _ => cases b
theorem rvc_isi {d : D} {n : String} {r : Bool} (b : basic d = true) (e : kitB (tyD d) n = some r) (q : Q (.bl r)) : RvC K (rIsi K) [d, .ty n] Q := fun O H vs live hi Qv k => by
  obtain ⟨v, u, rfl, h1, h2⟩ := iss2 hi
  obtain rfl := is_ty h2
  exact ⟨v, .ty n, .type (tyD d), .type n, r, rfl, .ty n, tyX_of h1 b, kit_ty e, k _ _ H (Same.refl _) (.bl _) q⟩
theorem kit2 {t n m : String} {r1 r2 : Bool} (e1 : kitB t n = some r1) (e2 : kitB t m = some r2) : PySem.W.kitAny K (.type t) [.type n, .type m] = some (r1 || r2) := by
  unfold PySem.W.kitAny
  rw [kit_ty e1]
  cases r1 with
  | true => rfl
  | false =>
    show PySem.W.kitAny K (.type t) [.type m] = some r2
    unfold PySem.W.kitAny
    rw [kit_ty e2]
    cases r2 <;> rfl
theorem ev_isi2 {S : Sys} {ρ : DEnv} {te : TE} {n m : String} (h : Ev S te ρ fun d => ∃ r1 r2, basic d = true ∧ kitB (tyD d) n = some r1 ∧ kitB (tyD d) m = some r2 ∧ Q (.bl (r1 || r2))) :
    Ev S (tCB (rIsiT S.K) (tCons te (tCons (tTup (tCons (tC (.ty n)) (tCons (tC (.ty m)) tNil))) tNil))) ρ Q := fun O σ H I Qv k => by
  refine h O σ H I _ fun d v H1 l1 t1 i1 ⟨r1, r2, b, e1, e2, q⟩ => ?_
  refine ⟨by rw [sizeLine_eq]; exact (show 2 ≤ 16777216 by decide), fun p hp => ?_⟩
  refine ⟨v, p, [.ty n, .ty m], .type (tyD d), [.type n, .type m], r1 || r2, rfl, upd_same, .cons (.ty n) (.cons (.ty m) .nil), ?_, kit2 e1 e2, ?_⟩
  · exact tyX_of (O := O) (i1.ex fun a o e => by
      obtain ⟨x, e⟩ := hid_some e
      rw [hid_out x, upd_ne (ne_of_none e hp)]
      exact e) b
  · exact k _ _ _ (l1.trans (Le.same (Same.upd hp))) (S.same _ _ (Same.upd hp) t1) (.bl _) q
/-! ### methods -/
def RvM (K : PySem.W.Frag) (r : V → List V → Hp → VK → Prop) (x : D) (xs : List D) (Q : D → Prop) : Prop :=
  ∀ O H (v : V) (vs : List V), (∀ a ∈ O, H a ≠ none) → Is K (hid O H) v x → Iss K (hid O H) vs xs → ∀ Qv : VK, (∀ d w H', Same H H' → Is K (hid O H') w d → Q d → Qv w H') → r v vs H Qv
theorem ev_m0 {S : Sys} {ρ : DEnv} {r : V → List V → Hp → VK → Prop} {to : TE} (h : Ev S to ρ fun x => ∃ z, x = .str z ∧ RvM S.K r (.str z) [] Q) : Ev S (tM0 r to) ρ Q := fun O σ H I Qv k => by
  refine h O σ H I _ fun x v H1 l1 t1 i1 ⟨z, e, h1⟩ => ?_
  subst e
  refine ⟨⟨z, is_str i1⟩, ?_⟩
  refine h1 O H1 v [] (I.le l1 t1).live i1 .nil _ fun d w H3 s3 i3 c => ?_
  exact k d w H3 (l1.trans (Le.same s3)) (S.same _ _ s3 t1) i3 c
theorem ev_m1 {S : Sys} {ρ : DEnv} {r : V → List V → Hp → VK → Prop} {to te : TE} (h : Ev S to ρ fun x => ∃ z, x = .str z ∧ Ev S te ρ fun y => RvM S.K r (.str z) [y] Q) : Ev S (tM1 r to te) ρ Q := fun O σ H I Qv k => by
  refine h O σ H I _ fun x v H1 l1 t1 i1 ⟨z, e, h1⟩ => ?_
  subst e
  refine ⟨⟨z, is_str i1⟩, ?_⟩
  refine h1 O σ H1 (I.le l1 t1) _ fun y u H2 l2 t2 i2 h2 => ?_
  have I2 := I.le (l1.trans l2) t2
  refine h2 O H2 v [u] I2.live (i1.ex (hid_le l2 I.sub)) (.cons i2 .nil) _ fun d w H3 s3 i3 c => ?_
  exact k d w H3 ((l1.trans l2).trans (Le.same s3)) (S.same _ _ s3 t2) i3 c
def rJoinS (K : PySem.W.Frag) : V → List V → Hp → VK → Prop := fun x xs H Q => ∃ a p, ∃ ys : List Str, x = .str a ∧ xs = [.ref p] ∧ (SqL K H p (ys.map V.str) ∨ SqT K H p (ys.map V.str)) ∧
    (ys.map (·.length)).sum + ys.length * a.length ≤ 16777216 ∧ Q (.str (Txt.join a ys)) H
theorem mt_joinS {X : Cx} : MtR X "str.join" (rJoinS X.K) := mt_join
theorem rvm_join {a : Str} {ys : List Str} (z : (ys.map (·.length)).sum + ys.length * a.length ≤ 16777216) (q : Q (.str (Str.join a ys))) : RvM K (rJoinS K) (.str a) [.lst (ys.map .str)] Q := fun O H v vs live hv hvs Qv k => by
  obtain ⟨u, rfl, h⟩ := iss1 hvs
  obtain ⟨p, us, rfl, hs, is⟩ := is_lst h
  rw [iss_strs is] at hs
  exact ⟨a, p, ys, is_str hv, rfl, .inl (sqL_hid hs), z, by rw [show Txt.join a ys = Str.join a ys from TL.join_eq a ys]; exact k _ _ H (Same.refl _) (.str _) q⟩
end
end NB

end PART_NB4
section PART_NB5
set_option Elab.async false
set_option linter.all false
set_option maxRecDepth 100000
set_option maxHeartbeats 4000000
set_option autoImplicit false
/-! NB5: operators that serve several kinds; defs by their promises. -/
namespace NB
open PySem PySem.Spec PyProof.Rows L2

section
variable {K : PySem.W.Frag} {Q : D → Prop} {X : Cx}
/-! ### + -/
def rAddX (K : PySem.W.Frag) : R2 := fun x y H Q => rI0 (fun i j => .int (i + j)) x y H Q ∨ rAddS x y H Q ∨ rCat x y H Q ∨ rCatA K x y H Q
theorem op_addX : OpR X (binaryOp .Add) (rAddX X.K) := OpR.or op_add (OpR.or op_addS (OpR.or op_cat op_catA))
theorem rvr_addX_i {i j : Int} (q : Q (.int (i + j))) : RvR K (rAddX K) (.int i) (.int j) Q := fun O H v u live hv hu Qv k => .inl (rvr_ii (g := fun i j => i + j) q O H v u live hv hu Qv k)
theorem rvr_addX_s {i j : Str} (z : i.length + j.length ≤ sizeLine) (q : Q (.str (i ++ j))) : RvR K (rAddX K) (.str i) (.str j) Q := fun O H v u live hv hu Qv k => .inr (.inl (rvr_addS z q O H v u live hv hu Qv k))
theorem rvr_addX_l {xs ys : List D} (z : xs.length + ys.length ≤ sizeLine) (q : Q (.lst (xs ++ ys))) : RvR K (rAddX K) (.lst xs) (.lst ys) Q := fun O H v u live hv hu Qv k => .inr (.inr (.inl (rvr_cat z q O H v u live hv hu Qv k)))
/-! ### * -/
def rMulX : R2 := fun x y H Q => rI CMul (fun i j => .int (i * j)) x y H Q ∨ rRep x y H Q
theorem op_mulX : OpR X (binaryOp .Mult) rMulX := OpR.or op_mul op_rep
theorem rvr_mulX_i {i j : Int} (c : CMul i j) (q : Q (.int (i * j))) : RvR K rMulX (.int i) (.int j) Q := fun O H v u live hv hu Qv k => .inl (rvr_iic (g := fun i j => i * j) c q O H v u live hv hu Qv k)
theorem rvr_mulX_l {xs : List D} {n : Int} (h1 : -(2 ^ 63) ≤ n) (h2 : n < 2 ^ 63) (z : xs.length * n.toNat ≤ sizeLine) (q : Q (.lst (List.replicate n.toNat xs).flatten)) : RvR K rMulX (.lst xs) (.int n) Q := fun O H v u live hv hu Qv k => .inr (rvr_rep h1 h2 z q O H v u live hv hu Qv k)
/-! ### in -/
def rInX (K : PySem.W.Frag) (neg : Bool) : R2 := fun x y H Q => rIn K neg x y H Q ∨ (∃ (c : Nat) (z : Str), x = .str ⟨#[c]⟩ ∧ y = .str z ∧ Q (.bl (if neg then !decide (c ∈ z.cps.toList) else decide (c ∈ z.cps.toList))) H)
theorem op_inX : OpR X (compareOp .In) (rInX X.K false) := OpR.or op_in_seq op_in_sign
theorem op_notInX : OpR X (compareOp .NotIn) (rInX X.K true) := OpR.or op_notIn_seq op_notIn_sign
theorem rvr_inX_l {neg : Bool} {x : D} {ys : List D} (fx : plainD x = true) (fy : ys.all plainD = true) (q : Q (.bl (if neg then !inD x ys else inD x ys))) : RvR K (rInX K neg) x (.lst ys) Q := fun O H v u live hv hu Qv k => .inl (rvr_in fx (.inl rfl) fy q O H v u live hv hu Qv k)
theorem rvr_inX_t {neg : Bool} {x : D} {ys : List D} (fx : plainD x = true) (fy : ys.all plainD = true) (q : Q (.bl (if neg then !inD x ys else inD x ys))) : RvR K (rInX K neg) x (.tup ys) Q := fun O H v u live hv hu Qv k => .inl (rvr_in fx (.inr rfl) fy q O H v u live hv hu Qv k)
theorem rvr_inX_c {neg : Bool} {c : Nat} {z : Str} (q : Q (.bl (if neg then !decide (c ∈ z.cps.toList) else decide (c ∈ z.cps.toList)))) : RvR K (rInX K neg) (.str ⟨#[c]⟩) (.str z) Q := fun O H v u live hv hu Qv k => .inr ⟨c, z, is_str hv, is_str hu, k _ _ H (Same.refl _) (.bl _) q⟩
/-! ### slices -/
def rSlX2 (K : PySem.W.Frag) : V → Option Int → Option Int → Hp → VK → Prop := fun x lo hi H Q => rSlL K x lo hi H Q ∨ rSlS x lo hi H Q
theorem sl_any : SlR X (rSlX2 X.K) := SlR.or sl_list sl_str
theorem rvs_any_l {ds : List D} {lo hi : Option Int} (q : Q (.lst (cutD ds lo hi))) : RvS K (rSlX2 K) (.lst ds) lo hi Q := fun O H v live hv Qv k => .inl (rvs_lst q O H v live hv Qv k)
theorem rvs_any_s {z : Str} {lo hi : Option Int} (hz : z.length ≤ sizeLine) (q : Q (.str (cutS z lo hi))) : RvS K (rSlX2 K) (.str z) lo hi Q := fun O H v live hv Qv k => .inr (rvs_str hz q O H v live hv Qv k)
theorem iteB {c : Bool} {A B : Prop} (h1 : c = true → A) (h2 : c = false → B) : if c = true then A else B := by
  cases c with
  | true => exact h1 rfl
  | false => exact h2 rfl
theorem iss_of_strs {K : PySem.W.Frag} {H : Hp} : ∀ xs : List Str, Iss K H (xs.map V.str) (xs.map D.str)
  | [] => .nil
  | x :: xs => .cons (.str x) (iss_of_strs xs)
/-! ### zip of two lists or two tuples -/
theorem evi_zipA {S : Sys} {ρ : DEnv} {ta : TA} {Q : List D → Prop} (h : EvA S ta ρ fun ds => ∃ xs ys, (ds = [.lst xs, .lst ys] ∨ ds = [.tup xs, .tup ys]) ∧ Q (zipD xs ys)) : EvI S (RZ.iZipA S.K ta) ρ Q := fun O σ H I R k => by
  refine h O σ H I _ fun ds vs H1 l1 t1 i1 ⟨xs, ys, e, q⟩ => ?_
  rcases e with rfl | rfl
  · obtain ⟨v, ws, rfl, i2, i3⟩ := iss_cons i1
    obtain ⟨v', ws', rfl, i4, i5⟩ := iss_cons i3
    obtain rfl := iss_nil i5
    obtain ⟨a, vs, rfl, hs, is⟩ := is_lst i2
    obtain ⟨b, us, rfl, hs2, is2⟩ := is_lst i4
    refine ⟨a, b, vs, us, rfl, .inl ⟨sqL_hid hs, sqL_hid hs2, k _ (zipD xs ys) H1 l1 t1 ?_ q⟩⟩
    have hl : (zipD xs ys).length = min vs.length us.length := by simp [zipD, is.length, is2.length]
    rw [hl]
    refine (walk_zip (xs := vs) (ys := us) rfl).mono (fun H2 l2 => ⟨sqL_hid (hid_later l2 (fun a h => .inl h) _ _ hs), sqL_hid (hid_later l2 (fun a h => .inl h) _ _ hs2)⟩) fun i H2 v H3 hi l2 y => ?_
    obtain ⟨T, x, y, rfl, hT, rfl, hx, hy⟩ := y
    obtain ⟨d, hd, id⟩ := is.getV hx
    obtain ⟨d', hd', id'⟩ := is2.getV hy
    refine ⟨Same.upd hT, .tup [d, d'], ?_, fun O' new live => is_pair hT live (id.ex (hid_later l2 new)) (id'.ex (hid_later l2 new))⟩
    have hz : (xs.zip ys)[i]? = some (d, d') := List.getElem?_zip_eq_some.mpr (by exact ⟨hd, hd'⟩)
    simp [zipD, hz]
  · obtain ⟨v, ws, rfl, i2, i3⟩ := iss_cons i1
    obtain ⟨v', ws', rfl, i4, i5⟩ := iss_cons i3
    obtain rfl := iss_nil i5
    obtain ⟨a, vs, rfl, hs, is⟩ := is_tup i2
    obtain ⟨b, us, rfl, hs2, is2⟩ := is_tup i4
    refine ⟨a, b, vs, us, rfl, .inr ⟨sqT_hid hs, sqT_hid hs2, k _ (zipD xs ys) H1 l1 t1 ?_ q⟩⟩
    have hl : (zipD xs ys).length = min vs.length us.length := by simp [zipD, is.length, is2.length]
    rw [hl]
    have lat : ∀ {a : Addr} {ws : List V} {H2 : Hp}, Le O H1 H2 → SqT S.K (hid O H1) a ws → SqT S.K H2 a ws := fun l2 hs => sqT_hid (sqT_ex (hid_later l2 (fun a h => .inl h)) hs)
    refine (L2.Walk.mk (J := RZ.ItzT S.K a b) (n := min vs.length us.length) (G := fun H => SqT S.K H a vs ∧ SqT S.K H b us) (Y := YPair (fun i => vs[i]?) (fun i => us[i]?)) ?_ ?_ ?_).mono (fun H2 l2 => ⟨lat l2 hs, lat l2 hs2⟩) fun i H2 v H3 hi l2 y => ?_
    · intro i H hi q
      have h1 : i < vs.length := by omega
      have h2 : i < us.length := by omega
      exact ⟨vs, us, vs[i], us[i], q.1, q.2, by simp [h1], by simp [h2]⟩
    · intro H q
      exact ⟨vs, us, q.1, q.2, by omega⟩
    · intro i H v H' _ q y
      obtain ⟨T, x, z, h1, h2, h3, h4, h5⟩ := y
      exact ⟨T, x, z, h1, h2, h3, h4 vs q.1, h5 us q.2⟩
    obtain ⟨T, x, y, rfl, hT, rfl, hx, hy⟩ := y
    obtain ⟨d, hd, id⟩ := is.getV hx
    obtain ⟨d', hd', id'⟩ := is2.getV hy
    refine ⟨Same.upd hT, .tup [d, d'], ?_, fun O' new live => is_pair hT live (id.ex (hid_later l2 new)) (id'.ex (hid_later l2 new))⟩
    have hz : (xs.zip ys)[i]? = some (d, d') := List.getElem?_zip_eq_some.mpr (by exact ⟨hd, hd'⟩)
    simp [zipD, hz]
/-! ### chains of comparisons -/
theorem ev_chain {S : Sys} {ρ : DEnv} {r r' : R2} {ta tb tc : TE} (h : Ev S ta ρ fun x => Ev S tb ρ fun y => RvR S.K r x y fun z => ∃ b, z = .bl b ∧ if b = true then Ev S tc ρ (fun w => RvR S.K r' y w Q) else Q (.bl false)) : Ev S (tChain r r' ta tb tc) ρ Q := fun O σ H I Qv k => by
  refine h O σ H I _ fun x v H1 l1 t1 i1 h1 => ?_
  refine h1 O σ H1 (I.le l1 t1) _ fun y u H2 l2 t2 i2 h2 => ?_
  have I2 := I.le (l1.trans l2) t2
  refine h2 O H2 v u I2.live (i1.ex (hid_le l2 I.sub)) i2 _ fun d w H3 s3 i3 ⟨b, e, c⟩ => ?_
  subst e
  have t3 := S.same _ _ s3 t2
  have l3 := (l1.trans l2).trans (Le.same s3)
  refine ⟨b, is_bl i3, ?_⟩
  cases b with
  | true =>
    rw [if_pos rfl]
    refine c O σ H3 (I.le l3 t3) _ fun w' v' H4 l4 t4 i4 h4 => ?_
    have I4 := I.le (l3.trans l4) t4
    refine h4 O H4 u v' I4.live ((i2.ex (hid_le (Le.same s3) I.sub)).ex (hid_le l4 I.sub)) i4 _ fun d w H5 s5 i5 c5 => ?_
    exact k d w H5 ((l3.trans l4).trans (Le.same s5)) (S.same _ _ s5 t4) i5 c5
  | false =>
    rw [if_neg Bool.false_ne_true]
    exact k _ _ H3 l3 t3 (.bl false) c
/-! ### items of lists: stores into an owned list come by statements -/
end

/-! ### the rules with the text K told (within a comprehension it can't be guessed) -/
namespace R
section
variable {X : Cx}
theorem op_addX (K : PySem.W.Frag) (h : X.K = K := by rfl) : OpR X (binaryOp .Add) (rAddX K) := h ▸ NB.op_addX
theorem op_inX (K : PySem.W.Frag) (h : X.K = K := by rfl) : OpR X (compareOp .In) (rInX K false) := h ▸ NB.op_inX
theorem op_notInX (K : PySem.W.Frag) (h : X.K = K := by rfl) : OpR X (compareOp .NotIn) (rInX K true) := h ▸ NB.op_notInX
theorem ix_seq (K : PySem.W.Frag) (h : X.K = K := by rfl) : IxR X (rIx K) := h ▸ L2.ix_seq
theorem sl_any (K : PySem.W.Frag) (h : X.K = K := by rfl) : SlR X (rSlX2 K) := h ▸ NB.sl_any
theorem cr_len (K : PySem.W.Frag) (h : X.K = K := by rfl) : CallR X (.builtin "len") (rLenA K) := h ▸ NB.cr_len
theorem cr_all (K : PySem.W.Frag) (h : X.K = K := by rfl) (hc : X.calm = true := by rfl) : CallR X (.builtin "all") (rAll K) := h ▸ L2.cr_all hc
theorem cr_any (K : PySem.W.Frag) (h : X.K = K := by rfl) (hc : X.calm = true := by rfl) : CallR X (.builtin "any") (rAny K) := h ▸ L2.cr_any hc
theorem cr_list (K : PySem.W.Frag) (h : X.K = K := by rfl) : CallR X (.type "list") (rListQ K) := h ▸ NB.cr_list
theorem cr_tup (K : PySem.W.Frag) (h : X.K = K := by rfl) : CallR X (.type "tuple") (rTupQ K) := h ▸ NB.cr_tup
theorem call_isi (K : PySem.W.Frag) (h : X.K = K := by rfl) : CallR X (.builtin "isinstance") (rIsi K) := h ▸ L2.call_isi
theorem call_isiT (K : PySem.W.Frag) (h : X.K = K := by rfl) : CallR X (.builtin "isinstance") (rIsiT K) := h ▸ L2.call_isiT
theorem mt_joinS (K : PySem.W.Frag) (h : X.K = K := by rfl) : MtR X "str.join" (rJoinS K) := h ▸ NB.mt_joinS
theorem pi_list (K : PySem.W.Frag) {tg l : Expr} {tl : TE} (hl : PE X l tl) (h : X.K = K := by rfl) : PI X tg l (iList K tl) := h ▸ L2.pi_list hl
theorem pi_tup (K : PySem.W.Frag) {tg l : Expr} {tl : TE} (hl : PE X l tl) (h : X.K = K := by rfl) : PI X tg l (iTup K tl) := h ▸ L2.pi_tup hl
theorem pi_zipA (K : PySem.W.Frag) {e e2 : Expr} {ta : TA} {p pos tpos : Pos} {elts : List Expr} {kk : Nat} (hg : Gl X "zip") (hm : X.mg "zip" = none) (ha : PA X [e, e2] ta) (h : X.K = K := by rfl) (hs : starEach [e, e2] X.env = (false, eval e X.env) :: starEach [e2] X.env := by rfl) (hpl : (backTo pos (starEach [e2] X.env)).any (·.1) = false := by rfl) :
    PI X (.Tuple elts kk tpos) (.Call (.Name "zip" p) [e, e2] [] pos) (RZ.iZipA K ta) := h ▸ RZ.pi_zipA hg hm ha hs hpl
theorem pi_enum (K : PySem.W.Frag) {e : Expr} {ta : TA} {p pos tpos : Pos} {elts : List Expr} {kk : Nat} (hg : Gl X "enumerate") (hm : X.mg "enumerate" = none) (ha : PA X [e] ta) (h : X.K = K := by rfl) (hs : starEach [e] X.env = [(false, eval e X.env)] := by rfl) :
    PI X (.Tuple elts kk tpos) (.Call (.Name "enumerate" p) [e] [] pos) (iEnum K ta) := h ▸ L2.pi_enum hg hm ha hs
theorem pg_tup (K : PySem.W.Frag) {es : List Expr} {k : Nat} {pos : Pos} {t : TGs} {n : Nat} (ht : PGs X es t) (h : X.K = K := by rfl) (hc : X.calm = true := by rfl) (hn : (assignEach es X.env).length = n := by rfl) (hst : (assignEach es X.env).findIdx? (·.1) = none := by rfl) : PG X (.Tuple es k pos) (gTup K n t) := h ▸ L2.pg_tup hc ht hn hst
theorem pe_fld (K : PySem.W.Frag) {e : Expr} {f : Str} {pos : Pos} {ta : TE} (ha : PE X e ta) (hb : attributeBase e f X.env (eval e X.env) = eval e X.env := by rfl) (h : X.K = K := by rfl) : PE X (.Attribute e f pos) (tFld K ta f) := h ▸ L2.pe_fld ha hb
end
end R

/-! ### comprehensions over what is known of the source -/
section
variable {S : Sys} {ρ : DEnv} {g : TG} {te : TE} {tt : TT} {vs : List Nat} {Q : D → Prop}
theorem All2.mem {α β : Type} {R : α → β → Prop} : ∀ {l : List α} {ys : List β}, All2 R l ys → ∀ y ∈ ys, ∃ a ∈ l, R a y
  | _, _, .nil, _, h => by cases h
  | _, _, .cons h t, y, m => by
    rcases List.mem_cons.mp m with rfl | m
    · exact ⟨_, List.mem_cons_self, h⟩
    · obtain ⟨a, ha, r⟩ := All2.mem t y m
      exact ⟨a, List.mem_cons_of_mem _ ha, r⟩
theorem all2_flat {α : Type} {f : α → List D} : ∀ {l : List α} {yss : List (List D)}, All2 (fun a ys => ys = f a) l yss → yss.flatten = l.flatMap f
  | [], _, h => by cases h; rfl
  | a :: l, _, h => by
    cases h with
    | cons h t => rw [h, List.flatten_cons, all2_flat t, List.flatMap_cons]
theorem all2_single {α : Type} {R : α → D → Prop} : ∀ {l : List α} {yss : List (List D)}, All2 (fun a ys => ∃ y, ys = [y] ∧ R a y) l yss → ∃ ys, yss.flatten = ys ∧ All2 R l ys
  | [], _, h => by cases h; exact ⟨[], rfl, .nil⟩
  | a :: l, _, h => by
    cases h with
    | cons h t =>
      obtain ⟨y, rfl, r⟩ := h
      obtain ⟨ys, e, t⟩ := all2_single t
      exact ⟨y :: ys, by rw [List.flatten_cons, e] <;> rfl, .cons r t⟩
def LcGoal (S : Sys) (ρ : DEnv) (g : TG) (tt : TT) (te : TE) (vs : List Nat) (Q : D → Prop) (xs0 : List D) : Prop := ∃ (α : Type) (xs : List α) (src : α → D), xs0 = xs.map src ∧ ∃ R : α → List D → Prop, (∀ x ∈ xs, EvG S vs g (wipeD ρ vs) (src x) fun ρ1 => EvT S tt ρ1 fun b => if b = true then Ev S te ρ1 (fun y => R x [y]) else R x []) ∧ xs.length ≤ sizeLine ∧ ∀ yss, All2 R xs yss → Q (.lst yss.flatten)
/-- [elt for t in l] -/
theorem lc_map {α : Type} {l : List α} (src : α → D) (f : α → D) (hz : l.length ≤ sizeLine) (he : ∀ a ∈ l, EvG S vs g (wipeD ρ vs) (src a) fun ρ1 => Ev S te ρ1 fun y => y = f a) (q : Q (.lst (l.map f))) : LcGoal S ρ g tYes te vs Q (l.map src) := by
  refine ⟨α, l, src, rfl, fun a ys => ys = [f a], fun a ha O σ H v I i Qs k => ?_, hz, fun yss h => ?_⟩
  · refine he a ha O σ H v I i Qs fun ρ' σ' I' w o q => k ρ' σ' I' w o (evt_yes ?_)
    rw [if_pos rfl]
    exact q.imp fun y e => by rw [e]
  · rw [all2_flat h]
    have : l.flatMap (fun a => [f a]) = l.map f := by
      clear he q h hz
      induction l with
      | nil => rfl
      | cons a l ih => rw [List.flatMap_cons, ih, List.map_cons] <;> rfl
    rw [this]
    exact q
/-- .. the element not told -/
theorem lc_any {α : Type} {l : List α} (src : α → D) (R : α → D → Prop) (hz : l.length ≤ sizeLine) (he : ∀ a ∈ l, EvG S vs g (wipeD ρ vs) (src a) fun ρ1 => Ev S te ρ1 (R a)) (q : ∀ ys, All2 R l ys → Q (.lst ys)) : LcGoal S ρ g tYes te vs Q (l.map src) := by
  refine ⟨α, l, src, rfl, fun a ys => ∃ y, ys = [y] ∧ R a y, fun a ha O σ H v I i Qs k => ?_, hz, fun yss h => ?_⟩
  · refine he a ha O σ H v I i Qs fun ρ' σ' I' w o q => k ρ' σ' I' w o (evt_yes ?_)
    rw [if_pos rfl]
    exact q.imp fun y e => ⟨y, rfl, e⟩
  · obtain ⟨ys, e, t⟩ := all2_single h
    rw [e]
    exact q ys t
/-- [elt for t in l if test] -/
theorem lc_filter {α : Type} {l : List α} (src : α → D) (p : α → Bool) (f : α → D) (hz : l.length ≤ sizeLine) (he : ∀ a ∈ l, EvG S vs g (wipeD ρ vs) (src a) fun ρ1 => EvT S tt ρ1 fun b => b = p a ∧ (b = true → Ev S te ρ1 fun y => y = f a)) (q : Q (.lst ((l.filter p).map f))) : LcGoal S ρ g tt te vs Q (l.map src) := by
  refine ⟨α, l, src, rfl, fun a ys => ys = if p a = true then [f a] else [], fun a ha O σ H v I i Qs k => ?_, hz, fun yss h => ?_⟩
  · refine he a ha O σ H v I i Qs fun ρ' σ' I' w o q => k ρ' σ' I' w o (q.imp fun b ⟨e, h⟩ => ?_)
    cases b with
    | true =>
      rw [if_pos rfl]
      exact (h rfl).imp fun y e2 => by
        show ([y] : List D) = if p a = true then [f a] else []
        rw [← e, if_pos rfl, e2]
    | false =>
      rw [if_neg Bool.false_ne_true]
      show ([] : List D) = if p a = true then [f a] else []
      rw [← e, if_neg Bool.false_ne_true]
  · rw [all2_flat h]
    have : l.flatMap (fun a => if p a = true then [f a] else []) = (l.filter p).map f := by
      clear he q h hz
      induction l with
      | nil => rfl
      | cons a l ih =>
        rw [List.flatMap_cons, ih]
        cases e : p a with
        | true => simp [List.filter_cons, e]
        | false => simp [List.filter_cons, e]
    rw [this]
    exact q
theorem ev_lcG {wi : TI} (h : EvI S wi ρ fun xs => LcGoal S ρ g tt te vs Q xs) : Ev S (tLc wi g tt te vs) ρ Q := ev_lc h
/-- all of tests told -/
theorem rvc_allF {K : PySem.W.Frag} {α : Type} {l : List α} {p : α → Bool} (q : Q (.bl (l.all p))) : RvC K (rAll K) [.lst (l.map fun a => .bl (p a))] Q := by
  have e : (l.map fun a => D.bl (p a)) = (l.map p).map D.bl := by rw [List.map_map] <;> rfl
  rw [e]
  refine rvc_all ?_
  have e2 : (l.map p).all id = l.all p := by rw [List.all_map] <;> rfl
  rw [e2]
  exact q
theorem rvc_anyF {K : PySem.W.Frag} {α : Type} {l : List α} {p : α → Bool} (q : Q (.bl (l.any p))) : RvC K (rAny K) [.lst (l.map fun a => .bl (p a))] Q := by
  have e : (l.map fun a => D.bl (p a)) = (l.map p).map D.bl := by rw [List.map_map] <;> rfl
  rw [e]
  refine rvc_any ?_
  have e2 : (l.map p).any id = l.any p := by rw [List.any_map] <;> rfl
  rw [e2]
  exact q
end

theorem _root_.L2.FunD.lk {K : PySem.W.Frag} {x qual : Str} {params : Arguments} {body : List Stmt} {scope : Scope} {dvs : List V} {kws : List (Str × V)} {f : Addr} {fd : FuncData} (F : FunD K x qual params body scope dvs kws f fd) : ∃ oc od osl, K.lookup f = some ⟨oc, od, .func fd, osl⟩ := by
  obtain ⟨oc, od, dV, kV, doc, pm, an, cdv, ct, osl, _, lk, _⟩ := F.ex
  exact ⟨oc, od, osl, lk⟩
/-! ### a def of the text, by its promise -/
def Has (P : Program) (w : World) (K : PySem.W.Frag) (mg : Str → Option Value) (base : Heap) (x : Str) (k : Nat) (ps : List Str) (sp : Sp) : Prop :=
  ∃ fd, FnOk P w K mg base CX0 k (He.ga K x) fd ps sp ∧ Binds K fd ps [] ∧ mg x = some (.ref (He.ga K x)) ∧ PySem.W.keepIn K (.ref (He.ga K x)) = true ∧ ∃ oc od osl, K.lookup (He.ga K x) = some ⟨oc, od, .func fd, osl⟩
section
variable {X : Cx} {x : Str} {k : Nat} {ps : List Str} {sp : Sp} {E : XK} {e : Expr} {es : List Expr} {p pos : Pos} {t : TA}
theorem pe_has (h : Has X.prog X.w X.K X.mg X.base x k ps sp) {j : Nat} (hr : Room j X.A) (ha : PA X (e :: es) t) (hj : k ≤ j := by first | decide | exact Nat.le_refl _ | omega) (hg : Gl X x := by rfl) (hdb : (x == ("__debug__" : Str)) = false := by decide) (he : starEach (e :: es) X.env = (false, eval e X.env) :: starEach es X.env := by rfl)
    (hpl : (backTo pos (starEach es X.env)).any (·.1) = false := by rfl) : PE X (.Call (.Name x p) (e :: es) [] pos) (tCall sp [] E0 t) := by
  obtain ⟨fd, F, b, g, kp, _⟩ := h
  exact pe_call F (hr.mono hj) hg g kp b .nil pass0 ha hdb he hpl
theorem pe_has0 (h : Has X.prog X.w X.K X.mg X.base x k ps sp) {j : Nat} (hr : Room j X.A) (hj : k ≤ j := by first | decide | exact Nat.le_refl _ | omega) (hg : Gl X x := by rfl) (hdb : (x == ("__debug__" : Str)) = false := by decide) : PE X (.Call (.Name x p) [] [] pos) (tCall sp [] E0 tNil) := by
  obtain ⟨fd, F, b, g, kp, _⟩ := h
  exact pe_call0 F (hr.mono hj) hg g kp b .nil pass0 hdb
/-- a def of the module keeps its promise -/
theorem has_of {P : Program} {w : World} {K : PySem.W.Frag} {mg : Str → Option Value} {base : Heap} {x : Str} {params : Arguments} {body : List Stmt} {scope : Scope} {N ps : List Str} {k : Nat} {sp : Sp}
    (F : ∃ fd, FunD K x x params body scope [] [] (He.ga K x) fd) (g : mg x = some (.ref (He.ga K x))) (S : FnScope N ps scope)
    (hb : ∀ (kV doc pm : Value) (an : Option Addr) (cdv ct : Value) (us : List Value), us.length = ps.length → bindArgs (PySem.W.fnOf x x params body scope .none kV doc pm an cdv ct) ⟨us, []⟩ = pure (ps.zip us))
    (len : ∀ vs H Q E, sp vs H Q E → vs.length = ps.length)
    (hbody : ∀ (f : Addr) (cdv : Value) (A : Around) (outer : List PySem.Env) (s : Shared) (H : Hp) (vs : List V) (Q : VK) (E : XK), Room k (A.deeper (envOfC x scope s.heap.objs.size f cdv)) → sp vs H Q E →
      ∃ t, PSs (cxOf CX0 P w K mg base N x scope f cdv A outer s H E).nox body t ∧ t { nx := fun _ H' => Q .non H', rt := Q } (L2.start N vs) H) : Has P w K mg base x (k + 1) ps sp := by
  obtain ⟨fd, F⟩ := F
  refine ⟨fd, F.ok S len fun cdv A outer s H vs Q E hr h => ?_, F.bindsN hb, g, F.kp, F.lk⟩
  obtain ⟨t, h1, h2⟩ := hbody _ cdv A outer s H vs Q E hr h
  exact ⟨t, h1.nox, h2⟩
/-- .. whose promise is over data -/
theorem has_ofD {P : Program} {w : World} {K : PySem.W.Frag} {mg : Str → Option Value} {base : Heap} {x : Str} {params : Arguments} {body : List Stmt} {scope : Scope} {N ps : List Str} {k : Nat} {Fx : Fn}
    (F : ∃ fd, FunD K x x params body scope [] [] (He.ga K x) fd) (g : mg x = some (.ref (He.ga K x))) (S : FnScope N ps scope)
    (hb : ∀ (kV doc pm : Value) (an : Option Addr) (cdv ct : Value) (us : List Value), us.length = ps.length → bindArgs (PySem.W.fnOf x x params body scope .none kV doc pm an cdv ct) ⟨us, []⟩ = pure (ps.zip us))
    (len : ∀ ds R, Fx.f ds R → ds.length = ps.length)
    (hbody : ∀ (f : Addr) (cdv : Value) (A : Around) (outer : List PySem.Env) (s : Shared) (H : Hp) (E : XK), Room k (A.deeper (envOfC x scope s.heap.objs.size f cdv)) →
      ∃ t, PSs (cxOf CX0 P w K mg base N x scope f cdv A outer s H E).nox body t ∧ ∀ ds R, Fx.f ds R → Run (S0 K) t (startD N ds) ⟨fun _ => R .non, R, fun _ => False, fun _ => False⟩) : Has P w K mg base x (k + 1) ps (spF (S0 K) Fx) :=
  has_of F g S hb (fun vs H Q E ⟨O, ds, _, _, _, i, f⟩ => i.length.trans (len ds _ f)) fun f cdv A outer s H vs Q E hr h => by
    obtain ⟨t, h1, h2⟩ := hbody f cdv A outer s H E hr
    exact ⟨t, h1, body_of h h2⟩
/-- .. over data, one law of change for each place p -/
def spT {ι : Type} (S : ι → Sys) (F : ι → Fn) : Sp := fun vs H Q E => ∃ p, spF (S p) (F p) vs H Q E
theorem has_ofT {ι : Type} {P : Program} {w : World} {K : PySem.W.Frag} {mg : Str → Option Value} {base : Heap} {x : Str} {params : Arguments} {body : List Stmt} {scope : Scope} {N ps : List Str} {k : Nat} {Sx : ι → Sys} {Fx : ι → Fn}
    (F : ∃ fd, FunD K x x params body scope [] [] (He.ga K x) fd) (g : mg x = some (.ref (He.ga K x))) (S : FnScope N ps scope)
    (hb : ∀ (kV doc pm : Value) (an : Option Addr) (cdv ct : Value) (us : List Value), us.length = ps.length → bindArgs (PySem.W.fnOf x x params body scope .none kV doc pm an cdv ct) ⟨us, []⟩ = pure (ps.zip us))
    (len : ∀ p ds R, (Fx p).f ds R → ds.length = ps.length)
    (hbody : ∀ (f : Addr) (cdv : Value) (A : Around) (outer : List PySem.Env) (s : Shared) (H : Hp) (E : XK), Room k (A.deeper (envOfC x scope s.heap.objs.size f cdv)) →
      ∃ t, PSs (cxOf CX0 P w K mg base N x scope f cdv A outer s H E).nox body t ∧ ∀ p ds R, (Fx p).f ds R → Run (Sx p) t (startD N ds) ⟨fun _ => R .non, R, fun _ => False, fun _ => False⟩)
    (hx : ∀ p O H, XOk (Sx p) O H := by exact fun _ _ _ => ⟨fun _ _ _ e => (by cases e), fun _ _ _ => rfl⟩) : Has P w K mg base x (k + 1) ps (spT Sx Fx) :=
  has_of F g S hb (fun vs H Q E ⟨p, O, ds, _, _, _, i, f⟩ => i.length.trans (len p ds _ f)) fun f cdv A outer s H vs Q E hr h => by
    obtain ⟨t, h1, h2⟩ := hbody f cdv A outer s H E hr
    obtain ⟨p, h⟩ := h
    exact ⟨t, h1, body_of h (h2 p) (hx p)⟩
theorem has_never {P : Program} {w : World} {K : PySem.W.Frag} {mg : Str → Option Value} {base : Heap} {params : Arguments} {body : List Stmt} {scope : Scope} {k : Nat}
    (F : ∃ fd, FunD K x x params body scope [] [] (He.ga K x) fd) (g : mg x = some (.ref (He.ga K x)))
    (hb : ∀ (kV doc pm : Value) (an : Option Addr) (cdv ct : Value) (us : List Value), us.length = ps.length → bindArgs (PySem.W.fnOf x x params body scope .none kV doc pm an cdv ct) ⟨us, []⟩ = pure (ps.zip us))
    (no : ∀ vs H Q E, ¬ sp vs H Q E) : Has P w K mg base x k ps sp := by
  obtain ⟨fd, F⟩ := F
  exact ⟨fd, ⟨fun vs H Q E h => (no _ _ _ _ h).elim, fun A outer s H args us vs Q E _ _ _ _ h => (no _ _ _ _ h).elim⟩, F.bindsN hb, g, F.kp, F.lk⟩
/-! f(e, .., k = v): by keywords in the parameters' order -/
def tCallKw (n m : Nat) (sp : Sp) (E : XK) (t tk : TA) : TE := fun σ H Q => t σ H fun vs H1 => tk σ H1 fun zs H2 => vs.length = n ∧ zs.length = m ∧ sp (vs ++ zs) H2 Q E
theorem kbn_none {K : PySem.W.Frag} {params : Arguments} {body : List Stmt} {scope : Scope} {f : Addr} {fd : FuncData} {n : Nat} {ks : List Str} (F : FunD K x x params body scope [] [] f fd)
    (h : ∀ (kV doc pm : Value) (an : Option Addr) (cdv ct : Value) (us ws : List Value), us.length = n → ws.length = ks.length → bindArgs (PySem.W.fnOf x x params body scope .none kV doc pm an cdv ct) ⟨us, ks.zip ws⟩ = pure (ps.zip (us ++ ws))) : KBn K fd ps n ks (fun us ws => us ++ ws) (fun vs zs => vs ++ zs) := by
  obtain ⟨oc, od, dV, kV, doc, pm, an, cdv, ct, osl, rfl, lk, hcd, hD, hK⟩ := F.ex
  rcases hD with ⟨_, rfl⟩ | ⟨e, _⟩
  · exact ⟨fun s us ws X l1 l2 => .of_eq (h kV doc pm an cdv ct us ws l1 l2), fun r1 r2 => r1.append r2⟩
  · exact absurd rfl e
theorem fd_one {K : PySem.W.Frag} {f : Addr} {fd fd' : FuncData} (h : ∃ oc od osl, K.lookup f = some ⟨oc, od, .func fd, osl⟩) (h' : ∃ oc od osl, K.lookup f = some ⟨oc, od, .func fd', osl⟩) : fd = fd' := by
  obtain ⟨oc, od, osl, e⟩ := h
  obtain ⟨oc', od', osl', e'⟩ := h'
  rw [e] at e'
  cases e'
  rfl
theorem pe_hasK {params : Arguments} {body : List Stmt} {scope : Scope} {n : Nat} {ks : List Str} {kws : List Keyword} {tk : TA} (h : Has X.prog X.w X.K X.mg X.base x k ps sp) (F : ∃ fd, FunD X.K x x params body scope [] [] (He.ga X.K x) fd) {j : Nat} (hr : Room j X.A)
    (hbk : ∀ (kV doc pm : Value) (an : Option Addr) (cdv ct : Value) (us ws : List Value), us.length = n → ws.length = ks.length → bindArgs (PySem.W.fnOf x x params body scope .none kV doc pm an cdv ct) ⟨us, ks.zip ws⟩ = pure (ps.zip (us ++ ws)))
    (ha : PA X (e :: es) t) (hkw : PK X kws tk) (hj : k ≤ j := by first | decide | exact Nat.le_refl _ | omega) (hg : Gl X x := by rfl) (hdb : (x == ("__debug__" : Str)) = false := by decide)
    (hall : (backToKw pos (keywordEach kws X.env)).all (·.1.isSome) = true := by rfl) (hks : (backToKw pos (keywordEach kws X.env)).filterMap (·.1) = ks := by rfl) (he : starEach (e :: es) X.env = (false, eval e X.env) :: starEach es X.env := by rfl)
    (hpl : ((backTo pos (starEach (e :: es) X.env)).any (·.1) || (backToKw pos (keywordEach kws X.env)).any (·.1.isNone)) = false := by rfl) : PE X (.Call (.Name x p) (e :: es) kws pos) (tCallKw n ks.length sp E0 t tk) := by
  obtain ⟨fd, Fo, b, g, kp, lk⟩ := h
  obtain ⟨fd', F⟩ := F
  obtain rfl := fd_one F.lk lk
  exact pe_callN Fo (hr.mono hj) hg g kp (kbn_none F hbk) pass0 ha hkw hall hks hdb he hpl
theorem pe_hasK0 {params : Arguments} {body : List Stmt} {scope : Scope} {ks : List Str} {kws : List Keyword} {tk : TA} (h : Has X.prog X.w X.K X.mg X.base x k ps sp) (F : ∃ fd, FunD X.K x x params body scope [] [] (He.ga X.K x) fd) {j : Nat} (hr : Room j X.A)
    (hbk : ∀ (kV doc pm : Value) (an : Option Addr) (cdv ct : Value) (us ws : List Value), us.length = 0 → ws.length = ks.length → bindArgs (PySem.W.fnOf x x params body scope .none kV doc pm an cdv ct) ⟨us, ks.zip ws⟩ = pure (ps.zip (us ++ ws)))
    (hkw : PK X kws tk) (hj : k ≤ j := by first | decide | exact Nat.le_refl _ | omega) (hg : Gl X x := by rfl) (hdb : (x == ("__debug__" : Str)) = false := by decide)
    (hall : (backToKw pos (keywordEach kws X.env)).all (·.1.isSome) = true := by rfl) (hks : (backToKw pos (keywordEach kws X.env)).filterMap (·.1) = ks := by rfl)
    (hpl : ((backTo pos (starEach [] X.env)).any (·.1) || (backToKw pos (keywordEach kws X.env)).any (·.1.isNone)) = false := by rfl) : PE X (.Call (.Name x p) [] kws pos) (tCallKw 0 ks.length sp E0 tNil tk) := by
  obtain ⟨fd, Fo, b, g, kp, lk⟩ := h
  obtain ⟨fd', F⟩ := F
  obtain rfl := fd_one F.lk lk
  refine ⟨fun pins s σ H Q I h => ?_⟩
  refine wpAny_Call_Name_kw (ld_glob I hg g ?_ hdb)
  refine PySem.W.callWith_KW0 (h₀ := X.base) I.ok.mod.kin kp hall ?_ hpl
  refine thn (hkw.run pos pins s σ H _ I h) fun ws s2 ⟨zs, H2, I2, rz, _, l2, q2⟩ => ⟨I2.kIn, ?_⟩
  rw [hks]
  exact run_fnN (us := []) (vs := []) Fo (hr.mono hj) (kbn_none F hbk) pass0 I2 .nil rz rfl l2 q2
theorem ev_callKw {S : Sys} {ρ : DEnv} {F : Fn} {n m : Nat} {t tk : TA} {E : XK} {Q : D → Prop} (h : EvA S t ρ fun ds => EvA S tk ρ fun es => ds.length = n ∧ es.length = m ∧ F.f (ds ++ es) Q) : Ev S (tCallKw n m (spF (S0 S.K) F) E t tk) ρ Q := fun O σ H I Qv k => by
  refine h O σ H I _ fun ds vs H1 l1 t1 i1 h1 => ?_
  refine h1 O σ H1 (I.le l1 t1) _ fun es us H2 l2 t2 i2 ⟨z1, z2, q⟩ => ?_
  have l := l1.trans l2
  refine ⟨i1.length.trans z1, i2.length.trans z2, O, ds ++ es, trivial, fun a ha => absurd ha (by simp [S0]), (I.le l t2).live, Iss.append (i1.ex (hid_le l2 I.sub)) i2, F.mono _ _ _ (fun d c v H' l' _ i => ?_) q⟩
  have ls : Same H2 H' := fun a o e => l' a o (by simp [S0]) e
  exact k d v H' (l.trans (Le.same ls)) (S.same _ _ ls t2) i c
end

/-! ### the tape of the laws: a list of the cells' list, a place, a rest, a seed -/
structure TapeAt (p c : Addr) (H : Hp) : Prop where
  ok : ∃ (cells : List Int) (i r s : Int), H p = some (.lst [.ref c, .int i, .int r, .int s]) ∧ H c = some (.lst (cells.map V.int)) ∧ 0 ≤ i ∧ 0 ≤ r ∧ 0 ≤ s ∧ s < 2147483563
def ST (K : PySem.W.Frag) (pc : Addr × Addr) : Sys where
  K := K
  M := [pc.1, pc.2]
  T := TapeAt pc.1 pc.2
  dep := fun H H' h _ ⟨cells, i, r, s, h1, h2, h3⟩ => ⟨cells, i, r, s, by rw [h pc.1 (by simp)]; exact h1, by rw [h pc.2 (by simp)]; exact h2, h3⟩
  live := fun H ⟨cells, i, r, s, h1, h2, h3⟩ a ha => by
    simp only [List.mem_cons, List.not_mem_nil, or_false] at ha
    rcases ha with rfl | rfl
    · rw [h1]; exact fun z => by cases z
    · rw [h2]; exact fun z => by cases z
theorem ev_callT {K : PySem.W.Frag} {pc : Addr × Addr} {ρ : DEnv} {F : Addr × Addr → Fn} {t : TA} {E : XK} {Q : D → Prop} (h : EvA (ST K pc) t ρ fun ds => (F pc).f ds Q) : Ev (ST K pc) (tCall (spT (ST K) F) [] E t) ρ Q :=
  ev_callS (F := F pc) (fun vs H Q E h => ⟨pc, h⟩) h
theorem ev_call0 {K : PySem.W.Frag} {pc : Addr × Addr} {ρ : DEnv} {F : Fn} {t : TA} {E : XK} {Q : D → Prop} (h : EvA (ST K pc) t ρ fun ds => F.f ds Q) : Ev (ST K pc) (tCall (spF (S0 K) F) [] E t) ρ Q := ev_call (S := ST K pc) h
end NB

end PART_NB5
section PART_NB6
set_option Elab.async false
set_option linter.all false
set_option maxRecDepth 100000
set_option maxHeartbeats 4000000
set_option autoImplicit false
/-! NB6: texts as lists of signs; the drawn labels. -/
namespace NB
open PySem PySem.Spec PyProof.Rows L2
section
variable {S : Sys} {ρ : DEnv} {P : Post}
theorem SOk.set {B : Base} {O : List Addr} {σ : St} {H : Hp} {k : Nat} {d : D} {v : V} (I : SOk S B O ρ σ H) (i : Is S.K (hid O H) v d) : SOk S B O (ρ.set k (some (.dat d))) (σ.set k (some v)) H :=
  ⟨I.env.set i, I.sub, I.le, I.live, fun j l o => I.own j l (o.of_set I.env.len).1⟩
theorem run_par {i j : Nat} {ta : TA} (h : EvA S ta ρ fun ds => ∃ a b, ds = [a, b] ∧ P.nx ((ρ.set i (some (.dat a))).set j (some (.dat b)))) : Run S (tPar i j ta) ρ P := fun B O σ H I Dv k _ _ _ => by
  refine h O σ H I.env _ fun ds vs H1 l1 t1 i1 ⟨a, b, e, q⟩ => ?_
  subst e
  obtain ⟨I1, s1⟩ := I.go l1 t1
  obtain ⟨v, u, rfl, ia, ib⟩ := iss2 i1
  exact ⟨v, u, rfl, k _ O _ H1 ((I1.set ia).set ib) s1 q⟩
theorem run_par3 {i j l : Nat} {ta : TA} (h : EvA S ta ρ fun ds => ∃ a b c, ds = [a, b, c] ∧ P.nx (((ρ.set i (some (.dat a))).set j (some (.dat b))).set l (some (.dat c)))) : Run S (tPar3 i j l ta) ρ P := fun B O σ H I Dv k _ _ _ => by
  refine h O σ H I.env _ fun ds vs H1 l1 t1 i1 ⟨a, b, c, e, q⟩ => ?_
  subst e
  obtain ⟨I1, s1⟩ := I.go l1 t1
  obtain ⟨v, ws, rfl, ia, iw⟩ := iss_cons i1
  obtain ⟨u, x, rfl, ib, ic⟩ := iss2 iw
  exact ⟨v, u, x, rfl, k _ O _ H1 (((I1.set ia).set ib).set ic) s1 q⟩
end
/-- the law's own start: behind the tape is made -/
theorem law_run {K : PySem.W.Frag} {p c a : Addr} {N : List Str} {rest : TS} {H : Hp} {Q : VK} (T : TapeAt p c H) (h : Run (ST K (p, c)) rest ((startD N [.loc a]).set 1 (some (.dat (.loc p)))) ⟨fun _ => False, fun d => d = .bl true, fun _ => False, fun _ => False⟩) (q : ∀ H', Q (.bl true) H') :
    rest { nx := fun _ H' => Q .non H', rt := Q } ((L2.start N [.ref a]).set 1 (some (.ref p))) H := by
  have I : SOk (ST K (p, c)) ⟨H, [p, c]⟩ [p, c] ((startD N [.loc a]).set 1 (some (.dat (.loc p)))) ((L2.start N [.ref a]).set 1 (some (.ref p))) H :=
    (sok_start (S := ST K (p, c)) (vs := [.ref a]) T (fun _ h => h) (fun x hx => (ST K (p, c)).live H T x hx) (.cons (.loc a) .nil) ⟨fun _ _ _ e => (by cases e), fun _ _ _ => rfl⟩).set (.loc p)
  exact h ⟨H, [p, c]⟩ [p, c] _ H I _ (fun _ _ _ _ _ _ z => z.elim) (fun d v H' _ _ i _ e => by subst e; rw [is_bl i]; exact q H') (fun _ _ _ _ _ _ z => z.elim) (fun _ _ _ _ _ _ z => z.elim)
def spTape (K : PySem.W.Frag) : Sp := fun vs H Q _ => ∃ (a : Addr) (ns : List Int), vs = [.ref a] ∧ SqL K H a (ns.map V.int) ∧ ∀ (p c : Addr) (H' : Hp), Same H H' → TapeAt p c H' → Q (.ref p) H'
def spLaw (K : PySem.W.Frag) : Sp := fun vs H Q _ => ∃ (a : Addr) (ns : List Int), vs = [.ref a] ∧ SqL K H a (ns.map V.int) ∧ ∀ H', Q (.bl true) H'
theorem law_start {K : PySem.W.Frag} {a : Addr} {ns : List Int} {N : List Str} {rest : TS} {E : XK} {H : Hp} {Q : VK} (hS : SqL K H a (ns.map V.int)) (q : ∀ H', Q (.bl true) H')
    (h : ∀ p c, Run (ST K (p, c)) rest ((startD N [.loc a]).set 1 (some (.dat (.loc p)))) ⟨fun _ => False, fun d => d = .bl true, fun _ => False, fun _ => False⟩) :
    tSeq (tAsg (tCall (spTape K) [] E (tCons (tVar 0) tNil)) (gName 1)) rest { nx := fun _ H' => Q .non H', rt := Q } (L2.start N [.ref a]) H :=
  ⟨_, rfl, a, ns, rfl, hS, fun p c H' _ T => law_run T (h p c) q⟩
theorem iteD {p A B : Prop} [Decidable p] (hp : p) (h : A) : if decide p = true then A else B := by rw [decide_eq_true hp, if_pos rfl]; exact h
theorem iteDn {p A B : Prop} [Decidable p] (hp : ¬ p) (h : B) : if decide p = true then A else B := by rw [decide_eq_false hp, if_neg Bool.false_ne_true]; exact h
theorem szr {n : Nat} (h : Nat.ble n 100000 = true) : n ≤ sizeLine := Nat.le_trans (Nat.le_of_ble_eq_true h) (by rw [sizeLine_eq]; decide)
theorem szs {n : Nat} (h : n ≤ 100000) : n ≤ sizeLine := Nat.le_trans h (by rw [sizeLine_eq]; decide)
/-- a text of these signs -/
def mkS (l : List Nat) : Str := ⟨l.toArray⟩
theorem mkS_list (l : List Nat) : (mkS l).cps.toList = l := by simp [mkS]
theorem mkS_length (l : List Nat) : (mkS l).length = l.length := by simp [mkS, Str.length]
theorem mkS_of (x : Str) : mkS x.cps.toList = x := by cases x; simp [mkS]
theorem mkS_app (a b : List Nat) : mkS a ++ mkS b = mkS (a ++ b) := by
  show (⟨a.toArray ++ b.toArray⟩ : Str) = ⟨(a ++ b).toArray⟩
  simp
theorem mkS_inj {a b : List Nat} (h : mkS a = mkS b) : a = b := by
  have := congrArg (fun z : Str => z.cps.toList) h
  simpa [mkS] using this
theorem one_mkS (c : Nat) : (⟨#[c]⟩ : Str) = mkS [c] := rfl
theorem join_nil : ∀ ls : List (List Nat), Str.join (mkS []) (ls.map mkS) = mkS ls.flatten
  | [] => rfl
  | [l] => by simp [Str.join]
  | l :: m :: r => by
    have ih := join_nil (m :: r)
    show mkS l ++ mkS [] ++ Str.join (mkS []) ((m :: r).map mkS) = _
    rw [ih, mkS_app, mkS_app, List.append_nil, List.flatten_cons (l := l)]
theorem sIx_none (n d : Nat) : HT.sIx n d none = d := rfl
theorem sIx_nat {n d : Nat} {v : Int} (h : 0 ≤ v) : HT.sIx n d (some v) = min v.toNat n := by
  show (if v < 0 then (v + (n : Int)).toNat else min v.toNat n) = _
  rw [if_neg (by omega)]
theorem cutS_take {l : List Nat} {v : Int} (h : 0 ≤ v) : cutS (mkS l) none (some v) = mkS (l.take v.toNat) := by
  unfold cutS
  rw [mkS_list, mkS_length, sIx_none, sIx_nat h]
  show (⟨(((l.drop 0).take (min v.toNat l.length - 0))).toArray⟩ : Str) = ⟨(l.take v.toNat).toArray⟩
  rw [List.drop_zero, Nat.sub_zero]
  have : l.take (min v.toNat l.length) = l.take v.toNat := by
    rw [List.take_eq_take_iff]
    omega
  rw [this]
theorem cutS_drop {l : List Nat} {v : Int} (h : 0 ≤ v) : cutS (mkS l) (some v) none = mkS (l.drop v.toNat) := by
  unfold cutS
  rw [mkS_list, mkS_length, sIx_none, sIx_nat h]
  show (⟨(((l.drop (min v.toNat l.length)).take (l.length - min v.toNat l.length))).toArray⟩ : Str) = ⟨(l.drop v.toNat).toArray⟩
  congr 2
  by_cases hv : v.toNat ≤ l.length
  · rw [Nat.min_eq_left hv, List.take_of_length_le (by rw [List.length_drop]; omega)]
  · rw [Nat.min_eq_right (by omega), Nat.sub_self, List.take_zero, List.drop_eq_nil_of_le (by omega)]
theorem all2_ex {α β : Type} {P : β → Prop} {g : β → D} : ∀ {l : List α} {ys : List D}, All2 (fun _ y => ∃ c, P c ∧ y = g c) l ys → ∃ cs : List β, ys = cs.map g ∧ cs.length = l.length ∧ ∀ c ∈ cs, P c
  | [], _, h => by cases h; exact ⟨[], rfl, rfl, fun _ h => by cases h⟩
  | a :: l, _, h => by
    cases h with
    | cons h t =>
      obtain ⟨c, hc, rfl⟩ := h
      obtain ⟨cs, rfl, h2, h3⟩ := all2_ex t
      exact ⟨c :: cs, rfl, congrArg (· + 1) h2, fun d m => by
        rcases List.mem_cons.mp m with rfl | m
        · exact hc
        · exact h3 d m⟩
theorem signs_join (cs : List Nat) : Str.join (mkS []) (cs.map fun c => mkS [c]) = mkS cs := by
  have e : (cs.map fun c => mkS [c]) = (cs.map fun c => [c]).map mkS := by rw [List.map_map] <;> rfl
  rw [e, join_nil]
  congr 1
  induction cs with
  | nil => rfl
  | cons c cs ih => rw [List.map_cons, List.flatten_cons, ih (by rw [List.map_map] <;> rfl)] <;> rfl
theorem signs_sum (cs : List Nat) : ((cs.map fun c => mkS [c]).map (·.length)).sum = cs.length := by
  induction cs with
  | nil => rfl
  | cons c cs ih =>
    rw [List.map_cons, List.map_cons, List.sum_cons, ih, List.length_cons, mkS_length]
    simp
    omega
/-! ### membership of texts -/
theorem inD_strs (x : Str) (ys : List Str) : inD (.str x) (ys.map D.str) = decide (x ∈ ys) := by
  unfold inD inV
  rw [List.map_map, List.any_map]
  induction ys with
  | nil => rfl
  | cons y ys ih =>
    rw [List.any_cons, ih]
    show ((y == x) || _) = _
    by_cases h : x = y
    · subst h; simp
    · have h' : (y == x) = false := by simpa using fun z : y = x => h z.symm
      rw [h', Bool.false_or]
      simp [h]
/-! ### labels -/
def abcS : Str := "abcdefghijklmnopqrstuvwxyz"
def abcL : List Nat := abcS.cps.toList
def barred : List Str := ["all", "and", "else", "fork", "labels", "not", "or", "some", "there", "top", "twins", "unlike"]
def barredL : List (List Nat) := barred.map fun x => x.cps.toList
def smallC (c : Nat) : Bool := decide (c ∈ abcL)
def isWordS (x : Str) (n : Int) : Bool := decide (1 ≤ (x.length : Int)) && (decide ((x.length : Int) ≤ n) && x.cps.toList.all smallC)
def isWord : D → Int → Bool
  | .str x, n => isWordS x n
  | _, _ => false
def isLabel (d : D) : Bool := isWord d 6 && !inD d (barred.map D.str)
theorem mem_barred {l : List Nat} : mkS l ∈ barred ↔ l ∈ barredL := by
  unfold barredL
  rw [List.mem_map]
  constructor
  · intro h
    exact ⟨mkS l, h, mkS_list l⟩
  · rintro ⟨x, hx, rfl⟩
    rw [mkS_of]
    exact hx
theorem isLabel_mk {l : List Nat} : isLabel (.str (mkS l)) = true ↔ 1 ≤ l.length ∧ l.length ≤ 6 ∧ (∀ c ∈ l, c ∈ abcL) ∧ l ∉ barredL := by
  show ((decide (1 ≤ ((mkS l).length : Int)) && (decide (((mkS l).length : Int) ≤ 6) && (mkS l).cps.toList.all smallC)) && !inD (.str (mkS l)) (barred.map D.str)) = true ↔ _
  rw [inD_strs, mkS_list, mkS_length]
  simp only [Bool.and_eq_true, decide_eq_true_eq, Bool.not_eq_true', decide_eq_false_iff_not, List.all_eq_true, smallC, mem_barred]
  constructor
  · rintro ⟨⟨h1, h2, h3⟩, h4⟩
    exact ⟨by omega, by omega, h3, h4⟩
  · rintro ⟨h1, h2, h3, h4⟩
    exact ⟨⟨by omega, by omega, h3⟩, h4⟩
/-- a label that is a text -/
def GoodL (x : Str) : Prop := isLabel (.str x) = true
theorem GoodL.len {x : Str} (h : GoodL x) : 1 ≤ x.length ∧ x.length ≤ 6 := by
  have := h
  rw [← mkS_of x] at this
  have := isLabel_mk.mp this
  have hl : x.cps.toList.length = x.length := by simp [Str.length]
  omega
/-! ### drawn labels -/
def fixL (w : List Nat) : List Nat := if w ∈ barredL then (113 :: w).take 6 else w
def wordOf (cs : List Nat) (s : Nat) (x : Nat) : List Nat := cs.take s ++ x :: cs.drop s
theorem wordOf_len (cs : List Nat) (s x : Nat) : (wordOf cs s x).length = cs.length + 1 := by
  unfold wordOf
  rw [List.length_append, List.length_cons, List.length_take, List.length_drop]
  omega
theorem wordOf_erase {cs : List Nat} {s : Nat} (x : Nat) (h : s ≤ cs.length) : (wordOf cs s x).eraseIdx s = cs := by
  unfold wordOf
  have hl : (cs.take s).length = s := by rw [List.length_take]; omega
  rw [List.eraseIdx_append_of_length_le (by omega), hl, Nat.sub_self, List.eraseIdx_cons_zero, List.take_append_drop]
theorem wordOf_inj {cs : List Nat} {s x y : Nat} (e : wordOf cs s x = wordOf cs s y) : x = y := by
  unfold wordOf at e
  have := List.append_cancel_left e
  injection this
theorem wordOf_mem {cs : List Nat} {s x : Nat} (h : ∀ c ∈ cs, c ∈ abcL) (hx : x ∈ abcL) : ∀ c ∈ wordOf cs s x, c ∈ abcL := fun c m => by
  unfold wordOf at m
  rcases List.mem_append.mp m with m | m
  · exact h c (List.mem_of_mem_take m)
  · rcases List.mem_cons.mp m with rfl | m
    · exact hx
    · exact h c (List.mem_of_mem_drop m)
theorem bad_fix : ∀ a ∈ barredL, (113 :: a).take 6 ∉ barredL ∧ 1 ≤ ((113 :: a).take 6).length ∧ ((113 :: a).take 6).length ≤ 6 ∧ ∀ c ∈ (113 :: a).take 6, c ∈ abcL := by decide +kernel
theorem bad_two : ∀ a ∈ barredL, ∀ b ∈ barredL, (113 :: a).take 6 = (113 :: b).take 6 → a = b := by decide +kernel
theorem bad_one : ∀ a ∈ barredL, a.length = 6 → ∀ s : Nat, s < 6 → ¬ a.eraseIdx s = ((113 :: a).take 6).eraseIdx s := by decide +kernel
theorem fixL_good {w : List Nat} (h1 : 1 ≤ w.length) (h2 : w.length ≤ 6) (h3 : ∀ c ∈ w, c ∈ abcL) : GoodL (mkS (fixL w)) := by
  unfold GoodL
  rw [isLabel_mk]
  unfold fixL
  by_cases hb : w ∈ barredL
  · rw [if_pos hb]
    obtain ⟨g1, g2, g3, g4⟩ := bad_fix w hb
    exact ⟨g2, g3, g4, g1⟩
  · rw [if_neg hb]
    exact ⟨h1, h2, h3, hb⟩
theorem fixL_inj {cs : List Nat} {s x y : Nat} (hl : cs.length ≤ 5) (hs : s ≤ cs.length) (hxy : x ≠ y) : fixL (wordOf cs s x) ≠ fixL (wordOf cs s y) := by
  have one : ∀ x y, wordOf cs s x ∈ barredL → (113 :: wordOf cs s x).take 6 ≠ wordOf cs s y := fun x y hx e => by
    have l1 := wordOf_len cs s x
    have l2 := wordOf_len cs s y
    have l3 := congrArg List.length e
    rw [List.length_take, List.length_cons, l1, l2] at l3
    refine bad_one _ hx (by omega) s (by omega) ?_
    rw [e, wordOf_erase x hs, wordOf_erase y hs]
  intro e
  unfold fixL at e
  by_cases h1 : wordOf cs s x ∈ barredL
  · rw [if_pos h1] at e
    by_cases h2 : wordOf cs s y ∈ barredL
    · rw [if_pos h2] at e
      exact hxy (wordOf_inj (bad_two _ h1 _ h2 e))
    · rw [if_neg h2] at e
      exact one x y h1 e
  · rw [if_neg h1] at e
    by_cases h2 : wordOf cs s y ∈ barredL
    · rw [if_pos h2] at e
      exact one y x h2 e.symm
    · rw [if_neg h2] at e
      exact hxy (wordOf_inj e)
theorem abcL_len : abcL.length = 26 := by decide +kernel
theorem abcL_nodup : abcL.Nodup := by decide +kernel
def letterAt (start : Int) (k : Int) : Nat := abcL.getD ((start + 5 * k) % 26).toNat 0
theorem letterAt_get (start k : Int) : abcL[((start + 5 * k) % 26).toNat]? = some (letterAt start k) := by
  have h : ((start + 5 * k) % 26).toNat < abcL.length := by rw [abcL_len]; omega
  unfold letterAt
  rw [List.getD_eq_getElem?_getD, List.getElem?_eq_getElem h] <;> rfl
theorem letterAt_mem (start k : Int) : letterAt start k ∈ abcL := List.mem_of_getElem? (letterAt_get start k)
theorem letterAt_ne {start j k : Int} (h0 : 0 ≤ j) (h : j < k) (hk : k < 26) : letterAt start j ≠ letterAt start k := fun e => by
  have h1 := letterAt_get start j
  have h2 := letterAt_get start k
  rw [e] at h1
  have e3 := (List.getElem?_inj (by rw [abcL_len]; omega) abcL_nodup).mp (h1.trans h2.symm)
  omega
def namesOf (cs : List Nat) (s : Nat) (start : Int) (n : Nat) : List Str := (List.range n).map fun k : Nat => mkS (fixL (wordOf cs s (letterAt start (k : Int))))
theorem namesOf_good {cs : List Nat} {s : Nat} {start : Int} {n : Nat} (hl : cs.length ≤ 5) (hm : ∀ c ∈ cs, c ∈ abcL) : ∀ x ∈ namesOf cs s start n, GoodL x := fun x hx => by
  obtain ⟨k, _, rfl⟩ := List.mem_map.mp hx
  exact fixL_good (by rw [wordOf_len]; omega) (by rw [wordOf_len]; omega) (wordOf_mem hm (letterAt_mem _ _))
theorem namesOf_nodup {cs : List Nat} {s : Nat} {start : Int} {n : Nat} (hl : cs.length ≤ 5) (hs : s ≤ cs.length) (hn : n ≤ 26) : (namesOf cs s start n).Nodup := by
  unfold namesOf List.Nodup
  rw [List.pairwise_map]
  have := List.pairwise_lt_range (n := n)
  refine (List.Pairwise.imp_of_mem (fun {a b} ha hb h => ?_) this)
  intro e
  have hb' : b < n := List.mem_range.mp hb
  exact fixL_inj hl hs (letterAt_ne (start := start) (j := (a : Int)) (k := (b : Int)) (by omega) (by omega) (by omega)) (mkS_inj e)
theorem namesOf_length (cs : List Nat) (s : Nat) (start : Int) (n : Nat) : (namesOf cs s start n).length = n := by simp [namesOf]
end NB

end PART_NB6
section PART_NC
set_option Elab.async false
set_option linter.all false
set_option maxRecDepth 100000
set_option maxHeartbeats 4000000
set_option autoImplicit false
/-! NC: comprehensions of any number of clauses, of lists and of dicts. The runs follow HandS.Comp's. -/
namespace NC
open PySem PySem.Spec PyProof.Rows L2
abbrev St : Type := L2.St

def turnN (t : Expr) (ipos : Pos) (ifs : List Expr) (it : Value) (env : PySem.Env) (yes no : Sem Fin) : Sem Fin := do
  standAt ipos
  match ← pyNext it with
  | none => pure (.done .next)
  | some v =>
    letOwnedTupleGo t it v
    assign t env v
    let mut ok := true
    for c in ifs do
      if ok then ok ← isTrue c env (eval c env)
    if ok then yes else no
def tailN (e : Expr) (d : Nat) (it acc : Value) (env : PySem.Env) (i1 : Expr) : Sem Fin := do
  let x ← eval i1 env
  standAt i1.pos
  let x ← foldedSetIterable i1 env x
  let _ ← runOwn (.compStart e (d + 1) (← holding [x] (pyIter x)) acc env) env
  again (.compLoop e d it acc env)

abbrev NoE : Value → Shared → Prop := fun _ _ => False
/-- the next clause runs and K is reached -/
def runC (prog : Program) (w : World) (A : Around) (e : Expr) (d : Nat) (acc : Value) (env : PySem.Env) (i1 : Expr) (K : Shared → Prop) (s : Shared) : Prop :=
  wpAny (model prog w) A (eval i1 env) (fun x s₄ => wpAny (model prog w) A (pyIter x) (fun it1 s₅ =>
    codeAny (model prog w) A (.compStart e (d + 1) it1 acc env) (fun r s' => match r with
      | .ok _ => K s'
      | .error _ => False) s₅) NoE s₄) NoE s
def runE (prog : Program) (w : World) (A : Around) (emit : Sem Unit) (K : Shared → Prop) (s : Shared) : Prop :=
  wpAny (model prog w) A emit (fun _ s' => K s') NoE s

section
variable {prog : Program} {w : World} {A : Around} {R : Result → Shared → Prop} {s : Shared} {e t i1 : Expr} {d : Nat} {ipos : Pos} {ifs : List Expr} {it acc : Value} {env : PySem.Env} {yes : Sem Fin}
theorem loopN (heq : compTurn e d it acc env = turnN t ipos ifs it env yes (again (.compLoop e d it acc env))) (run : (Shared → Prop) → Shared → Prop)
    (hyes : ∀ (K : Shared → Prop) (E : Value → Shared → Prop) s, run K s → wpAny (model prog w) (A.under (.compLoop e d it acc env)) yes (fun fin s' => fin = .again (.compLoop e d it acc env) ∧ K s') E s)
    (hA : A.under (.compLoop e d it acc env) = A)
    (hden : (model prog w).den (.compLoop e d it acc env) = (compTurn e d it acc env).onRaise (fun x => do noteFrame x env; theTreesLotGoes x))
    (I : Nat → Shared → Prop)
    (turn : ∀ n s, I n s → wpAny (model prog w) A (pyNext it) (fun r s₁ => match r with
      | none => R (.ok .next) s₁
      | some v => wpAny (model prog w) A (letOwnedTupleGo t it v) (fun _ s₁' => wpAny (model prog w) A (assign t env v) (fun _ s₂ =>
          wpAny (model prog w) A (forIn ifs true fun c r => if r = true then do let ok ← isTrue c env (eval c env); pure (ForInStep.yield ok) else pure (ForInStep.yield r)) (fun ok s₃ =>
            if ok = true then run (fun s' => ∃ m, m < n ∧ I m s') s₃
            else ∃ m, m < n ∧ I m s₃) NoE s₂) NoE s₁') NoE s₁) NoE s)
    (n : Nat) (h : I n s) : codeAny (model prog w) A (.compLoop e d it acc env) R s := by
  refine codeAny_loop rfl I (fun n s hI => ?_) n h
  rw [hA, hden]
  refine wpAny_noted ?_
  rw [heq]
  unfold turnN
  refine wpAny_bind (wpAny_standAt (wpAny_bind (thnF (turn n s hI) (fun r s₁ h₁ => ?_))))
  cases r with
  | none => exact wpAny_pure h₁
  | some v =>
    refine wpAny_bind (thnF h₁ (fun _ s₁' h₁' => ?_))
    refine wpAny_bind (thnF h₁' (fun _ s₂ h₂ => wpAny_bind (thnF h₂ (fun ok s₃ h₃ => ?_))))
    cases ok with
    | false => exact wpAny_pure ⟨rfl, h₃⟩
    | true =>
      have z := hyes _ (notedBy (model prog w) A env fun e s' => R (.error e) s') s₃ h₃
      rw [hA] at z
      refine wpAny_mono z (fun fin s' hf => ?_) fun _ _ h' => h'
      obtain ⟨rfl, m, hm, hI'⟩ := hf
      exact ⟨rfl, m, hm, hI'⟩
theorem yesC (hs : ∀ x, foldedSetIterable i1 env x = pure x) (K : Shared → Prop) (E : Value → Shared → Prop) (s : Shared) (h : runC prog w A e d acc env i1 K s) :
    wpAny (model prog w) A (tailN e d it acc env i1) (fun fin s' => fin = .again (.compLoop e d it acc env) ∧ K s') E s := by
  unfold tailN
  refine wpAny_bind (thnF h (fun x s₄ h₄ => ?_))
  refine wpAny_bind (wpAny_standAt (wpAny_bind (wpAny_of_eq (hs x) (wpAny_bind (wpAny_holding (thnF h₄ (fun it1 s₅ h₅ => ?_)))))))
  refine wpAny_bind (wpAny_runOwn ?_)
  rw [Around.mark_none]
  refine codeAny_mono h₅ fun r s' hr => ?_
  cases r with
  | ok f =>
    first
      | exact wpAny_pure ⟨rfl, hr⟩
      | exact wpAny_bind (wpAny_pure (wpAny_pure ⟨rfl, hr⟩))
  | error e => exact hr.elim
theorem yesE {emit : Sem Unit} (K : Shared → Prop) (E : Value → Shared → Prop) (s : Shared) (h : runE prog w A emit K s) :
    wpAny (model prog w) A (do emit; again (.compLoop e d it acc env)) (fun fin s' => fin = .again (.compLoop e d it acc env) ∧ K s') E s :=
  wpAny_bind (thnF h fun _ s' hk => wpAny_pure ⟨rfl, hk⟩)
/-- a later clause's start -/
theorem startN (hcl : (clausesOf e)[d]? = some ⟨t, i1, ifs, 0⟩) (hA : A.under (.compStart e d it acc env) = A)
    (hden : (model prog w).den (.compStart e d it acc env) = (compStart e d it acc env).onRaise (fun x => do noteFrame x env; standAt theWindowsPlace)) (h0 : codeAny (model prog w) A (.compLoop e d it acc env) R s)
    (h : wpAny (model prog w) A (pyIter it) (fun it' s' => codeAny (model prog w) A (.compLoop e d it' acc env) R s') NoE s) :
    codeAny (model prog w) A (.compStart e d it acc env) R s := by
  refine codeAny_of_tree ?_
  rw [hA, hden]
  refine wpAny_notedAt ?_
  unfold compStart
  rw [hcl]
  show wpAny _ _ (ask >>= _) _ _ s
  refine wpAny_bind (wpAny_askSetting (wpAny_ite ?_))
  split
  · first
      | exact wpAny_bind (wpAny_pure (wpAny_pure (And.intro rfl h0)))
      | exact wpAny_pure (And.intro rfl h0)
  · first
      | exact wpAny_bind (wpAny_rule (wpAny_bind (wpAny_standAt (wpAny_bind (thnF h (fun it' s' h' => wpAny_pure (And.intro rfl h')))))))
      | (refine wpAny_bind (wpAny_rule ?_); show wpAny _ _ (standAt i1.pos >>= _) _ _ s; exact wpAny_bind (wpAny_standAt (wpAny_bind (thnF h (fun it' s' h' => wpAny_pure (And.intro rfl h'))))))
end

/-- a clause of e, as the machine sees it -/
structure Cla (e : Expr) (d : Nat) (t i : Expr) (ifs : List Expr) : Prop where
  cl : (clausesOf e)[d]? = some ⟨t, i, ifs, 0⟩
  ul : ∀ (A : Around) (it acc : Value) (env : PySem.Env), A.under (.compLoop e d it acc env) = A
  us : ∀ (A : Around) (it acc : Value) (env : PySem.Env), A.under (.compStart e d it acc env) = A
  dl : ∀ (prog : Program) (w : World) (it acc : Value) (env : PySem.Env), (model prog w).den (.compLoop e d it acc env) = (compTurn e d it acc env).onRaise (fun x => do noteFrame x env; theTreesLotGoes x)
  ds : ∀ (prog : Program) (w : World) (it acc : Value) (env : PySem.Env), (model prog w).den (.compStart e d it acc env) = (compStart e d it acc env).onRaise (fun x => do noteFrame x env; standAt theWindowsPlace)
/-- what its turn does behind the tests -/
structure Trn (prog : Program) (w : World) (A : Around) (e : Expr) (d : Nat) (t i : Expr) (ifs : List Expr) (acc : Value) (env : PySem.Env) (run : (Shared → Prop) → Shared → Prop) : Prop where
  ex : ∀ it : Value, ∃ yes : Sem Fin, compTurn e d it acc env = turnN t i.pos ifs it env yes (again (.compLoop e d it acc env)) ∧
    ∀ (K : Shared → Prop) (E : Value → Shared → Prop) s, run K s → wpAny (model prog w) A yes (fun fin s' => fin = .again (.compLoop e d it acc env) ∧ K s') E s
theorem Trn.loop {prog : Program} {w : World} {A : Around} {e : Expr} {d : Nat} {t i : Expr} {ifs : List Expr} {acc : Value} {env : PySem.Env} {run : (Shared → Prop) → Shared → Prop} (T : Trn prog w A e d t i ifs acc env run) (C : Cla e d t i ifs) (it : Value)
    {R : Result → Shared → Prop} (I : Nat → Shared → Prop)
    (turn : ∀ n s, I n s → wpAny (model prog w) A (pyNext it) (fun r s₁ => match r with
      | none => R (.ok .next) s₁
      | some v => wpAny (model prog w) A (letOwnedTupleGo t it v) (fun _ s₁' => wpAny (model prog w) A (assign t env v) (fun _ s₂ =>
          wpAny (model prog w) A (forIn ifs true fun c r => if r = true then do let ok ← isTrue c env (eval c env); pure (ForInStep.yield ok) else pure (ForInStep.yield r)) (fun ok s₃ =>
            if ok = true then run (fun s' => ∃ m, m < n ∧ I m s') s₃
            else ∃ m, m < n ∧ I m s₃) NoE s₂) NoE s₁') NoE s₁) NoE s)
    (n : Nat) {s : Shared} (h : I n s) : codeAny (model prog w) A (.compLoop e d it acc env) R s := by
  obtain ⟨yes, heq, hy⟩ := T.ex it
  exact loopN heq run (fun K E s q => by rw [C.ul]; exact hy K E s q) (C.ul _ _ _ _) (C.dl _ _ _ _ _) I turn n h
/-- what is run behind the tests keeps its reading tl; vs: the names it may store -/
def TailOk (Y : Cx) (run : (Shared → Prop) → Shared → Prop) (tl : St → Hp → (Hp → Prop) → Prop) (vs : List Nat) : Prop :=
  ∀ (pins : List (Addr × Obj)) (s : Shared) (σ : St) (H : Hp) (Nx : Hp → Prop) (K : Shared → Prop), Inv Y pins σ H s → tl σ H Nx →
    (∀ (σ' : St) (H' : Hp) (s' : Shared), Inv Y pins σ' H' s' → σ'.length = σ.length → (∀ (j : Nat) v, j ∉ vs → σ[j]? = some (some v) → σ'[j]? = some (some v)) → Nx H' → K s') → run K s
def tCl (wi1 : TI) (g1 : TG) (tt1 : TT) (tl : St → Hp → (Hp → Prop) → Prop) (vs1 : List Nat) : St → Hp → (Hp → Prop) → Prop := fun σ2 H3 Nx =>
  wi1 σ2 H3 fun J1 H4 => ∃ W1 : Nat → Nat → Hp → Prop, (∃ m, W1 0 m H4) ∧ ∀ j k H, W1 j k H →
      (J1.stop j H ∧ Nx H) ∨ (J1.go j H ∧ ∃ Nx1 : Hp → Prop, (∀ H', Nx1 H' → ∃ k', k' < k ∧ W1 (j + 1) k' H') ∧ ∀ x H', J1.yld j H x H' → g1 x (wipe σ2 vs1) H' fun σ3 H5 => wipe σ3 vs1 = wipe σ2 vs1 ∧ tt1 σ3 H5 fun b H6 =>
        if b = true then tl σ3 H6 Nx1 else Nx1 H6)
theorem tail_clause {Y : Cx} {e tg1 iter1 : Expr} {d : Nat} {ifs1 : List Expr} {acc : Value} {wi1 : TI} {g1 : TG} {tt1 : TT} {tl : St → Hp → (Hp → Prop) → Prop} {vs1 vs2 : List Nat} {run : (Shared → Prop) → Shared → Prop} (hc : Y.calm = true) (hx : Y.xe = NoE)
    (C : Cla e (d + 1) tg1 iter1 ifs1) (T : Trn Y.prog Y.w Y.A e (d + 1) tg1 iter1 ifs1 acc Y.env run) (pi1 : PI Y tg1 iter1 wi1) (pg1 : PG Y tg1 g1) (pt1 : PTs Y ifs1 tt1) (ht : TailOk Y run tl vs2) (hv : ∀ i ∈ vs2, i ∈ vs1) :
    TailOk Y (runC Y.prog Y.w Y.A e d acc Y.env iter1) (tCl wi1 g1 tt1 tl vs1) vs1 := fun pins s9 σ8 H9 Nx K I9 q9 fin => by
  have p1 := fun R h => pi1.run pins s9 σ8 H9 R I9 h
  rw [hx] at p1
  refine thnF (p1 _ q9) fun xv s10 hx1 => thnF hx1 fun itv s11 h11 => ?_
  obtain ⟨it1, fp1, tn1, J1, H11, e1, I11, T1, st11, f11, W1, ⟨m1, w1⟩, turn1⟩ := h11
  subst e1
  have stat1 : ∀ {H' : Hp}, (∀ b ∈ fp1, H' b = none) → ∀ b ∈ fp1, FpOk Y pins H' b := fun hn b hb => ⟨hn b hb, (f11 b hb).2⟩
  have loop1 : codeAny (model Y.prog Y.w) Y.A (.compLoop e (d + 1) (.ref it1) acc Y.env) (fun r s' => match r with
      | .ok _ => K s'
      | .error _ => False) s11 := by
    refine T.loop C _ (fun k s' => ∃ j H', Inv Y pins (wipe σ8 vs1) H' s' ∧ tn1 j s'.heap ∧ (∀ b ∈ fp1, H' b = none) ∧ W1 j k H') ?_ m1 ⟨0, H11, I11.weak (wipe_length _ _) (fun j v e => (wipe_some e).1), st11, fun b hb => (f11 b hb).1, w1⟩
    rintro k s12 ⟨j, H12, I12, st12, n12, w12⟩
    rcases turn1 j k H12 w12 with ⟨stop1, nx1⟩ | ⟨go1, Nx1, hNx1, step1⟩
    · refine thnF (T1.done Y rfl rfl rfl hc j _ s12 (wipe σ8 vs1) H12 (fun _ _ => False) I12 (stat1 n12) st12 stop1) fun r s13 ⟨hr, I13⟩ => ?_
      subst hr
      exact fin _ _ _ I13 (wipe_length σ8 vs1) (fun j v hj e => by rw [wipe_out hj]; exact e) nx1
    · refine thnF (T1.item Y rfl rfl rfl hc j _ s12 (wipe σ8 vs1) H12 (fun _ _ => False) I12 (stat1 n12) st12 go1) fun r s13 ⟨u1, hr, h13⟩ => ?_
      subst hr
      refine thnF h13 fun _ s14 ⟨x1, H14, I14, r14, y14, st14, n14⟩ => ?_
      have I14' := I14.pinned (stat1 n14) (T1.obj _ _ st14)
      have p2 := pg1.run _ s14 (wipe σ8 vs1) H14 x1 u1 _ I14' r14 (step1 x1 H14 y14)
      rw [hx] at p2
      refine thnF p2 fun _ s15 ⟨σ15, H15, I15, hw15, q15⟩ => ?_
      have p3 := pt1.run _ s15 σ15 H15 _ I15 q15
      rw [hx] at p3
      refine thnF p3 fun b1 s16 ⟨H16, I16, q16⟩ => ?_
      have fin1 : ∀ {σ' : St} {s' : Shared} {H' : Hp}, Inv Y (pins ++ pinsAt fp1 s14.heap) σ' H' s' → σ'.length = σ15.length → (∀ (j : Nat) v, j ∉ vs2 → σ15[j]? = some (some v) → σ'[j]? = some (some v)) → Nx1 H' →
          ∃ m, m < k ∧ ∃ j H', Inv Y pins (wipe σ8 vs1) H' s' ∧ tn1 j s'.heap ∧ (∀ b ∈ fp1, H' b = none) ∧ W1 j m H' := fun {σ' s' H'} I' hl hk nx => by
        obtain ⟨m', hm, w'⟩ := hNx1 H' nx
        have pin' : ∀ b ∈ fp1, ∀ o, s14.heap.get? b = some o → s'.heap.get? b = some o ∧ H' b = none := fun b hb o e =>
          let z := I'.pin (b, o) (List.mem_append_right _ (List.mem_append_right _ (mem_pinsAt hb e)))
          ⟨z.1, z.2.1⟩
        refine ⟨m', hm, j + 1, H', I'.unpinned.weak (by rw [hl, ← wipe_length σ15 vs1, hw15]) (fun j v e => ?_), T1.keep _ _ _ st14 fun b hb o e => (pin' b hb o e).1, fun b hb => ?_, w'⟩
        · rw [← hw15] at e
          obtain ⟨e1, e2⟩ := wipe_some e
          exact hk j v (fun z => e2 (hv j z)) e1
        · obtain ⟨o, e, _⟩ := T1.obj _ _ st14 b hb
          exact (pin' b hb o e).2
      cases b1 with
      | false =>
        simp only [Bool.false_eq_true, if_false] at q16 ⊢
        exact fin1 I16 rfl (fun _ _ _ e => e) q16
      | true =>
        simp only [if_true] at q16 ⊢
        exact ht _ s16 σ15 H16 Nx1 _ I16 q16 fun σ' H' s' I' hl hk nx => fin1 I' hl hk nx
  exact startN C.cl (C.us _ _ _ _) (C.ds _ _ _ _ _) loop1 (T1.self Y.A 0 _ _ _ st11 loop1)
/-- the new object of a comprehension -/
structure New (newAcc : Sem Value) (ob : Obj) (o0 : HO) : Prop where
  run : ∀ (prog : Program) (w : World) (A : Around) (E : Value → Shared → Prop) (Q : Value → Shared → Prop) (s : Shared), Q (.ref s.heap.objs.size) { s with heap := s.heap.push ob } → wpAny (model prog w) A newAcc Q E s
  ok : ∀ (P : Program) (w : World) (H : Hp) (h : Heap), sysModules < h.objs.size → ObjOk P w H (h.push ob) h.objs.size o0
def tComp (o0 : HO) (wi : TI) (g : TG) (tt : TT) (tl : Addr → St → Hp → (Hp → Prop) → Prop) (vs : List Nat) : TE := fun σ H Q => wi σ H fun J H1 => ∀ D, H1 D = none → ∃ W : Nat → Nat → Hp → Prop, (∃ m, W 0 m (upd H1 D o0)) ∧ ∀ i m H, W i m H →
  (J.stop i H ∧ Q (.ref D) H) ∨ (J.go i H ∧ ∃ Nx : Hp → Prop, (∀ H', Nx H' → ∃ m', m' < m ∧ W (i + 1) m' H') ∧ ∀ x H', J.yld i H x H' → g x (wipe σ vs) H' fun σ2 H2 => wipe σ2 vs = wipe σ vs ∧ tt σ2 H2 fun b H3 =>
    if b = true then tl D σ2 H3 Nx else Nx H3)
section
variable {X : Cx}
theorem comp_core {pins : List (Addr × Obj)} {s : Shared} {σ : St} {H : Hp} {Q : VK} {e tg iter : Expr} {ifs : List Expr} {scope : Scope} {own : List (Str × Nat)} {vs1 : List Nat} {pos' : Pos} {wi : TI} {g : TG} {tt : TT} {tl : Addr → St → Hp → (Hp → Prop) → Prop} {use : Option (Value → Sem Unit)} {Qf : Value → Shared → Prop}
    {newAcc : Sem Value} {ob : Obj} {o0 : HO} {gs : List Comprehension} {run : Addr → PySem.Env → (Shared → Prop) → Shared → Prop}
    (hc : X.calm = true) (hN : X.N.Nodup) (I : Inv X pins σ H s) (hi : PI X tg iter wi) (ok : BlkOk X.N X.env.scope scope own) (hcl : clausesOf e = ⟨tg, iter, ifs, 0⟩ :: gs) (Cl : Cla e 0 tg iter ifs) (N : New newAcc ob o0)
    (T0 : ∀ (D : Addr) (env : PySem.Env), Trn X.prog X.w X.A e 0 tg iter ifs (.ref D) env (run D env))
    (hg : ∀ (s : Shared) (H : Hp) (C : Addr) (cl : List (Str × Addr)) (fp : List Addr), PG (X.blk s H scope (compEnvC scope cl C X.env) fp) tg g) (ht : ∀ (s : Shared) (H : Hp) (C : Addr) (cl : List (Str × Addr)) (fp : List Addr), PTs (X.blk s H scope (compEnvC scope cl C X.env) fp) ifs tt)
    (he : ∀ (D : Addr) (s : Shared) (H : Hp) (C : Addr) (cl : List (Str × Addr)) (fp : List Addr), TailOk (X.blk s H scope (compEnvC scope cl C X.env) fp) (run D (compEnvC scope cl C X.env)) (tl D) vs1) (hv : ∀ i ∈ vs1, i ∈ own.map (·.2)) (hs : ∀ x, foldedSetIterable iter X.env x = pure x)
    (h : tComp o0 wi g tt tl (own.map (·.2)) σ H Q)
    (hRR : ∀ D C s' m H', Inv X pins σ H' s' → Q (.ref D) H' → s'.heap.Ns C m → FpOk X pins H' C → compPost (model X.prog X.w) X.A X.xe use Qf (.ref D) C (.ok .next) s') :
    wpAny (model X.prog X.w) X.A (comprehension e scope X.env pos' newAcc false (eval iter X.env) use) Qf X.xe s := by
  have hfree : ∀ y ∈ scope.names, y.2 = .free → ∃ c, X.env.cells.lookup y.1 = some c := fun y hy e => by
    rcases ok.free y hy e with k | k
    · exact I.ok.has _ (.inl k)
    · exact I.ok.has _ (.inr k)
  refine wpAny_comprehension_free (use := use) hcl hs (closure_ok hfree) ok.kind (fun y hy e => by rw [ok.uniq y hy, e])
    (thn (hi.run pins s σ H _ I h) fun xv s1 hx => thn hx fun itv s2 h2 => ?_)
  obtain ⟨it, fp, tn, J, H2, eit, I2, T, st2, f2, q⟩ := h2
  subst eit
  refine N.run _ _ _ _ _ _ (newEnv_comp ?_)
  generalize hD : s2.heap.objs.size = D
  have hDn : H2 D = none := I2.hok.fresh (Nat.le_of_eq hD)
  obtain ⟨W, ⟨m0, w0⟩, turn⟩ := q D hDn
  -- the new list
  generalize hs3 : ({ s2 with heap := s2.heap.push ob } : Shared) = s3
  have I3 : Inv X pins σ (upd H2 D o0) s3 := by
    rw [← hs3]
    refine I2.laid (t' := s2.toks) (fun b o e => Heap.get?_push_of_some _ e) (Nat.le_of_eq hD) ?_
    rw [← hD]
    exact N.ok _ _ _ _ I2.big
  have h3 : s3.heap = s2.heap.push ob := by rw [← hs3]
  have sz : ∀ b ∈ fp, b < s2.heap.objs.size := fun b hb => by
    obtain ⟨o, e, _⟩ := T.obj _ _ st2 b hb
    exact Heap.lt_size e
  have f3 : ∀ b ∈ fp, FpOk X pins (upd H2 D o0) b ∧ b < s3.heap.objs.size := fun b hb => by
    have hlt := sz b hb
    refine ⟨⟨?_, (f2 b hb).2⟩, by rw [h3, Heap.size_push]; exact Nat.lt_succ_of_lt hlt⟩
    rw [upd_ne (by rw [← hD]; exact Nat.ne_of_lt hlt)]
    exact (f2 b hb).1
  have st3 : tn 0 s3.heap := T.keep _ _ _ st2 fun b _ o e => by rw [h3]; exact Heap.get?_push_of_some _ e
  have I4 := block_start I3 ok hN f3
  have pg := hg s3 (upd H2 D o0) s3.heap.objs.size (cellsFrom (s3.heap.objs.size + 1) scope.names (cloFrom X.env.cells scope.names [])) fp
  have pt := ht s3 (upd H2 D o0) s3.heap.objs.size (cellsFrom (s3.heap.objs.size + 1) scope.names (cloFrom X.env.cells scope.names [])) fp
  have pe := he D s3 (upd H2 D o0) s3.heap.objs.size (cellsFrom (s3.heap.objs.size + 1) scope.names (cloFrom X.env.cells scope.names [])) fp
  show codeAny _ _ (.compStart e 0 (.ref it) (.ref D) (compEnvC scope (cellsFrom (s3.heap.objs.size + 1) scope.names (cloFrom X.env.cells scope.names [])) s3.heap.objs.size X.env)) (compPost (model X.prog X.w) X.A X.xe use Qf (.ref D) s3.heap.objs.size) { s3 with heap := pushCells (s3.heap.push { cls := .type "dict", data := .dict #[] }) scope.names }
  have nfp : ∀ b ∈ fp, (upd H2 D o0) b = none := fun b hb => (f3 b hb).1.1
  generalize hce : compEnvC scope (cellsFrom (s3.heap.objs.size + 1) scope.names (cloFrom X.env.cells scope.names [])) s3.heap.objs.size X.env = ce at I4 pg pt pe ⊢
  have cL : ce.locals = s3.heap.objs.size := by subst hce; rfl
  generalize hH3 : upd H2 D o0 = H3 at I3 I4 pg pt pe w0 nfp f3
  generalize hs4 : ({ s3 with heap := pushCells (s3.heap.push { cls := .type "dict", data := .dict #[] }) scope.names } : Shared) = s4 at I4 ⊢
  have st4 : tn 0 s4.heap := T.keep _ _ _ st3 fun b _ o e => by rw [← hs4]; exact pushCells_keeps _ _ _ _ (Heap.get?_push_of_some _ e)
  have stat : ∀ {σ' : St} {H' : Hp} {s' : Shared}, Inv (X.blk s3 H3 scope ce fp) [] σ' H' s' → (∀ b ∈ fp, H' b = none) → ∀ b ∈ fp, FpOk (X.blk s3 H3 scope ce fp) [] H' b := fun {σ' H' s'} I' hn b hb =>
    ⟨hn b hb, (I'.ok.exf b hb).1, I'.ok.exfs b hb, .inl hb, fun x c e => (I'.ok.exf b hb).2 x c e, fun p hp => absurd (show p ∈ ([] : List (Addr × Obj)) ++ [] from hp) (by simp)⟩
  have loop : codeAny (model X.prog X.w) X.A (.compLoop e 0 (.ref it) (.ref D) ce) (compPost (model X.prog X.w) X.A X.xe use Qf (.ref D) s3.heap.objs.size) s4 := by
    refine (T0 D ce).loop Cl _ (fun n s' => ∃ i H', Inv (X.blk s3 H3 scope ce fp) [] (wipe σ (own.map (·.2))) H' s' ∧ tn i s'.heap ∧ (∀ b ∈ fp, H' b = none) ∧ W i n H') ?_ m0 ⟨0, H3, I4, st4, nfp, w0⟩
    rintro n s5 ⟨i, H5, I5, st5, n5, w5⟩
    rcases turn i n H5 w5 with ⟨stop, qq⟩ | ⟨go, Nx, hNx, step⟩
    · have td := T.done (X.blk s3 H3 scope ce fp) rfl rfl rfl hc i [] s5 _ H5 (fun _ _ => False) I5 (stat I5 n5) st5 stop
      refine thnF td fun r s6 ⟨hr, I6⟩ => ?_
      subst hr
      -- back in the def's context
      have I7 : Inv X pins σ H5 s6 := I3.call' (ch := fp) I6.os I6.base I6.hok I6.bare fun b hb => ⟨(f3 b hb).1.2.2.2.1, (f3 b hb).1.2.1, (f3 b hb).1.2.2.2.2.1, (f3 b hb).1.2.2.2.2.2⟩
      have nC : H5 s3.heap.objs.size = none := by
        have z : H5 ce.locals = none := I6.free
        rw [cL] at z
        exact z
      obtain ⟨m, hn, _⟩ := I6.loc
      have hn : s6.heap.Ns ce.locals m := hn
      rw [cL] at hn
      exact hRR D s3.heap.objs.size s6 m H5 I7 qq hn (I3.fpOk (Nat.le_refl _) nC)
    · have ti := T.item (X.blk s3 H3 scope ce fp) rfl rfl rfl hc i [] s5 _ H5 (fun _ _ => False) I5 (stat I5 n5) st5 go
      refine thnF ti fun r s6 ⟨u, hr, h6⟩ => ?_
      subst hr
      refine thnF h6 fun _ s7 ⟨x, H7, I7, r7, y7, st7, n7⟩ => ?_
      have I7' := I7.pinned (stat I7 n7) (T.obj _ _ st7)
      refine thnF (pg.run _ s7 _ H7 x u _ I7' r7 (step x H7 y7)) fun _ s8 ⟨σ8, H8, I8, hw8, q8⟩ => ?_
      refine thnF (pt.run _ s8 σ8 H8 _ I8 q8) fun b s9 ⟨H9, I9, q9⟩ => ?_
      -- the turn's end, from any slots that know what the block knew at its start
      have fin : ∀ {σ9 : St} {s' : Shared} {H' : Hp}, Inv (X.blk s3 H3 scope ce fp) ([] ++ pinsAt fp s7.heap) σ9 H' s' → σ9.length = σ8.length → (∀ (j : Nat) v, j ∉ vs1 → σ8[j]? = some (some v) → σ9[j]? = some (some v)) → Nx H' →
          ∃ m, m < n ∧ ∃ i H', Inv (X.blk s3 H3 scope ce fp) [] (wipe σ (own.map (·.2))) H' s' ∧ tn i s'.heap ∧ (∀ b ∈ fp, H' b = none) ∧ W i m H' := fun {σ9 s' H'} I' hl hk nx => by
        obtain ⟨m', hm, w'⟩ := hNx H' nx
        have pin' : ∀ b ∈ fp, ∀ o, s7.heap.get? b = some o → s'.heap.get? b = some o ∧ H' b = none := fun b hb o e =>
          let z := I'.pin (b, o) (List.mem_append_right _ (List.mem_append_right _ (mem_pinsAt hb e)))
          ⟨z.1, z.2.1⟩
        refine ⟨m', hm, i + 1, H', (I'.unpinned (pins := [])).weak (by rw [hl, ← hw8, wipe_length]) (fun j v e => ?_), T.keep _ _ _ st7 fun b hb o e => (pin' b hb o e).1, fun b hb => ?_, w'⟩
        · rw [← hw8] at e
          obtain ⟨e1, e2⟩ := wipe_some e
          exact hk j v (fun z => e2 (hv j z)) e1
        · obtain ⟨o, e, _⟩ := T.obj _ _ st7 b hb
          exact (pin' b hb o e).2
      cases b with
      | false =>
        simp only [Bool.false_eq_true, if_false] at q9 ⊢
        exact fin I9 rfl (fun _ _ _ e => e) q9
      | true =>
        simp only [if_true] at q9 ⊢
        have pe' := pe ([] ++ pinsAt fp s7.heap) s9 σ8 H9 Nx (fun s' => ∃ m, m < n ∧ ∃ i H', Inv (X.blk s3 H3 scope ce fp) [] (wipe σ (own.map (·.2))) H' s' ∧ tn i s'.heap ∧ (∀ b ∈ fp, H' b = none) ∧ W i m H') I9 q9 fun σ' H' s' I' hl hk nx => fin I' hl hk nx
        exact pe'
  exact startN Cl.cl (Cl.us _ _ _ _) (Cl.ds _ _ _ _ _) loop (T.self X.A 0 _ _ _ st4 loop)

/-! ### leaves -/
def emitL (elt : Expr) (acc : Value) (env : PySem.Env) : Sem Unit := do let _ ← call (.builtin "list.append") [acc, ← eval elt env]
def emitD (kx vx : Expr) (D : Addr) (env : PySem.Env) : Sem Unit := do
  let kv ← eval kx env
  let vv ← holding [kv] (eval vx env)
  standAt { kx.pos with endLine := vx.pos.endLine, endCol := vx.pos.endCol }
  holding [kv, vv] (dictSet D kv vv)
def tLeafL (te : TE) (D : Addr) : St → Hp → (Hp → Prop) → Prop := fun σ H Nx => te σ H fun y H7 => ∃ acc, H7 D = some (.lst acc) ∧ acc.length < sizeLine ∧ Nx (upd H7 D (.lst (acc ++ [y])))
def tLeafD (tk tv : TE) (D : Addr) : St → Hp → (Hp → Prop) → Prop := fun σ H Nx => tk σ H fun y H4 => tv σ H4 fun z H5 => ∃ H6, DPut H5 D y z H6 ∧ Nx H6
theorem tail_leafL {Y : Cx} {elt : Expr} {te : TE} {D : Addr} (hx : Y.xe = NoE) (he : PE Y elt te) : TailOk Y (runE Y.prog Y.w Y.A (emitL elt (.ref D) Y.env)) (tLeafL te D) [] := fun pins s σ H Nx K I q fin => by
  have p := he.run pins s σ H _ I q
  rw [hx] at p
  unfold runE emitL
  refine wpAny_bind (thnF p fun z s10 ⟨yv, H10, I10, r10, acc, hD10, hz10, nx⟩ => ?_)
  exact wpAny_bind (app_ok (X := Y) I10 hD10 hz10 r10 fun s11 I11 => wpAny_pure (fin _ _ _ I11 rfl (fun _ _ _ e => e) nx))
theorem d_dictPut {X : Cx} {pins : List (Addr × Obj)} {σ : St} {H H' : Hp} {s : Shared} {E : Value → Shared → Prop} {D : Addr} {y v : V} {u r : Value} {Q : Unit → Shared → Prop} (hu : X.A.units < cLine) (I : Inv X pins σ H s) (g : DPut H D y v H')
    (ry : RelV y u) (rv : RelV v r) (h : ∀ s', Inv X pins σ H' s' → Q () s') : wpAny (model X.prog X.w) X.A (dictSet D u r) Q E s := by
  rcases g with ⟨kvs, k, e, ey, l, eH⟩ | ⟨kvs, k, b, e, ey, eb, l, eH⟩
  · subst ey eH
    exact d_dictSet I e l ry rv h
  · subst ey eH
    cases (show u = Value.ref b from ry)
    obtain ⟨z, hd, xs, rel, dd⟩ := dt_of I.hok e
    have hz : xs.length ≤ sizeLine := by rw [← Paired.length rel]; exact z
    have hl : (putK kvs k v).length ≤ sizeLine := by have := length_putK kvs k v; omega
    refine wpAny_dictSet_heap (hsz := hz) hu (key_of I.hok eb) dd fun h' dd' hs => h _ ?_
    obtain ⟨q, es, ep, hq, h2, h3, h4, _, h5⟩ := dd'
    refine d_write I (by rw [e]; exact True.intro) hs ⟨q, hq⟩ ⟨hl, hd, _, (rel.put k eb rv).keeps fun c ys ec => ?_, q, es, ep, hq, h2, h3, h4, h5⟩
    rw [upd_ne (ne_of ec e (fun z => nomatch z))]
    exact ec
theorem tail_leafD {Y : Cx} {kx vx : Expr} {tk tv : TE} {D : Addr} (hx : Y.xe = NoE) (hu : Y.A.units < cLine) (hk : PE Y kx tk) (hv : PE Y vx tv) : TailOk Y (runE Y.prog Y.w Y.A (emitD kx vx D Y.env)) (tLeafD tk tv D) [] := fun pins s σ H Nx K I q fin => by
  have p := hk.run pins s σ H _ I q
  rw [hx] at p
  unfold runE emitD
  refine wpAny_bind (thnF p fun z s10 ⟨yk, H10, I10, r10, q10⟩ => wpAny_bind (wpAny_holding ?_))
  have p2 := hv.run pins s10 σ H10 _ I10 q10
  rw [hx] at p2
  refine thnF p2 fun z2 s11 ⟨yv, H11, I11, r11, H6, g, nx⟩ => wpAny_bind (wpAny_standAt (wpAny_holding ?_))
  exact d_dictPut hu I11 g r10 r11 fun s12 I12 => fin _ _ _ I12 rfl (fun _ _ _ e => e) nx
theorem newL : New (newList []) { cls := .type "list", data := .seq ([] : List Value).toArray } (.lst []) :=
  ⟨fun prog w A E Q s h => wpAny_newObj_type h (by show 0 ≤ sizeLine; decide), fun P w H h _ => ⟨Nat.zero_le _, [], 0, .nil, Heap.get?_push_size _ rfl⟩⟩
theorem newK : New newDict { cls := .type "dict", data := .dict #[] } (.dK []) := ⟨fun prog w A E Q s h => wpAny_newObj_type h, fun P w H h b => dk_empty h b⟩
theorem newT : New newDict { cls := .type "dict", data := .dict #[] } (.dT []) := ⟨fun prog w A E Q s h => wpAny_newObj_type h, fun P w H h b => dt_empty h b⟩

/-! ### a comprehension, to be used in any way -/
structure PComp (X : Cx) (go : Option (Value → Sem Unit) → Sem Value) (t : TE) : Prop where
  run : ∀ (pins : List (Addr × Obj)) (s : Shared) (σ : St) (H : Hp) (Q : VK) (use : Option (Value → Sem Unit)) (Qf : Value → Shared → Prop), Inv X pins σ H s → t σ H Q →
    (∀ D C s' m H', Inv X pins σ H' s' → Q (.ref D) H' → s'.heap.Ns C m → FpOk X pins H' C → compPost (model X.prog X.w) X.A X.xe use Qf (.ref D) C (.ok .next) s') → wpAny (model X.prog X.w) X.A (go use) Qf X.xe s
theorem pe_of {e : Expr} {go : Option (Value → Sem Unit) → Sem Value} {t : TE} (C : PComp X go t) (h : eval e X.env = go none) : PE X e t := by
  refine ⟨fun pins s σ H Q I h0 => ?_⟩
  rw [h]
  refine C.run pins s σ H Q none _ I h0 fun D C s' m H' I' q hn f => ⟨m, hn, fun h'' sb => ?_⟩
  obtain ⟨f0, f1, f2, f3, f4, f5⟩ := f
  exact ⟨.ref D, H', I'.turned (t' := s'.toks) (fun b o hb e => (sb.2 b hb).trans e) f0 f1 f3 f4 f5, rfl, q⟩
theorem ps_of {e : Expr} {go : Option (Value → Sem Unit) → Sem Value} {t : TE} {i : Nat} {y : Str} {py spos : Pos} (C : PComp X go t) (hN : X.N.Nodup) (hy : X.N[i]? = some y) (hyl : X.env.scope.names.lookup y = some .local)
    (hsw : swapsWith e (some (.Name y py)) spos.line X.env = pure true) (h : evalThenUse e X.env (assign (.Name y py) X.env) = (do let _ ← go (some (assign (.Name y py) X.env)))) : PS X (.Assign [.Name y py] e spos) (tAsg t (gName i)) := by
  refine ⟨fun pins s σ H D I h0 => ?_⟩
  rw [exec_Assign_Name_used _ _ _ _ hsw]
  refine wpAny_bind (wpAny_standAt (wpAny_bind ?_))
  rw [h]
  have h0 : t σ H (fun x H1 => gName i x σ H1 D.nx) := h0
  refine wpAny_bind (thn (C.run pins s σ H _ (some (assign (.Name y py) X.env)) (fun _ s' => SP X pins D .next s') I h0 fun L C s' m H' I' q hn f => ?_) fun _ s' hq => wpAny_pure (wpAny_pure hq))
  show wpAny _ _ (assign (.Name y py) X.env (.ref L)) _ _ _
  refine wpAny_assign_Name (store_ok2 (v := V.ref L) I' hN hy (.inl hyl) rfl (fun s2 I2 ⟨a, sb, ha⟩ => ?_) (.inr hyl))
  obtain ⟨f0, f1, f2, f3, f4, f5⟩ := f
  have haC : C ≠ a := by
    rcases ha with z | z
    · rw [z]; exact f1
    · exact fun e => f4 y a z e.symm
  refine ⟨m, hn.sameBut sb haC, fun h3 sb3 => ?_⟩
  exact ⟨_, H', I2.turned (t' := s2.toks) (fun b o hb e => (sb3.2 b hb).trans e) f0 f1 f3 f4 f5, q⟩
abbrev B (X : Cx) (s : Shared) (H : Hp) (scope : Scope) (C : Addr) (cl : List (Str × Addr)) (fp : List Addr) : Cx := X.blk s H scope (compEnvC scope cl C X.env) fp
abbrev goL (X : Cx) (e : Expr) (gs : List Comprehension) (scope : Scope) (pos : Pos) (iter : Expr) : Option (Value → Sem Unit) → Sem Value := fun use => comprehension e scope X.env (firstIterPos gs pos) (newList []) false (eval iter X.env) use
abbrev goD (X : Cx) (e : Expr) (gs : List Comprehension) (scope : Scope) (pos : Pos) (iter : Expr) : Option (Value → Sem Unit) → Sem Value := fun use => comprehension e scope X.env (firstIterPos gs pos) newDict false (eval iter X.env) use
section
variable {elt kx vx tg iter tg1 iter1 tg2 iter2 : Expr} {ifs ifs1 ifs2 : List Expr} {scope : Scope} {own : List (Str × Nat)} {vs1 vs2 : List Nat} {pos : Pos} {wi wi1 wi2 : TI} {g g1 g2 : TG} {tt tt1 tt2 : TT} {te tk tv : TE}
theorem pc_l1 (hc : X.calm = true) (hN : X.N.Nodup) (hi : PI X tg iter wi) (ok : BlkOk X.N X.env.scope scope own)
    (hg : ∀ s H C cl fp, PG (B X s H scope C cl fp) tg g) (ht : ∀ s H C cl fp, PTs (B X s H scope C cl fp) ifs tt) (he : ∀ s H C cl fp, PE (B X s H scope C cl fp) elt te)
    (hs : ∀ x, foldedSetIterable iter X.env x = pure x := by intro _; rfl) : PComp X (goL X (.ListComp elt [⟨tg, iter, ifs, 0⟩] scope pos) [⟨tg, iter, ifs, 0⟩] scope pos iter) (tComp (.lst []) wi g tt (tLeafL te) (own.map (·.2))) := by
  refine ⟨fun pins s σ H Q use Qf I h hRR => ?_⟩
  refine comp_core (vs1 := []) (run := fun D env => runE X.prog X.w X.A (emitL elt (.ref D) env)) hc hN I hi ok rfl ⟨rfl, fun _ _ _ _ => rfl, fun _ _ _ _ => rfl, fun _ _ _ _ _ => rfl, fun _ _ _ _ _ => rfl⟩ newL
    (fun D env => ⟨fun it => ⟨_, by rfl, fun K E s q => yesE K E s q⟩⟩) hg ht (fun D s H C cl fp => tail_leafL rfl (he s H C cl fp)) (fun i h => absurd h (by simp)) hs h hRR
theorem pc_d1 {o0 : HO} (hn : o0 = .dK [] ∨ o0 = .dT []) (hc : X.calm = true) (hu : X.A.units < cLine) (hN : X.N.Nodup) (hi : PI X tg iter wi) (ok : BlkOk X.N X.env.scope scope own)
    (hg : ∀ s H C cl fp, PG (B X s H scope C cl fp) tg g) (ht : ∀ s H C cl fp, PTs (B X s H scope C cl fp) ifs tt) (hk : ∀ s H C cl fp, PE (B X s H scope C cl fp) kx tk) (he : ∀ s H C cl fp, PE (B X s H scope C cl fp) vx tv)
    (hs : ∀ x, foldedSetIterable iter X.env x = pure x := by intro _; rfl) : PComp X (goD X (.DictComp kx vx [⟨tg, iter, ifs, 0⟩] scope pos) [⟨tg, iter, ifs, 0⟩] scope pos iter) (tComp o0 wi g tt (tLeafD tk tv) (own.map (·.2))) := by
  have hnew : New newDict { cls := .type "dict", data := .dict #[] } o0 := by
    rcases hn with e | e
    · rw [e]; exact newK
    · rw [e]; exact newT
  refine ⟨fun pins s σ H Q use Qf I h hRR => ?_⟩
  refine comp_core (vs1 := []) (run := fun D env => runE X.prog X.w X.A (emitD kx vx D env)) (ob := { cls := .type "dict", data := .dict #[] }) hc hN I hi ok rfl ⟨rfl, fun _ _ _ _ => rfl, fun _ _ _ _ => rfl, fun _ _ _ _ _ => rfl, fun _ _ _ _ _ => rfl⟩ hnew
    (fun D env => ⟨fun it => ⟨_, by rfl, fun K E s q => yesE K E s q⟩⟩) hg ht (fun D s H C cl fp => tail_leafD rfl hu (hk s H C cl fp) (he s H C cl fp)) (fun i h => absurd h (by simp)) hs h hRR
theorem pc_l2 (hc : X.calm = true) (hN : X.N.Nodup) (hi : PI X tg iter wi) (ok : BlkOk X.N X.env.scope scope own) (hv1 : ∀ i ∈ vs1, i ∈ own.map (·.2))
    (hg : ∀ s H C cl fp, PG (B X s H scope C cl fp) tg g) (ht : ∀ s H C cl fp, PTs (B X s H scope C cl fp) ifs tt)
    (hi1 : ∀ s H C cl fp, PI (B X s H scope C cl fp) tg1 iter1 wi1) (hg1 : ∀ s H C cl fp, PG (B X s H scope C cl fp) tg1 g1) (ht1 : ∀ s H C cl fp, PTs (B X s H scope C cl fp) ifs1 tt1)
    (he : ∀ s H C cl fp, PE (B X s H scope C cl fp) elt te)
    (hs : ∀ x, foldedSetIterable iter X.env x = pure x := by intro _; rfl) (hs1 : ∀ env x, foldedSetIterable iter1 env x = pure x := by intro _ _; rfl) :
    PComp X (goL X (.ListComp elt [⟨tg, iter, ifs, 0⟩, ⟨tg1, iter1, ifs1, 0⟩] scope pos) [⟨tg, iter, ifs, 0⟩, ⟨tg1, iter1, ifs1, 0⟩] scope pos iter) (tComp (.lst []) wi g tt (fun D => tCl wi1 g1 tt1 (tLeafL te D) vs1) (own.map (·.2))) := by
  refine ⟨fun pins s σ H Q use Qf I h hRR => ?_⟩
  refine comp_core (vs1 := vs1) (run := fun D env => runC X.prog X.w X.A _ 0 (.ref D) env iter1) hc hN I hi ok rfl ⟨rfl, fun _ _ _ _ => rfl, fun _ _ _ _ => rfl, fun _ _ _ _ _ => rfl, fun _ _ _ _ _ => rfl⟩ newL
    (fun D env => ⟨fun it => ⟨tailN _ 0 it _ _ _, by rfl, fun K E s q => yesC (hs1 env) K E s q⟩⟩) hg ht (fun D s H C cl fp => ?_) hv1 hs h hRR
  exact tail_clause (vs2 := []) hc rfl ⟨rfl, fun _ _ _ _ => rfl, fun _ _ _ _ => rfl, fun _ _ _ _ _ => rfl, fun _ _ _ _ _ => rfl⟩ ⟨fun it => ⟨_, by rfl, fun K E s q => yesE K E s q⟩⟩ (hi1 s H C cl fp) (hg1 s H C cl fp) (ht1 s H C cl fp) (tail_leafL rfl (he s H C cl fp)) (fun i h => absurd h (by simp))
theorem pc_l3 (hc : X.calm = true) (hN : X.N.Nodup) (hi : PI X tg iter wi) (ok : BlkOk X.N X.env.scope scope own) (hv1 : ∀ i ∈ vs1, i ∈ own.map (·.2)) (hv2 : ∀ i ∈ vs2, i ∈ vs1)
    (hg : ∀ s H C cl fp, PG (B X s H scope C cl fp) tg g) (ht : ∀ s H C cl fp, PTs (B X s H scope C cl fp) ifs tt)
    (hi1 : ∀ s H C cl fp, PI (B X s H scope C cl fp) tg1 iter1 wi1) (hg1 : ∀ s H C cl fp, PG (B X s H scope C cl fp) tg1 g1) (ht1 : ∀ s H C cl fp, PTs (B X s H scope C cl fp) ifs1 tt1)
    (hi2 : ∀ s H C cl fp, PI (B X s H scope C cl fp) tg2 iter2 wi2) (hg2 : ∀ s H C cl fp, PG (B X s H scope C cl fp) tg2 g2) (ht2 : ∀ s H C cl fp, PTs (B X s H scope C cl fp) ifs2 tt2)
    (he : ∀ s H C cl fp, PE (B X s H scope C cl fp) elt te)
    (hs : ∀ x, foldedSetIterable iter X.env x = pure x := by intro _; rfl) (hs1 : ∀ env x, foldedSetIterable iter1 env x = pure x := by intro _ _; rfl) (hs2 : ∀ env x, foldedSetIterable iter2 env x = pure x := by intro _ _; rfl) :
    PComp X (goL X (.ListComp elt [⟨tg, iter, ifs, 0⟩, ⟨tg1, iter1, ifs1, 0⟩, ⟨tg2, iter2, ifs2, 0⟩] scope pos) [⟨tg, iter, ifs, 0⟩, ⟨tg1, iter1, ifs1, 0⟩, ⟨tg2, iter2, ifs2, 0⟩] scope pos iter) (tComp (.lst []) wi g tt (fun D => tCl wi1 g1 tt1 (tCl wi2 g2 tt2 (tLeafL te D) vs2) vs1) (own.map (·.2))) := by
  refine ⟨fun pins s σ H Q use Qf I h hRR => ?_⟩
  refine comp_core (vs1 := vs1) (run := fun D env => runC X.prog X.w X.A _ 0 (.ref D) env iter1) hc hN I hi ok rfl ⟨rfl, fun _ _ _ _ => rfl, fun _ _ _ _ => rfl, fun _ _ _ _ _ => rfl, fun _ _ _ _ _ => rfl⟩ newL
    (fun D env => ⟨fun it => ⟨tailN _ 0 it _ _ _, by rfl, fun K E s q => yesC (hs1 env) K E s q⟩⟩) hg ht (fun D s H C cl fp => ?_) hv1 hs h hRR
  refine tail_clause (vs2 := vs2) (run := runC X.prog X.w X.A _ 1 (.ref D) (compEnvC scope cl C X.env) iter2) hc rfl ⟨rfl, fun _ _ _ _ => rfl, fun _ _ _ _ => rfl, fun _ _ _ _ _ => rfl, fun _ _ _ _ _ => rfl⟩ ⟨fun it => ⟨tailN _ 1 it _ _ _, by rfl, fun K E s q => yesC (hs2 _) K E s q⟩⟩ (hi1 s H C cl fp) (hg1 s H C cl fp) (ht1 s H C cl fp) ?_ hv2
  exact tail_clause (vs2 := []) hc rfl ⟨rfl, fun _ _ _ _ => rfl, fun _ _ _ _ => rfl, fun _ _ _ _ _ => rfl, fun _ _ _ _ _ => rfl⟩ ⟨fun it => ⟨_, by rfl, fun K E s q => yesE K E s q⟩⟩ (hi2 s H C cl fp) (hg2 s H C cl fp) (ht2 s H C cl fp) (tail_leafL rfl (he s H C cl fp)) (fun i h => absurd h (by simp))
end
end
theorem sw_truex {elt : Expr} {gs : List Comprehension} {scope : Scope} {pos py : Pos} {y : Str} {l : Nat} {env : PySem.Env} (hk : env.scope.kind = .function) (hy : env.scope.names.lookup y = some .local) (hl : (py.line == pos.line) = true)
    (ha : (scope.names.any fun (n, k) => n == y && (k == .local || k == .cell)) = false) : swapsWith (.ListComp elt gs scope pos) (some (.Name y py)) l env = pure true := sw_true hk hy hl ha
end NC

end PART_NC
section PART_NB7
set_option Elab.async false
set_option linter.all false
set_option maxRecDepth 100000
set_option maxHeartbeats 4000000
set_option autoImplicit false
/-! NB7: comprehensions of any clauses over data; dicts; locks. -/
namespace NB
open PySem PySem.Spec PyProof.Rows L2 NC
abbrev St' : Type := L2.St

/-- other things may change, too -/
theorem OwnOk.le2 {K : PySem.W.Frag} {M O : List Addr} {H H' : Hp} {l : Addr} {s : Sl} (h : OwnOk K O H l s) (le : Le M H H') (sub : ∀ a ∈ M, a ∈ O) (hl : l ∉ M) : OwnOk K O H' l s := h.le le sub hl
theorem EnvOk.le2 {S : Sys} {M O : List Addr} {ρ : DEnv} {σ : L2.St} {H H' : Hp} (I : EnvOk S O ρ σ H) (le : Le M H H') (sub : ∀ a ∈ M, a ∈ O) (out : ∀ i l, OwnAt ρ σ l i → l ∉ M) (live : ∀ a ∈ O, H' a ≠ none) (t : S.T H') : EnvOk S O ρ σ H' where
  len := I.len
  t := t
  sub := I.sub
  live := live
  at_ := fun i s hs => by
    obtain ⟨v, hv, ok⟩ := I.at_ i s hs
    refine ⟨v, hv, ?_⟩
    cases s with
    | dat d => exact Is.ex (hid_le le sub) ok
    | own xs =>
      obtain ⟨l, rfl, hl, q⟩ := ok
      exact ⟨l, rfl, hl, q.le le sub (out i l ⟨_, hs, rfl, hv⟩)⟩
    | ownK xs =>
      obtain ⟨l, rfl, hl, q⟩ := ok
      exact ⟨l, rfl, hl, q.le le sub (out i l ⟨_, hs, rfl, hv⟩)⟩
    | ownT xs =>
      obtain ⟨l, rfl, hl, q⟩ := ok
      exact ⟨l, rfl, hl, q.le le sub (out i l ⟨_, hs, rfl, hv⟩)⟩
    | ownI b C fs =>
      obtain ⟨l, rfl, hl, q⟩ := ok
      exact ⟨l, rfl, hl, q.le le sub (out i l ⟨_, hs, rfl, hv⟩)⟩
  dis := I.dis
  outM := I.outM
  xk := I.xk.le le sub
/-- what a tail does to the object D that is being made -/
def Tl (S : Sys) (tl : Addr → L2.St → Hp → (Hp → Prop) → Prop) (ρ : DEnv) (s : Sl) (Q : Sl → Prop) : Prop :=
  ∀ O σ H, EnvOk S O ρ σ H → ∀ D, D ∈ O → D ∉ S.M → (∀ i l, OwnAt ρ σ l i → l ≠ D) → OwnOk S.K O H D s → ∀ Nx : Hp → Prop,
    (∀ H' s', Le (D :: S.M) H H' → S.T H' → (∀ a ∈ O, H' a ≠ none) → OwnOk S.K O H' D s' → Q s' → Nx H') → tl D σ H Nx
section
variable {S : Sys} {ρ : DEnv} {te tk tv : TE} {tt : TT} {tl : Addr → L2.St → Hp → (Hp → Prop) → Prop} {vs : List Nat} {wi : TI} {g : TG}
theorem Tl.imp {s : Sl} {Q Q' : Sl → Prop} (h : Tl S tl ρ s Q) (q : ∀ s, Q s → Q' s) : Tl S tl ρ s Q' := fun O σ H I D m n o k Nx f => h O σ H I D m n o k Nx fun H' s' a b c d e => f H' s' a b c d (q _ e)
theorem live_upd {O : List Addr} {H : Hp} {D : Addr} {o : HO} (l : ∀ a ∈ O, H a ≠ none) : ∀ a ∈ O, upd H D o a ≠ none := fun a ha => by
  by_cases e : a = D
  · subst e; rw [upd_same]; exact fun z => by cases z
  · rw [upd_ne e]; exact l a ha
theorem hid_upd {O : List Addr} {H : Hp} {D : Addr} {o : HO} (hD : D ∈ O) : ∀ a u, hid O H a = some u → hid O (upd H D o) a = some u := fun a u e => by
  obtain ⟨n, e⟩ := hid_some e
  rw [hid_out n, upd_ne fun z => n (by rw [z]; exact hD)]
  exact e
theorem le_cons {D : Addr} {M : List Addr} {H H' : Hp} (l : Le M H H') : Le (D :: M) H H' := fun a o n e => l a o (fun m => n (List.mem_cons_of_mem _ m)) e
theorem le_upd {D : Addr} {M : List Addr} {H H' : Hp} {o : HO} (l : Le (D :: M) H H') : Le (D :: M) H (upd H' D o) := fun a u n e => by
  rw [upd_ne fun z => n (by rw [z]; exact List.mem_cons_self)]
  exact l a u n e
theorem tl_leafL {xs : List D} {Q : Sl → Prop} (h : Ev S te ρ fun y => xs.length < sizeLine ∧ Q (.own (xs ++ [y]))) : Tl S (tLeafL te) ρ (.own xs) Q := fun O σ H I D hD nM nO ⟨vs, e, is⟩ Nx k => by
  refine h O σ H I _ fun y v H1 l1 t1 i1 ⟨hz, q⟩ => ?_
  have e1 := l1 _ _ nM e
  have is1 := is.ex (hid_le l1 I.sub)
  refine ⟨vs, e1, by rw [is.length]; exact hz, ?_⟩
  exact k _ (.own (xs ++ [y])) (le_upd (le_cons l1)) (S.upd_own t1 nM (fun _ z => by rw [e1] at z; cases z)) (live_upd (I.le l1 t1).live) ⟨_, upd_same, Iss.append (is1.ex (hid_upd hD)) (.cons (i1.ex (hid_upd hD)) .nil)⟩ q
/-- one more clause -/
theorem tl_clause {s : Sl} {Q : Sl → Prop} (h : EvI S wi ρ fun xs => ∃ J : Nat → Sl → Prop, J 0 s ∧ (∀ i x s', xs[i]? = some x → J i s' → EvG S vs g (wipeD ρ vs) x fun ρ1 => EvT S tt ρ1 fun b => if b = true then Tl S tl ρ1 s' (J (i + 1)) else J (i + 1) s') ∧ ∀ s', J xs.length s' → Q s') :
    Tl S (fun D => tCl wi g tt (tl D) vs) ρ s Q := fun O σ H I D hD nM nO ok Nx k => by
  refine h O σ H I _ fun Jt xs H1 l1 t1 W ⟨J, j0, hs, he⟩ => ?_
  have I1 := I.le l1 t1
  refine ⟨fun i m H2 => m = xs.length - i ∧ i ≤ xs.length ∧ ∃ s', Le (D :: S.M) H1 H2 ∧ S.T H2 ∧ (∀ a ∈ O, H2 a ≠ none) ∧ OwnOk S.K O H2 D s' ∧ J i s', ⟨_, rfl, Nat.zero_le _, s, Le.refl _ _, t1, I1.live, ok.le l1 I.sub nM, j0⟩, ?_⟩
  rintro i m H2 ⟨rfl, hi, s', l2, t2, lv2, ok2, j2⟩
  have leO : Le O H1 H2 := fun a o ha e => l2 a o (by
    simp only [List.mem_cons, not_or]
    exact ⟨fun z => ha (by rw [z]; exact hD), fun m => ha (I.sub a m)⟩) e
  by_cases hlt : i < xs.length
  · refine .inr ⟨W.goes i H2 hlt leO, fun H' => ∃ s', Le (D :: S.M) H1 H' ∧ S.T H' ∧ (∀ a ∈ O, H' a ≠ none) ∧ OwnOk S.K O H' D s' ∧ J (i + 1) s', fun H' q => ⟨_, by omega, rfl, hlt, q⟩, fun x H3 y => ?_⟩
    obtain ⟨s3, d, hd, hx⟩ := W.yields i H2 x H3 hlt leO y
    have nM' : ∀ a ∈ D :: S.M, a ∈ O := fun a ha => by
      rcases List.mem_cons.mp ha with rfl | ha
      · exact hD
      · exact I.sub a ha
    have out : ∀ i l, OwnAt ρ σ l i → l ∉ D :: S.M := fun i l o => by
      simp only [List.mem_cons, not_or]
      exact ⟨nO i l o, I.outM i l o⟩
    have l3 : Le (D :: S.M) H1 H3 := l2.trans (Le.same s3)
    have t3 := S.same _ _ s3 t2
    have lv3 : ∀ a ∈ O, H3 a ≠ none := fun a ha e => by
      cases q : H2 a with
      | none => exact lv2 a ha q
      | some o => rw [s3 a o q] at e; cases e
    have I3 : EnvOk S O ρ σ H3 := I1.le2 l3 nM' out lv3 t3
    have own : ∀ i l, OwnAt (wipeD ρ vs) (L2.wipe σ vs) l i → OwnAt ρ σ l i := fun i l ⟨s, h1, h2, h3⟩ => ⟨s, (wipeD_some h1).1, h2, (wipe_some h3).1⟩
    have ix : Is S.K (hid O H3) x d := hx O (fun a ha => .inl ha) lv2
    have ok3 : OwnOk S.K O H3 D s' := ok2.le (M := []) (Le.same s3) (fun a h => absurd h (by simp)) (by simp)
    refine hs i d s' hd j2 O _ H3 x (I3.wiped vs) ix _ fun ρ1 σ1 I4 w4 o4 h4 => ⟨?_, ?_⟩
    · rw [w4, wipe_idem]
    · refine h4 O σ1 H3 I4 _ fun b H4 l4 t4 h5 => ?_
      have ok4 : OwnOk S.K O H4 D s' := ok3.le l4 I.sub nM
      have I5 := I4.le l4 t4
      cases b with
      | false => exact ⟨s', l3.trans (le_cons l4), t4, I5.live, ok4, h5⟩
      | true =>
        refine h5 O σ1 H4 I5 D hD nM (fun i l o => nO i l (own i l (o4 i l o))) ok4 _ fun H5 s5 l5 t5 lv5 ok5 j5 => ?_
        exact ⟨s5, (l3.trans (le_cons l4)).trans l5, t5, lv5, ok5, j5⟩
  · have hi' : i = xs.length := by omega
    subst hi'
    refine .inl ⟨W.stops H2 leO, ?_⟩
    exact k H2 s' ((le_cons l1).trans l2) t2 lv2 ok2 (he s' j2)

/-- what a comprehension starts with -/
inductive New0 : HO → Sl → Prop
  | lst : New0 (.lst []) (.own [])
  | dK : New0 (.dK []) (.ownK [])
  | dT : New0 (.dT []) (.ownT [])
theorem New0.ok {o : HO} {s : Sl} (h : New0 o s) {K : PySem.W.Frag} {O : List Addr} {H : Hp} {D : Addr} : OwnOk K O (upd H D o) D s := by
  cases h with
  | lst => exact ⟨[], upd_same, .nil⟩
  | dK => exact ⟨[], upd_same, rfl, .nil⟩
  | dT => exact ⟨[], upd_same, rfl, .nil⟩
/-- an owned object that is let go is data -/
theorem OwnOk.data {K : PySem.W.Frag} {O : List Addr} {H : Hp} {D : Addr} {s : Sl} (nD : D ∉ O) (h : OwnOk K (D :: O) H D s) (ho : s.isOwn = true) : Is K (hid O H) (.ref D) s.d := by
  have sub : ∀ a ∈ O, a ∈ D :: O := fun a ha => List.mem_cons_of_mem _ ha
  have at_ : hid O H D = H D := hid_out nD
  cases s with
  | dat d => cases ho
  | own xs =>
    obtain ⟨vs, e, is⟩ := h
    exact .lst (by rw [at_]; exact e) (is.ex (hid_sub sub))
  | ownK kvs =>
    obtain ⟨us, e, ke, is⟩ := h
    exact .dK (.inl (by rw [at_]; exact e)) ke (is.ex (hid_sub sub))
  | ownT kvs =>
    obtain ⟨us, e, ke, is⟩ := h
    exact .dT (.inl (by rw [at_]; exact e)) ke (is.ex (hid_sub sub))
  | ownI b C fs =>
    obtain ⟨eb, dx, us, e, ke, is⟩ := h
    exact .obj (by rw [at_]; exact e) ke (is.ex (hid_sub sub))
theorem isOwn_ne {s : Sl} {K : PySem.W.Frag} {O : List Addr} {H : Hp} {D : Addr} (h : OwnOk K O H D s) : s.isOwn = true := by
  cases s <;> first | rfl | exact h.elim
/-- a comprehension, its turns by J -/
theorem ev_comp {o0 : HO} {s0 : Sl} {Q : D → Prop} (n0 : New0 o0 s0)
    (h : EvI S wi ρ fun xs => ∃ J : Nat → Sl → Prop, J 0 s0 ∧ (∀ i x s', xs[i]? = some x → J i s' → EvG S vs g (wipeD ρ vs) x fun ρ1 => EvT S tt ρ1 fun b => if b = true then Tl S tl ρ1 s' (J (i + 1)) else J (i + 1) s') ∧ ∀ s', J xs.length s' → Q s'.d) :
    Ev S (tComp o0 wi g tt tl vs) ρ Q := fun O σ H I Qv k => by
  refine h O σ H I _ fun Jt xs H1 l1 t1 W ⟨J, j0, hs, he⟩ => ?_
  intro D hD
  have I1 := I.le l1 t1
  have nD : D ∉ O := fun m => I1.live D m hD
  have nM : D ∉ S.M := fun m => nD (I.sub D m)
  have own : ∀ i l, OwnAt (wipeD ρ vs) (L2.wipe σ vs) l i → OwnAt ρ σ l i := fun i l ⟨s, h1, h2, h3⟩ => ⟨s, (wipeD_some h1).1, h2, (wipe_some h3).1⟩
  have nO : ∀ i l, OwnAt ρ σ l i → l ≠ D := fun i l ⟨s, h1, h2, h3⟩ z => by
    subst z
    obtain ⟨v, hv, ok⟩ := I1.at_ i s h1
    rw [h3] at hv
    cases hv
    cases s with
    | dat d => cases h2
    | own xs => obtain ⟨l', e, m, _⟩ := ok; cases e; exact nD m
    | ownK xs => obtain ⟨l', e, m, _⟩ := ok; cases e; exact nD m
    | ownT xs => obtain ⟨l', e, m, _⟩ := ok; cases e; exact nD m
    | ownI b C fs => obtain ⟨l', e, m, _⟩ := ok; cases e; exact nD m
  have lD : Le S.M H1 (upd H1 D o0) := Le.same (Same.upd hD)
  have tD := S.same _ _ (Same.upd (o := o0) hD) t1
  have ID : EnvOk S (D :: O) ρ σ (upd H1 D o0) := I1.owned hD (by rw [upd_same]; exact fun z => by cases z) (le_cons lD) tD
  refine ⟨fun i m H2 => m = xs.length - i ∧ i ≤ xs.length ∧ ∃ s', Le (D :: S.M) (upd H1 D o0) H2 ∧ S.T H2 ∧ (∀ a ∈ D :: O, H2 a ≠ none) ∧ OwnOk S.K (D :: O) H2 D s' ∧ J i s', ⟨_, rfl, Nat.zero_le _, s0, Le.refl _ _, tD, ID.live, n0.ok, j0⟩, ?_⟩
  rintro i m H2 ⟨rfl, hi, s', l2, t2, lv2, ok2, j2⟩
  have leO : Le O H1 H2 := fun a o ha e => l2 a o (by
    simp only [List.mem_cons, not_or]
    exact ⟨fun z => (by rw [z, hD] at e; cases e), fun m => ha (I.sub a m)⟩) (by rw [upd_ne fun z => by rw [z, hD] at e; cases e]; exact e)
  by_cases hlt : i < xs.length
  · refine .inr ⟨W.goes i H2 hlt leO, fun H' => ∃ s', Le (D :: S.M) (upd H1 D o0) H' ∧ S.T H' ∧ (∀ a ∈ D :: O, H' a ≠ none) ∧ OwnOk S.K (D :: O) H' D s' ∧ J (i + 1) s', fun H' q => ⟨_, by omega, rfl, hlt, q⟩, fun x H3 y => ?_⟩
    obtain ⟨s3, d, hd, hx⟩ := W.yields i H2 x H3 hlt leO y
    have hDO : D ∈ D :: O := List.mem_cons_self
    have nM' : ∀ a ∈ D :: S.M, a ∈ D :: O := fun a ha => by
      rcases List.mem_cons.mp ha with rfl | ha
      · exact hDO
      · exact List.mem_cons_of_mem _ (I.sub a ha)
    have out : ∀ i l, OwnAt ρ σ l i → l ∉ D :: S.M := fun i l o => by
      simp only [List.mem_cons, not_or]
      exact ⟨nO i l o, I.outM i l o⟩
    have l3 : Le (D :: S.M) (upd H1 D o0) H3 := l2.trans (Le.same s3)
    have t3 := S.same _ _ s3 t2
    have lv3 : ∀ a ∈ D :: O, H3 a ≠ none := fun a ha e => by
      cases q : H2 a with
      | none => exact lv2 a ha q
      | some o => rw [s3 a o q] at e; cases e
    have I3 : EnvOk S (D :: O) ρ σ H3 := ID.le2 l3 nM' out lv3 t3
    have ix : Is S.K (hid (D :: O) H3) x d := hx (D :: O) (fun a ha => by
      rcases List.mem_cons.mp ha with rfl | ha
      · exact .inr hD
      · exact .inl ha) lv2
    have ok3 : OwnOk S.K (D :: O) H3 D s' := ok2.le (M := []) (Le.same s3) (fun a h => absurd h (by simp)) (by simp)
    refine hs i d s' hd j2 (D :: O) _ H3 x (I3.wiped vs) ix _ fun ρ1 σ1 I4 w4 o4 h4 => ⟨?_, ?_⟩
    · rw [w4, wipe_idem]
    · refine h4 (D :: O) σ1 H3 I4 _ fun b H4 l4 t4 h5 => ?_
      have ok4 : OwnOk S.K (D :: O) H4 D s' := ok3.le l4 (fun a ha => List.mem_cons_of_mem _ (I.sub a ha)) nM
      have I5 := I4.le l4 t4
      cases b with
      | false => exact ⟨s', l3.trans (le_cons l4), t4, I5.live, ok4, h5⟩
      | true =>
        refine h5 (D :: O) σ1 H4 I5 D hDO nM (fun i l o => nO i l (own i l (o4 i l o))) ok4 _ fun H5 s5 l5 t5 lv5 ok5 j5 => ?_
        exact ⟨s5, (l3.trans (le_cons l4)).trans l5, t5, lv5, ok5, j5⟩
  · have hi' : i = xs.length := by omega
    subst hi'
    refine .inl ⟨W.stops H2 leO, ?_⟩
    have lf : Le S.M H1 H2 := fun a o n e => l2 a o (by
      simp only [List.mem_cons, not_or]
      exact ⟨fun z => (by rw [z, hD] at e; cases e), n⟩) (by rw [upd_ne fun z => by rw [z, hD] at e; cases e]; exact e)
    exact k _ _ H2 (l1.trans lf) t2 (ok2.data nD (isOwn_ne ok2)) (he s' j2)
/-! ### lists: what is appended is known -/
def TlL (S : Sys) (tl : Addr → L2.St → Hp → (Hp → Prop) → Prop) (ρ : DEnv) (ys : List D) : Prop := ∀ acc : List D, acc.length + ys.length ≤ sizeLine → Tl S tl ρ (.own acc) fun s => s = .own (acc ++ ys)
theorem tll_leaf {ys : List D} (h : Ev S te ρ fun y => ys = [y]) : TlL S (tLeafL te) ρ ys := fun acc hz => tl_leafL (h.imp fun y e => by
  subst e
  exact ⟨Nat.lt_of_succ_le (by simpa using hz), rfl⟩)
/-- what a clause asks -/
def ClGoal (S : Sys) (tl : Addr → L2.St → Hp → (Hp → Prop) → Prop) (ρ : DEnv) (g : TG) (tt : TT) (vs : List Nat) (ys : List D) (xs0 : List D) : Prop :=
  ∃ (α : Type) (xs : List α) (src : α → D) (F : α → List D), xs0 = xs.map src ∧ (∀ a ∈ xs, EvG S vs g (wipeD ρ vs) (src a) fun ρ1 => EvT S tt ρ1 fun b => if b = true then TlL S tl ρ1 (F a) else F a = []) ∧ ys = xs.flatMap F
theorem flatMap_take_le {α : Type} (F : α → List D) (xs : List α) (i : Nat) : ((xs.take i).flatMap F).length ≤ (xs.flatMap F).length := by
  conv => rhs; rw [← List.take_append_drop i xs, List.flatMap_append, List.length_append]
  omega
theorem clGoal_J {ys xs0 : List D} (h : ClGoal S tl ρ g tt vs ys xs0) (acc : List D) (hz : acc.length + ys.length ≤ sizeLine) : ∃ J : Nat → Sl → Prop, J 0 (.own acc) ∧
    (∀ i x s', xs0[i]? = some x → J i s' → EvG S vs g (wipeD ρ vs) x fun ρ1 => EvT S tt ρ1 fun b => if b = true then Tl S tl ρ1 s' (J (i + 1)) else J (i + 1) s') ∧ ∀ s', J xs0.length s' → s' = .own (acc ++ ys) := by
  obtain ⟨α, xs, src, F, rfl, hs, rfl⟩ := h
  refine ⟨fun i s => s = .own (acc ++ (xs.take i).flatMap F), by simp, fun i x s' hx e => ?_, fun s' e => ?_⟩
  · subst e
    obtain ⟨a, ha, rfl⟩ : ∃ a, xs[i]? = some a ∧ x = src a := by
      rw [List.getElem?_map] at hx
      cases q : xs[i]? with
      | none => rw [q] at hx; cases hx
      | some a => rw [q] at hx; exact ⟨a, rfl, (Option.some.inj hx).symm⟩
    have hn : (xs.take (i + 1)).flatMap F = (xs.take i).flatMap F ++ F a := by rw [take_snoc ha, List.flatMap_append]; simp
    have hl := flatMap_take_le F xs (i + 1)
    rw [hn, List.length_append] at hl
    intro O σ H v I ix Qs k
    refine hs a (List.mem_of_getElem? ha) O σ H v I ix Qs fun ρ' σ' I' w o q => k ρ' σ' I' w o (q.imp fun b hb => ?_)
    cases b with
    | true =>
      rw [if_pos rfl] at hb ⊢
      refine (hb (acc ++ (xs.take i).flatMap F) (by rw [List.length_append]; omega)).imp fun s e => ?_
      show s = .own (acc ++ (xs.take (i + 1)).flatMap F)
      rw [hn, e, List.append_assoc]
    | false =>
      rw [if_neg Bool.false_ne_true] at hb ⊢
      show Sl.own (acc ++ (xs.take i).flatMap F) = .own (acc ++ (xs.take (i + 1)).flatMap F)
      rw [hn, hb, List.append_nil]
  · rw [e, List.length_map, List.take_length]
theorem tll_clause {ys : List D} (h : EvI S wi ρ (ClGoal S tl ρ g tt vs ys)) : TlL S (fun D => tCl wi g tt (tl D) vs) ρ ys := fun acc hz => tl_clause (fun O σ H I R k => h O σ H I R fun J xs H1 l t W q => k J xs H1 l t W (by
  obtain ⟨Jj, j0, j1, j2⟩ := clGoal_J q acc hz
  exact ⟨Jj, j0, j1, j2⟩))
theorem ev_compL {Q : D → Prop} {ys : List D} (hz : ys.length ≤ sizeLine) (q : Q (.lst ys)) (h : EvI S wi ρ (ClGoal S tl ρ g tt vs ys)) : Ev S (tComp (.lst []) wi g tt tl vs) ρ Q := ev_comp .lst (fun O σ H I R k => h O σ H I R fun J xs H1 l t W c => k J xs H1 l t W (by
  obtain ⟨Jj, j0, j1, j2⟩ := clGoal_J c [] (by simpa using hz)
  exact ⟨Jj, j0, j1, fun s' e => by
    rw [j2 s' e]
    simpa [Sl.d] using q⟩))
end
end NB

end PART_NB7
section PART_NB8
set_option Elab.async false
set_option linter.all false
set_option maxRecDepth 100000
set_option maxHeartbeats 4000000
set_option autoImplicit false
/-! NB8: trees of texts and ints: ==, in; dicts over data; locks; own instances. -/
namespace NB
open PySem PySem.Spec PyProof.Rows L2 NC

/-! ### trees of texts and ints -/
inductive Tm where
  | s (x : Str) | i (n : Int) | t (l : List Tm) | l (l : List Tm) | n
mutual
def tD : Tm → D
  | .s x => .str x
  | .i n => .int n
  | .n => .non
  | .t l => .tup (tDs l)
  | .l l => .lst (tDs l)
def tDs : List Tm → List D
  | [] => []
  | a :: r => tD a :: tDs r
end
mutual
def tP : Tm → PyData
  | .s x => .str x
  | .i n => .int n
  | .n => .none
  | .t l => .tuple (tPs l)
  | .l l => .list (tPs l)
def tPs : List Tm → List PyData
  | [] => []
  | a :: r => tP a :: tPs r
end
theorem tDs_map (l : List Tm) : tDs l = l.map tD := by
  induction l with
  | nil => rfl
  | cons a r ih => rw [tDs, ih, List.map_cons]
theorem tPs_map (l : List Tm) : tPs l = l.map tP := by
  induction l with
  | nil => rfl
  | cons a r ih => rw [tPs, ih, List.map_cons]

structure Lay (n : Nat) (a : Tm) : Prop where
  lay : PyData.canLay0 (tP a) = true
  dep : PyData.depth (tP a) ≤ n
theorem Lay.shaped {n : Nat} {a : Tm} (h : Lay n a) (hn : n ≤ 64 := by decide) : SeqAt.shaped (tP a) = true := by
  unfold SeqAt.shaped
  rw [h.lay, Bool.true_and]
  exact decide_eq_true (Nat.le_trans h.dep hn)
theorem lay_i (k : Int) (n : Nat) : Lay n (.i k) := ⟨rfl, Nat.zero_le _⟩
theorem lay_n (n : Nat) : Lay n .n := ⟨rfl, Nat.zero_le _⟩
theorem lays {n : Nat} : ∀ {l : List Tm}, (∀ a ∈ l, Lay n a) → PyData.canLayAll0 (tPs l) = true ∧ PyData.depthAll (tPs l) ≤ n
  | [], _ => ⟨rfl, Nat.zero_le _⟩
  | a :: r, h => by
    obtain ⟨h1, h2⟩ := lays fun x m => h x (List.mem_cons_of_mem _ m)
    obtain ⟨h3, h4⟩ := h a List.mem_cons_self
    unfold tPs PyData.canLayAll0 PyData.depthAll
    rw [h3, h1]
    exact ⟨rfl, Nat.max_le.mpr ⟨h4, h2⟩⟩
theorem lay_t {n : Nat} {l : List Tm} (h : ∀ a ∈ l, Lay n a) : Lay (n + 1) (.t l) := by
  obtain ⟨h1, h2⟩ := lays h
  refine ⟨?_, ?_⟩
  · unfold tP PyData.canLay0; exact h1
  · unfold tP PyData.depth; exact Nat.succ_le_succ h2
theorem lay_l {n : Nat} {l : List Tm} (h : ∀ a ∈ l, Lay n a) : Lay (n + 1) (.l l) := by
  obtain ⟨h1, h2⟩ := lays h
  refine ⟨?_, ?_⟩
  · unfold tP PyData.canLay0; exact h1
  · unfold tP PyData.depth; exact Nat.succ_le_succ h2
mutual
theorem eqv_tm : ∀ a b : Tm, PyData.eqv (tP a) (tP b) = true ↔ a = b
  | .s x, .s y => by simp [tP, PyData.eqv]
  | .n, .s y => by simp [tP, PyData.eqv]
  | .s y, .n => by simp [tP, PyData.eqv]
  | .n, .i y => by simp [tP, PyData.eqv]
  | .i y, .n => by simp [tP, PyData.eqv]
  | .n, .t y => by simp [tP, PyData.eqv]
  | .t y, .n => by simp [tP, PyData.eqv]
  | .n, .l y => by simp [tP, PyData.eqv]
  | .l y, .n => by simp [tP, PyData.eqv]
  | .n, .n => by simp [tP, PyData.eqv]
  | .s x, .i y => by simp [tP, PyData.eqv]
  | .s x, .t y => by simp [tP, PyData.eqv]
  | .s x, .l y => by simp [tP, PyData.eqv]
  | .i x, .s y => by simp [tP, PyData.eqv]
  | .i x, .i y => by simp [tP, PyData.eqv]
  | .i x, .t y => by simp [tP, PyData.eqv]
  | .i x, .l y => by simp [tP, PyData.eqv]
  | .t x, .s y => by simp [tP, PyData.eqv]
  | .t x, .i y => by simp [tP, PyData.eqv]
  | .t x, .t y => by
    have := eqvs_tm x y
    simp only [tP, PyData.eqv, this, Tm.t.injEq]
  | .t x, .l y => by simp [tP, PyData.eqv]
  | .l x, .s y => by simp [tP, PyData.eqv]
  | .l x, .i y => by simp [tP, PyData.eqv]
  | .l x, .t y => by simp [tP, PyData.eqv]
  | .l x, .l y => by
    have := eqvs_tm x y
    simp only [tP, PyData.eqv, this, Tm.l.injEq]
theorem eqvs_tm : ∀ a b : List Tm, PyData.eqvAll (tPs a) (tPs b) = true ↔ a = b
  | [], [] => by simp [tPs, PyData.eqvAll]
  | [], b :: bs => by simp [tPs, PyData.eqvAll]
  | a :: as, [] => by simp [tPs, PyData.eqvAll]
  | a :: as, b :: bs => by
    have h1 := eqv_tm a b
    have h2 := eqvs_tm as bs
    simp only [tPs, PyData.eqvAll, Bool.and_eq_true, h1, h2, List.cons.injEq]
end
section
variable {K : PySem.W.Frag} {Q : D → Prop}
mutual
theorem dp_of {O : List Addr} {H : Hp} : ∀ (a : Tm) (v : V), Is K (hid O H) v (tD a) → Dp K H v (tP a)
  | .s x, v, h => by
    obtain rfl := is_str h
    exact .str x
  | .i x, v, h => by
    obtain rfl := is_int h
    exact .int x
  | .n, v, h => by
    obtain rfl := is_non h
    exact .non
  | .t l, v, h => by
    unfold tD at h
    obtain ⟨a, vs, rfl, hs, is⟩ := is_tup h
    unfold tP
    exact .tup (sqT_hid hs) (dps_of l vs is)
  | .l l, v, h => by
    unfold tD at h
    obtain ⟨a, vs, rfl, hs, is⟩ := is_lst h
    unfold tP
    exact .lst (sqL_hid hs) (dps_of l vs is)
theorem dps_of {O : List Addr} {H : Hp} : ∀ (l : List Tm) (vs : List V), Iss K (hid O H) vs (tDs l) → DpAll K H vs (tPs l)
  | [], vs, h => by
    obtain rfl := iss_nil h
    exact .nil
  | a :: r, vs, h => by
    obtain ⟨v, ws, rfl, h1, h2⟩ := iss_cons h
    exact .cons (dp_of a v h1) (dps_of r ws h2)
end
theorem rvr_eqD {a b : Tm} {x y : D} {n m : Nat} (hx : x = tD a) (hy : y = tD b) (la : Lay n a) (lb : Lay m b) (hn : n ≤ 64) (hm : m ≤ 64) (q : ∀ r : Bool, (r = true ↔ a = b) → Q (.bl r)) : RvR K (rEqD K) x y Q := fun O H v u live hv hu Qv k => by
  subst hx hy
  exact ⟨tP a, tP b, dp_of a v hv, dp_of b u hu, la.shaped hn, lb.shaped hm, k _ _ H (Same.refl _) (.bl _) (q _ (eqv_tm a b))⟩
theorem rvr_neD {a b : Tm} {x y : D} {n m : Nat} (hx : x = tD a) (hy : y = tD b) (la : Lay n a) (lb : Lay m b) (hn : n ≤ 64) (hm : m ≤ 64) (q : ∀ r : Bool, (r = true ↔ a = b) → Q (.bl (!r))) : RvR K (rNeD K) x y Q := fun O H v u live hv hu Qv k => by
  subst hx hy
  exact ⟨tP a, tP b, dp_of a v hv, dp_of b u hu, la.shaped hn, lb.shaped hm, k _ _ H (Same.refl _) (.bl _) (q _ (eqv_tm a b))⟩
theorem any_tm (a : Tm) (l : List Tm) : ((tPs l).any fun z => PyData.eqv z (tP a)) = true ↔ a ∈ l := by
  rw [List.any_eq_true, tPs_map]
  constructor
  · rintro ⟨z, hz, e⟩
    obtain ⟨b, hb, rfl⟩ := List.mem_map.mp hz
    rw [eqv_tm] at e
    rw [← e]; exact hb
  · intro h
    exact ⟨tP a, List.mem_map.mpr ⟨a, h, rfl⟩, (eqv_tm a a).mpr rfl⟩
theorem rvr_inD {a : Tm} {l : List Tm} {x : D} {ys : List D} {n m : Nat} (hx : x = tD a) (hy : ys = tDs l) (la : Lay n a) (lb : Lay m (.l l)) (hn : n ≤ 64) (hm : m ≤ 64) (q : ∀ r : Bool, (r = true ↔ a ∈ l) → Q (.bl r)) : RvR K (rInD K) x (.lst ys) Q := fun O H v u live hv hu Qv k => by
  subst hx hy
  exact ⟨tP a, tPs l, dp_of a v hv, dp_of (.l l) u hu, la.shaped hn, lb.shaped hm, k _ _ H (Same.refl _) (.bl _) (q _ (any_tm a l))⟩
theorem rvr_notInD {a : Tm} {l : List Tm} {x : D} {ys : List D} {n m : Nat} (hx : x = tD a) (hy : ys = tDs l) (la : Lay n a) (lb : Lay m (.l l)) (hn : n ≤ 64) (hm : m ≤ 64) (q : ∀ r : Bool, (r = true ↔ a ∈ l) → Q (.bl (!r))) : RvR K (rNotInD K) x (.lst ys) Q := fun O H v u live hv hu Qv k => by
  subst hx hy
  exact ⟨tP a, tPs l, dp_of a v hv, dp_of (.l l) u hu, la.shaped hn, lb.shaped hm, k _ _ H (Same.refl _) (.bl _) (q _ (any_tm a l))⟩
end
end NB

end PART_NB8
section PART_NB9
set_option Elab.async false
set_option linter.all false
set_option maxRecDepth 100000
set_option maxHeartbeats 4000000
set_option autoImplicit false
/-! NB9: dicts over data; own instances; locks; new lists. -/
namespace NB
open PySem PySem.Spec PyProof.Rows L2 NC

/-! ### dicts -/
section
variable {κ : Type} [DecidableEq κ]
def valD (kvs : List (κ × D)) (k : κ) : Option D := (kvs.find? fun kv => decide (kv.1 = k)).map (·.2)
def putD (kvs : List (κ × D)) (k : κ) (v : D) : List (κ × D) :=
  if (kvs.any fun kv => decide (kv.1 = k)) = true then kvs.map (fun kv => if kv.1 = k then (kv.1, v) else kv) else kvs ++ [(k, v)]
def mergeD (ps : List (κ × D)) : List (κ × D) := ps.foldl (fun acc p => putD acc p.1 p.2) []
/-- the dict of the values and that of the data -/
inductive Kv (K : PySem.W.Frag) (H : Hp) : List (κ × V) → List (κ × D) → Prop
  | nil : Kv K H [] []
  | cons {k : κ} {v : V} {d : D} {us : List (κ × V)} {ds : List (κ × D)} : Is K H v d → Kv K H us ds → Kv K H ((k, v) :: us) ((k, d) :: ds)
variable {K : PySem.W.Frag} {H H' : Hp}
theorem kv_of : ∀ {us : List (κ × V)} {ds : List (κ × D)}, us.map (·.1) = ds.map (·.1) → Iss K H (us.map (·.2)) (ds.map (·.2)) → Kv K H us ds
  | [], [], _, _ => .nil
  | [], d :: ds, e, _ => by cases e
  | u :: us, [], e, _ => by cases e
  | (k, v) :: us, (k', d) :: ds, e, h => by
    rw [List.map_cons, List.map_cons] at e
    obtain ⟨e1, e2⟩ := List.cons.inj e
    cases e1
    cases h with
    | cons h1 h2 => exact .cons h1 (kv_of e2 h2)
theorem Kv.keys : ∀ {us : List (κ × V)} {ds : List (κ × D)}, Kv K H us ds → us.map (·.1) = ds.map (·.1)
  | _, _, .nil => rfl
  | _, _, .cons _ t => by rw [List.map_cons, List.map_cons, t.keys]
theorem Kv.vals : ∀ {us : List (κ × V)} {ds : List (κ × D)}, Kv K H us ds → Iss K H (us.map (·.2)) (ds.map (·.2))
  | _, _, .nil => .nil
  | _, _, .cons h t => .cons h t.vals
theorem Kv.length : ∀ {us : List (κ × V)} {ds : List (κ × D)}, Kv K H us ds → us.length = ds.length
  | _, _, .nil => rfl
  | _, _, .cons _ t => congrArg (· + 1) t.length
theorem Kv.get {k : κ} : ∀ {us : List (κ × V)} {ds : List (κ × D)}, Kv K H us ds → (∃ v d, valV us k = some v ∧ valD ds k = some d ∧ Is K H v d) ∨ (valV us k = none ∧ valD ds k = none)
  | _, _, .nil => .inr ⟨rfl, rfl⟩
  | (k', v) :: us, (_, d) :: ds, .cons h t => by
    by_cases e : k' = k
    · exact .inl ⟨v, d, by simp [valV, e], by simp [valD, e], h⟩
    · have := t.get (k := k)
      simpa [valV, valD, e] using this
theorem Kv.any {k : κ} : ∀ {us : List (κ × V)} {ds : List (κ × D)}, Kv K H us ds → (us.any fun kv => decide (kv.1 = k)) = (ds.any fun kv => decide (kv.1 = k))
  | _, _, .nil => rfl
  | _, _, .cons _ t => by rw [List.any_cons, List.any_cons, t.any]
theorem Kv.append : ∀ {us ws : List (κ × V)} {ds es : List (κ × D)}, Kv K H us ds → Kv K H ws es → Kv K H (us ++ ws) (ds ++ es)
  | _, _, _, _, .nil, h => h
  | _, _, _, _, .cons h t, q => .cons h (t.append q)
theorem Kv.repl {k : κ} {v : V} {d : D} (h : Is K H v d) : ∀ {us : List (κ × V)} {ds : List (κ × D)}, Kv K H us ds → Kv K H (us.map fun kv => if kv.1 = k then (kv.1, v) else kv) (ds.map fun kv => if kv.1 = k then (kv.1, d) else kv)
  | _, _, .nil => .nil
  | (k', _) :: _, _, .cons q t => by
    rw [List.map_cons, List.map_cons]
    by_cases e : k' = k
    · simp only [e, if_true]; exact .cons h (t.repl h)
    · simp only [e, if_false]; exact .cons q (t.repl h)
theorem Kv.put {k : κ} {v : V} {d : D} {us : List (κ × V)} {ds : List (κ × D)} (t : Kv K H us ds) (h : Is K H v d) : Kv K H (putK us k v) (putD ds k d) := by
  unfold putK putD
  rw [t.any]
  split
  · exact t.repl h
  · exact t.append (.cons h .nil)
theorem Kv.ex (e : ∀ a o, H a = some o → H' a = some o) : ∀ {us : List (κ × V)} {ds : List (κ × D)}, Kv K H us ds → Kv K H' us ds
  | _, _, .nil => .nil
  | _, _, .cons h t => .cons (h.ex e) (t.ex e)
theorem Kv.mapL : ∀ {us : List (κ × V)} {ds : List (κ × D)} {k : κ}, Kv K H us ds → (∃ v d, us.lookup k = some v ∧ ds.lookup k = some d ∧ Is K H v d) ∨ (us.lookup k = none ∧ ds.lookup k = none)
  | _, _, _, .nil => .inr ⟨rfl, rfl⟩
  | (k', v) :: us, (_, d) :: ds, k, .cons h t => by
    by_cases e : k = k'
    · subst e
      exact .inl ⟨v, d, by simp, by simp, h⟩
    · have := t.mapL (k := k)
      have e' : (k == k') = false := by simpa using e
      simpa [List.lookup_cons, e'] using this
end
def keyD : Key → D
  | .inl i => .int i
  | .inr x => .str x
theorem is_keyD {K : PySem.W.Frag} {H : Hp} {v : V} : ∀ {k : Key}, Is K H v (keyD k) → v = kV k
  | .inl _, h => is_int h
  | .inr _, h => is_str h
theorem iss_keyD {K : PySem.W.Frag} {H : Hp} : ∀ {ks : List Key} {vs : List V}, Iss K H vs (ks.map keyD) → vs = ks.map kV
  | [], vs, h => iss_nil h
  | k :: ks, vs, h => by
    obtain ⟨v, ws, rfl, h1, h2⟩ := iss_cons h
    rw [is_keyD h1, iss_keyD h2, List.map_cons]
/-- a tuple of keys -/
def tupK (ks : List Key) : D := .tup (ks.map keyD)
section
variable {S : Sys} {ρ : DEnv} {ta td ty tk tv te : TE} {Q : D → Prop}
/-- what x finds at y -/
inductive DFind : D → D → Option D → Prop
  | k {ds : List (Key × D)} {k : Key} {y : D} (e : y = keyD k) : DFind (.dK ds) y (valD ds k)
  | t {ds : List (List Key × D)} {ks : List Key} {y : D} (e : y = tupK ks) : DFind (.dT ds) y (valD ds ks)
theorem dfind_get {K : PySem.W.Frag} {O : List Addr} {H : Hp} {x y : D} {v u : V} {o : Option D} (f : DFind x y o) (hx : Is K (hid O H) v x) (hy : Is K (hid O H) u y) :
    ∃ a ov, v = .ref a ∧ DGet H a u ov ∧ ((∃ w d, ov = some w ∧ o = some d ∧ Is K (hid O H) w d) ∨ (ov = none ∧ o = none)) := by
  cases f with
  | k e =>
    subst e
    obtain ⟨a, us, rfl, h, ke, is⟩ := is_dK hx
    obtain rfl := is_keyD hy
    refine ⟨a, _, rfl, .inl ⟨us, _, rd_hid h, rfl, rfl⟩, ?_⟩
    rcases (kv_of ke is).get with ⟨w, d, e1, e2, i⟩ | ⟨e1, e2⟩
    · exact .inl ⟨w, d, e1, e2, i⟩
    · exact .inr ⟨e1, e2⟩
  | t e =>
    subst e
    obtain ⟨a, us, rfl, h, ke, is⟩ := is_dT hx
    obtain ⟨b, vs, rfl, hb, ib⟩ := is_tupX hy
    obtain rfl := iss_keyD ib
    refine ⟨a, _, rfl, .inr ⟨us, _, b, rd_hid h, rfl, (hid_some hb).2, rfl⟩, ?_⟩
    rcases (kv_of ke is).get with ⟨w, d, e1, e2, i⟩ | ⟨e1, e2⟩
    · exact .inl ⟨w, d, e1, e2, i⟩
    · exact .inr ⟨e1, e2⟩
def rDIn (neg : Bool) : R2 := fun y x H Q => ∃ a o, x = .ref a ∧ DGet H a y o ∧ Q (.bl (if neg then !o.isSome else o.isSome)) H
theorem op_dIn {X : Cx} (hu : X.A.units + 1 < cLine) : OpR X (compareOp .In) (rDIn false) := by
  intro pins s σ H y x v u Q I ry rx ⟨a, o, ex, g, q⟩
  subst ex
  obtain rfl : u = Value.ref a := rx
  exact d_in hu I g ry fun s3 I3 => ⟨.bl o.isSome, H, I3, rfl, q⟩
theorem op_dNotIn {X : Cx} (hu : X.A.units + 1 < cLine) : OpR X (compareOp .NotIn) (rDIn true) := by
  intro pins s σ H y x v u Q I ry rx ⟨a, o, ex, g, q⟩
  subst ex
  obtain rfl : u = Value.ref a := rx
  exact d_notIn hu I g ry fun s3 I3 => ⟨.bl (!o.isSome), H, I3, rfl, q⟩
theorem rvr_dIn {K : PySem.W.Frag} {neg : Bool} {x y : D} {o : Option D} (f : DFind x y o) (q : Q (.bl (if neg then !o.isSome else o.isSome))) : RvR K (rDIn neg) y x Q := fun O H v u live hv hu Qv k => by
  obtain ⟨a, ov, rfl, g, h⟩ := dfind_get f hu hv
  have e : ov.isSome = o.isSome := by
    rcases h with ⟨w, d, rfl, rfl, _⟩ | ⟨rfl, rfl⟩ <;> rfl
  exact ⟨a, ov, rfl, g, by rw [e]; exact k _ _ H (Same.refl _) (.bl _) q⟩
/-- d[k] -/
theorem ev_dget (h : Ev S td ρ fun x => Ev S ty ρ fun y => ∃ d, DFind x y (some d) ∧ Q d) : Ev S (tDGet td ty) ρ Q := fun O σ H I Qv k => by
  refine h O σ H I _ fun x v H1 l1 t1 i1 h1 => ?_
  refine h1 O σ H1 (I.le l1 t1) _ fun y u H2 l2 t2 i2 ⟨d, f, q⟩ => ?_
  obtain ⟨a, ov, rfl, g, c⟩ := dfind_get f (i1.ex (hid_le l2 I.sub)) i2
  rcases c with ⟨w, d', rfl, e, i⟩ | ⟨_, e⟩
  · cases e
    exact ⟨a, w, rfl, g, k d w H2 (l1.trans l2) t2 i q⟩
  · cases e
/-! ### dict comprehensions -/
theorem tl_leafK {kvs : List (Key × D)} {Q : Sl → Prop} (h : Ev S tk ρ fun y => Ev S tv ρ fun z => ∃ k, y = keyD k ∧ kvs.length < sizeLine ∧ Q (.ownK (putD kvs k z))) : Tl S (tLeafD tk tv) ρ (.ownK kvs) Q := fun O σ H I D hD nM nO ⟨us, e, ke, is⟩ Nx k => by
  refine h O σ H I _ fun y v H1 l1 t1 i1 h1 => ?_
  refine h1 O σ H1 (I.le l1 t1) _ fun z u H2 l2 t2 i2 ⟨kk, ey, hz, q⟩ => ?_
  subst ey
  obtain rfl := is_keyD i1
  have l := l1.trans l2
  have e2 := l _ _ nM e
  have kv := (kv_of ke is).ex (hid_le l I.sub)
  refine ⟨_, .inl ⟨us, kk, e2, rfl, by rw [kv.length]; exact hz, rfl⟩, ?_⟩
  have kv2 := (kv.put (k := kk) i2).ex (hid_upd (H := H2) (o := .dK (putK us kk u)) hD)
  exact k _ (.ownK (putD kvs kk z)) (le_upd (le_cons l)) (S.upd_own t2 nM (fun _ z => by rw [e2] at z; cases z)) (live_upd (I.le l t2).live) ⟨_, upd_same, kv2.keys, kv2.vals⟩ q
theorem tl_leafT {kvs : List (List Key × D)} {Q : Sl → Prop} (h : Ev S tk ρ fun y => Ev S tv ρ fun z => ∃ k, y = tupK k ∧ kvs.length < sizeLine ∧ Q (.ownT (putD kvs k z))) : Tl S (tLeafD tk tv) ρ (.ownT kvs) Q := fun O σ H I D hD nM nO ⟨us, e, ke, is⟩ Nx k => by
  refine h O σ H I _ fun y v H1 l1 t1 i1 h1 => ?_
  refine h1 O σ H1 (I.le l1 t1) _ fun z u H2 l2 t2 i2 ⟨kk, ey, hz, q⟩ => ?_
  subst ey
  obtain ⟨b, ws, rfl, hb, ib⟩ := is_tupX i1
  obtain rfl := iss_keyD ib
  have l := l1.trans l2
  have e2 := l _ _ nM e
  have kv := (kv_of ke is).ex (hid_le l I.sub)
  obtain ⟨nb, hb1⟩ := hid_some hb
  refine ⟨_, .inr ⟨us, kk, b, e2, rfl, l2 _ _ (fun m => nb (I.sub b m)) hb1, by rw [kv.length]; exact hz, rfl⟩, ?_⟩
  have kv2 := (kv.put (k := kk) i2).ex (hid_upd (H := H2) (o := .dT (putK us kk u)) hD)
  exact k _ (.ownT (putD kvs kk z)) (le_upd (le_cons l)) (S.upd_own t2 nM (fun _ z => by rw [e2] at z; cases z)) (live_upd (I.le l t2).live) ⟨_, upd_same, kv2.keys, kv2.vals⟩ q
end
section
variable {κ : Type} [DecidableEq κ]
theorem putD_le (kvs : List (κ × D)) (k : κ) (v : D) : (putD kvs k v).length ≤ kvs.length + 1 := by
  unfold putD
  split
  · simp
  · simp
def foldD (kvs : List (κ × D)) (ps : List (κ × D)) : List (κ × D) := ps.foldl (fun acc p => putD acc p.1 p.2) kvs
theorem foldD_le (ps : List (κ × D)) : ∀ kvs : List (κ × D), (foldD kvs ps).length ≤ kvs.length + ps.length := by
  induction ps with
  | nil => intro kvs; exact Nat.le_refl _
  | cons p r ih =>
    intro kvs
    have := ih (putD kvs p.1 p.2)
    have h2 := putD_le kvs p.1 p.2
    show (foldD (putD kvs p.1 p.2) r).length ≤ _
    rw [List.length_cons]
    omega
theorem foldD_snoc (kvs ps : List (κ × D)) (p : κ × D) : foldD kvs (ps ++ [p]) = putD (foldD kvs ps) p.1 p.2 := by unfold foldD; rw [List.foldl_append]; rfl
/-- new keys go to the end -/
theorem putD_new {kvs : List (κ × D)} {k : κ} {v : D} (h : k ∉ kvs.map (·.1)) : putD kvs k v = kvs ++ [(k, v)] := by
  unfold putD
  rw [if_neg]
  rw [List.any_eq_true]
  rintro ⟨p, hp, e⟩
  exact h (List.mem_map.mpr ⟨p, hp, of_decide_eq_true e⟩)
theorem foldD_nodup : ∀ {ps kvs : List (κ × D)}, ((kvs ++ ps).map (·.1)).Nodup → foldD kvs ps = kvs ++ ps
  | [], kvs, _ => by simp [foldD]
  | p :: r, kvs, h => by
    show foldD (putD kvs p.1 p.2) r = _
    have hp : p.1 ∉ kvs.map (·.1) := by
      rw [List.map_append, List.map_cons, List.nodup_append] at h
      intro m
      exact h.2.2 _ m _ List.mem_cons_self rfl
    rw [putD_new hp, foldD_nodup (kvs := kvs ++ [(p.1, p.2)]) (by simpa using h)]
    simp
end
section
variable {S : Sys} {ρ : DEnv} {tk tv : TE} {tt : TT} {vs : List Nat} {wi : TI} {g : TG} {Q : D → Prop}
/-- what a dict comprehension asks: f the pairs -/
def DcGoal (κ : Type) (kd : κ → D) (S : Sys) (ρ : DEnv) (g : TG) (tt : TT) (tk tv : TE) (vs : List Nat) (ps : List (κ × D)) (xs0 : List D) : Prop :=
  ∃ (α : Type) (xs : List α) (src : α → D) (p : α → Bool) (f : α → κ × D), xs0 = xs.map src ∧ xs.length ≤ sizeLine ∧ ps = (xs.filter p).map f ∧
    ∀ a ∈ xs, EvG S vs g (wipeD ρ vs) (src a) fun ρ1 => EvT S tt ρ1 fun b => b = p a ∧ (b = true → Ev S tk ρ1 fun y => y = kd (f a).1 ∧ Ev S tv ρ1 fun z => z = (f a).2)
theorem filter_take_snoc {α : Type} {p : α → Bool} {xs : List α} {i : Nat} {a : α} (h : xs[i]? = some a) : (xs.take (i + 1)).filter p = (xs.take i).filter p ++ if p a = true then [a] else [] := by
  rw [take_snoc h, List.filter_append]
  cases e : p a <;> simp [e]
theorem dc_J {κ : Type} [DecidableEq κ] {kd : κ → D} {mk : List (κ × D) → Sl} {ps : List (κ × D)} {xs0 : List D}
    (leaf : ∀ ρ1 kvs (Q : Sl → Prop), (Ev S tk ρ1 fun y => Ev S tv ρ1 fun z => ∃ k, y = kd k ∧ kvs.length < sizeLine ∧ Q (mk (putD kvs k z))) → Tl S (tLeafD tk tv) ρ1 (mk kvs) Q)
    (h : DcGoal κ kd S ρ g tt tk tv vs ps xs0) : ∃ J : Nat → Sl → Prop, J 0 (mk []) ∧
    (∀ i x s', xs0[i]? = some x → J i s' → EvG S vs g (wipeD ρ vs) x fun ρ1 => EvT S tt ρ1 fun b => if b = true then Tl S (tLeafD tk tv) ρ1 s' (J (i + 1)) else J (i + 1) s') ∧ ∀ s', J xs0.length s' → s' = mk (foldD [] ps) := by
  obtain ⟨α, xs, src, p, f, rfl, hz, rfl, hs⟩ := h
  refine ⟨fun i s => s = mk (foldD [] (((xs.take i).filter p).map f)), by simp [foldD], fun i x s' hx e => ?_, fun s' e => by rw [e, List.length_map, List.take_length]⟩
  subst e
  obtain ⟨a, ha, rfl⟩ : ∃ a, xs[i]? = some a ∧ x = src a := by
    rw [List.getElem?_map] at hx
    cases q : xs[i]? with
    | none => rw [q] at hx; cases hx
    | some a => rw [q] at hx; exact ⟨a, rfl, (Option.some.inj hx).symm⟩
  have hi : i < xs.length := by
    by_cases q : i < xs.length
    · exact q
    · rw [List.getElem?_eq_none (by omega)] at ha; cases ha
  have hl : (foldD [] (((xs.take i).filter p).map f)).length < sizeLine := by
    have h1 := foldD_le (((xs.take i).filter p).map f) []
    have h2 := List.length_filter_le p (xs.take i)
    rw [List.length_map, List.length_nil] at h1
    rw [List.length_take] at h2
    omega
  intro O σ H v I ix Qs k
  refine hs a (List.mem_of_getElem? ha) O σ H v I ix Qs fun ρ' σ' I' w o q => k ρ' σ' I' w o (q.imp fun b ⟨hb, hc⟩ => ?_)
  subst hb
  cases hp : p a with
  | true =>
    rw [if_pos rfl]
    refine leaf _ _ _ ((hc hp).imp fun y ⟨ey, hv⟩ => hv.imp fun z ez => ⟨(f a).1, ey, hl, ?_⟩)
    show mk (putD _ _ z) = mk (foldD [] (((xs.take (i + 1)).filter p).map f))
    rw [filter_take_snoc ha, hp, if_pos rfl, List.map_append, List.map_cons, List.map_nil, foldD_snoc, ez]
  | false =>
    rw [if_neg Bool.false_ne_true]
    show mk (foldD [] (((xs.take i).filter p).map f)) = mk (foldD [] (((xs.take (i + 1)).filter p).map f))
    rw [filter_take_snoc ha, hp, if_neg Bool.false_ne_true, List.append_nil]
theorem ev_dcK {ps : List (Key × D)} (q : Q (.dK (foldD [] ps))) (h : EvI S wi ρ (DcGoal Key keyD S ρ g tt tk tv vs ps)) : Ev S (tComp (.dK []) wi g tt (tLeafD tk tv) vs) ρ Q := ev_comp .dK (fun O σ H I R k => h O σ H I R fun J xs H1 l t W c => k J xs H1 l t W (by
  obtain ⟨Jj, j0, j1, j2⟩ := dc_J (mk := .ownK) (fun ρ1 kvs Q h => tl_leafK h) c
  exact ⟨Jj, j0, j1, fun s' e => by rw [j2 s' e]; exact q⟩))
theorem ev_dcT {ps : List (List Key × D)} (q : Q (.dT (foldD [] ps))) (h : EvI S wi ρ (DcGoal (List Key) tupK S ρ g tt tk tv vs ps)) : Ev S (tComp (.dT []) wi g tt (tLeafD tk tv) vs) ρ Q := ev_comp .dT (fun O σ H I R k => h O σ H I R fun J xs H1 l t W c => k J xs H1 l t W (by
  obtain ⟨Jj, j0, j1, j2⟩ := dc_J (mk := .ownT) (fun ρ1 kvs Q h => tl_leafT h) c
  exact ⟨Jj, j0, j1, fun s' e => by rw [j2 s' e]; exact q⟩))
end
end NB

end PART_NB9
section PART_NB10
set_option Elab.async false
set_option linter.all false
set_option maxRecDepth 100000
set_option maxHeartbeats 4000000
set_option autoImplicit false
/-! NB10: own instances; locks; new lists. -/
namespace NB
open PySem PySem.Spec PyProof.Rows L2 NC

section
variable {S : Sys} {ρ : DEnv} {ta tv te : TE} {Q : D → Prop} {P : Post}
/-! ### another view of a slot -/
theorem EnvOk.chg {O : List Addr} {σ : L2.St} {H : Hp} {i : Nat} {s s' : Sl} (I : EnvOk S O ρ σ H) (hs : ρ[i]? = some (some s)) (ho : s'.isOwn = s.isOwn) (ok : ∀ v, σ[i]? = some (some v) → SlOk S.K O H v s → SlOk S.K O H v s') : EnvOk S O (ρ.set i (some s')) σ H := by
  have hi : i < ρ.length := by
    by_cases h : i < ρ.length
    · exact h
    · rw [List.getElem?_eq_none (by simpa using h)] at hs; cases hs
  have own : ∀ j l, OwnAt (ρ.set i (some s')) σ l j → OwnAt ρ σ l j := fun j l ⟨t, h1, h2, h3⟩ => by
    by_cases e : i = j
    · subst e
      rw [List.getElem?_set_self hi] at h1
      cases h1
      exact ⟨s, hs, by rw [← ho]; exact h2, h3⟩
    · rw [List.getElem?_set_ne e] at h1
      exact ⟨t, h1, h2, h3⟩
  exact {
    len := by rw [List.length_set]; exact I.len
    t := I.t
    sub := I.sub
    live := I.live
    at_ := fun j t ht => by
      by_cases e : i = j
      · subst e
        rw [List.getElem?_set_self hi] at ht
        cases ht
        obtain ⟨v, hv, q⟩ := I.at_ i s hs
        exact ⟨v, hv, ok v hv q⟩
      · rw [List.getElem?_set_ne e] at ht
        exact I.at_ j t ht
    dis := fun a b l ha hb => I.dis a b l (own _ _ ha) (own _ _ hb)
    outM := fun a l ha => I.outM a l (own _ _ ha)
    xk := I.xk }
/-! ### locks -/
theorem rd_lock {H : Hp} {d : Addr} {us : List (Key × V)} {od : Obj} (hd : H d = some (.dK us)) {a : Addr} {kvs : List (Key × V)} (h : Rd H a (.dK kvs)) : Rd (upd H d (.frz od (.dK us))) a (.dK kvs) := by
  by_cases e : a = d
  · subst e
    rcases h with h | ⟨o, h⟩
    · rw [hd] at h; cases h; exact .inr ⟨od, upd_same⟩
    · rw [hd] at h; cases h
  · rcases h with h | ⟨o, h⟩
    · exact .inl (by rw [upd_ne e]; exact h)
    · exact .inr ⟨o, by rw [upd_ne e]; exact h⟩
theorem ex2_lock {O : List Addr} {H : Hp} {d : Addr} {us : List (Key × V)} {od : Obj} (hd : H d = some (.dK us)) (nd : d ∉ O) : Ex2 (hid O H) (hid O (upd H d (.frz od (.dK us)))) := by
  have ne : ∀ {a : Addr} {o : HO}, hid O H a = some o → (∀ kvs, o ≠ .dK kvs) → hid O (upd H d (.frz od (.dK us))) a = some o := fun {a o} h n => by
    obtain ⟨na, h⟩ := hid_some h
    rw [hid_out na, upd_ne fun z => by rw [z, hd] at h; cases h; exact n us rfl]
    exact h
  refine ⟨fun a vs h => ne h fun _ z => (by cases z), fun a vs h => ne h fun _ z => (by cases z), fun a C dx fs h => ne h fun _ z => (by cases z), fun a kvs h => ?_, fun a kvs h => ?_, fun a o kvs h => ne h fun _ z => (by cases z), fun a o vs h => ne h fun _ z => (by cases z)⟩
  · rcases h with h | ⟨o, h⟩
    · obtain ⟨na, h⟩ := hid_some h
      rcases rd_lock (od := od) hd (.inl h) with q | ⟨o, q⟩
      · exact .inl (by rw [hid_out na]; exact q)
      · exact .inr ⟨o, by rw [hid_out na]; exact q⟩
    · exact .inr ⟨o, ne h fun _ z => (by cases z)⟩
  · rcases h with h | ⟨o, h⟩
    · exact .inl (ne h fun _ z => (by cases z))
    · exact .inr ⟨o, ne h fun _ z => (by cases z)⟩
theorem ex3_unlock {O : List Addr} {H : Hp} {d : Addr} {us : List (Key × V)} {od : Obj} (hd : H d = some (.frz od (.dK us))) (nd : d ∉ O) : Ex3 (hid O H) (hid O (upd H d (.dK us))) := by
  have ne : ∀ {a : Addr} {o : HO}, hid O H a = some o → (∀ o' kvs, o ≠ .frz o' (.dK kvs)) → hid O (upd H d (.dK us)) a = some o := fun {a o} h n => by
    obtain ⟨na, h⟩ := hid_some h
    rw [hid_out na, upd_ne fun z => by rw [z, hd] at h; cases h; exact n od us rfl]
    exact h
  refine ⟨fun a vs h => ne h fun _ _ z => (by cases z), fun a vs h => ne h fun _ _ z => (by cases z), fun a C dx fs h => ne h fun _ _ z => (by cases z), fun a kvs h => ?_, fun a kvs h => ?_⟩
  · rcases h with h | ⟨o, h⟩
    · exact .inl (ne h fun _ _ z => (by cases z))
    · obtain ⟨na, h'⟩ := hid_some h
      by_cases e : a = d
      · subst e
        rw [hd] at h'
        cases h'
        exact .inl (by rw [hid_out na]; exact upd_same)
      · exact .inr ⟨o, by rw [hid_out na, upd_ne e]; exact h'⟩
  · rcases h with h | ⟨o, h⟩
    · exact .inl (ne h fun _ _ z => (by cases z))
    · exact .inr ⟨o, ne h fun _ _ z => (by cases z)⟩
theorem slOk_ex2 {K : PySem.W.Frag} {O : List Addr} {H H' : Hp} {v : V} {s : Sl} (e : Ex2 (hid O H) (hid O H')) (o : ∀ a ∈ O, H' a = H a) (h : SlOk K O H v s) : SlOk K O H' v s := by
  cases s with
  | dat d => exact Is.ex2 e h
  | own xs =>
    obtain ⟨l, rfl, hl, vs, h1, is⟩ := h
    exact ⟨l, rfl, hl, vs, by rw [o l hl]; exact h1, is.ex2 e⟩
  | ownK xs =>
    obtain ⟨l, rfl, hl, vs, h1, ke, is⟩ := h
    exact ⟨l, rfl, hl, vs, by rw [o l hl]; exact h1, ke, is.ex2 e⟩
  | ownT xs =>
    obtain ⟨l, rfl, hl, vs, h1, ke, is⟩ := h
    exact ⟨l, rfl, hl, vs, by rw [o l hl]; exact h1, ke, is.ex2 e⟩
  | ownI b C xs =>
    obtain ⟨l, rfl, hl, eb, dx, vs, h1, ke, is⟩ := h
    exact ⟨l, rfl, hl, eb, dx, vs, by rw [o l hl]; exact h1, ke, is.ex2 e⟩
theorem EnvOk.lock {O : List Addr} {σ : L2.St} {H : Hp} {d : Addr} {us : List (Key × V)} {od : Obj} (I : EnvOk S O ρ σ H) (hd : H d = some (.dK us)) (nd : d ∉ O) : EnvOk S.calm O ρ σ (upd H d (.frz od (.dK us))) where
  len := I.len
  t := S.upd_own I.t (fun m => nd (I.sub d m)) (fun _ z => by rw [hd] at z; cases z)
  sub := I.sub
  live := live_upd I.live
  at_ := fun i s hs => by
    obtain ⟨v, hv, q⟩ := I.at_ i s hs
    exact ⟨v, hv, slOk_ex2 (ex2_lock hd nd) (fun a ha => upd_ne fun z => nd (by rw [← z]; exact ha)) q⟩
  dis := I.dis
  outM := I.outM
  xk := .calm
theorem EnvOk.calm {O : List Addr} {σ : L2.St} {H : Hp} (I : EnvOk S O ρ σ H) : EnvOk S.calm O ρ σ H := ⟨I.len, I.t, I.sub, I.live, I.at_, I.dis, I.outM, .calm⟩
/-- one dict of a slot, locked -/
inductive Lk : Sl → Sl → Prop
  | var {kvs : List (Key × D)} : Lk (.dat (.dK kvs)) (.dat (.dF kvs))
  | fld {C : Addr} {fs : List (Str × D)} {j : Nat} {f : Str} {kvs : List (Key × D)} (h : fs[j]? = some (f, .dK kvs)) : Lk (.dat (.obj C fs)) (.dat (.obj C (fs.set j (f, .dF kvs))))
  | own {a C : Addr} {fs : List (Str × D)} {j : Nat} {f : Str} {kvs : List (Key × D)} (h : fs[j]? = some (f, .dK kvs)) : Lk (.ownI a C fs) (.ownI a C (fs.set j (f, .dF kvs)))
/-- the dict at d is read as locked where H says so -/
theorem kv_setF {K : PySem.W.Frag} {H' : Hp} {d : Addr} {us : List (Key × V)} {od : Obj} {kvs : List (Key × D)} (hf : H' d = some (.frz od (.dK us))) (kk : us.map (·.1) = kvs.map (·.1)) (ki : Iss K H' (us.map (·.2)) (kvs.map (·.2))) :
    ∀ {ws : List (Str × V)} {fs : List (Str × D)} {j : Nat} {f : Str}, Kv K H' ws fs → ws[j]? = some (f, .ref d) → fs[j]? = some (f, .dK kvs) → Kv K H' ws (fs.set j (f, .dF kvs))
  | _, _, _, _, .nil, h, _ => by simp at h
  | _, _, 0, f, .cons h t, e1, e2 => by
    simp at e1 e2
    obtain ⟨rfl, rfl⟩ := e1
    exact .cons (.dF hf kk ki) t
  | _, _, j + 1, f, .cons h t, e1, e2 => .cons h (kv_setF hf kk ki t (by simpa using e1) (by simpa using e2))
theorem kv_at {K : PySem.W.Frag} {H : Hp} : ∀ {ws : List (Str × V)} {fs : List (Str × D)} {j : Nat} {f : Str} {d : D}, Kv K H ws fs → fs[j]? = some (f, d) → ∃ v, ws[j]? = some (f, v) ∧ Is K H v d
  | _, _, _, _, _, .nil, h => by simp at h
  | _, _, 0, _, _, .cons h t, e => by
    simp at e
    obtain ⟨rfl, rfl⟩ := e
    exact ⟨_, rfl, h⟩
  | _, _, j + 1, _, _, .cons h t, e => by
    obtain ⟨v, h1, h2⟩ := kv_at (j := j) t (by simpa using e)
    exact ⟨v, by simpa using h1, h2⟩
theorem Kv.ex2 {K : PySem.W.Frag} {H H' : Hp} {κ : Type} (e : Ex2 H H') : ∀ {us : List (κ × V)} {ds : List (κ × D)}, Kv K H us ds → Kv K H' us ds
  | _, _, .nil => .nil
  | _, _, .cons h t => .cons (h.ex2 e) (t.ex2 e)
/-- the dict that is to be locked, at its place -/
theorem lk_at {O : List Addr} {σ : L2.St} {H : Hp} {i : Nat} {s s' : Sl} (I : EnvOk S O ρ σ H) (hs : ρ[i]? = some (some s)) (hl : Lk s s') :
    ∃ d us, d ∉ O ∧ Rd H d (.dK us) ∧ ∀ H' od, Ex2 (hid O H) (hid O H') → (∀ a ∈ O, H' a = H a) → H' d = some (.frz od (.dK us)) → ∀ v, σ[i]? = some (some v) → SlOk S.K O H' v s → SlOk S.K O H' v s' := by
  obtain ⟨v0, hv0, ok⟩ := I.at_ i s hs
  cases hl with
  | var =>
    rename_i kvs
    obtain ⟨d, us, rfl, rd, ke, is⟩ := is_dK ok
    have nd : d ∉ O := by
      rcases rd with h | ⟨o, h⟩
      · exact (hid_some h).1
      · exact (hid_some h).1
    refine ⟨d, us, nd, rd_hid rd, fun H' od e2 eo hf v hv q => ?_⟩
    rw [hv0] at hv
    cases hv
    exact .dF (by rw [hid_out nd]; exact hf) ke (is.ex2 e2)
  | fld h =>
    rename_i C fs j f kvs
    obtain ⟨a, dx, ws, rfl, ha, ke, is⟩ := is_obj ok
    have kv := kv_of ke is
    obtain ⟨w, hw, iw⟩ := kv_at kv h
    obtain ⟨d, us, rfl, rd, ke2, is2⟩ := is_dK iw
    have nd : d ∉ O := by
      rcases rd with h | ⟨o, h⟩
      · exact (hid_some h).1
      · exact (hid_some h).1
    refine ⟨d, us, nd, rd_hid rd, fun H' od e2 eo hf v hv q => ?_⟩
    rw [hv0] at hv
    cases hv
    have kv2 := kv_setF (H' := hid O H') (by rw [hid_out nd]; exact hf) ke2 (is2.ex2 e2) (kv.ex2 e2) hw h
    exact .obj (e2.i _ _ _ _ ha) kv2.keys kv2.vals
  | own h =>
    rename_i a C fs j f kvs
    obtain ⟨l, rfl, hl, el, dx, ws, ha, ke, is⟩ := ok
    have kv := kv_of ke is
    obtain ⟨w, hw, iw⟩ := kv_at kv h
    obtain ⟨d, us, rfl, rd, ke2, is2⟩ := is_dK iw
    have nd : d ∉ O := by
      rcases rd with h | ⟨o, h⟩
      · exact (hid_some h).1
      · exact (hid_some h).1
    refine ⟨d, us, nd, rd_hid rd, fun H' od e2 eo hf v hv q => ?_⟩
    rw [hv0] at hv
    cases hv
    have kv2 := kv_setF (H' := hid O H') (by rw [hid_out nd]; exact hf) ke2 (is2.ex2 e2) (kv.ex2 e2) hw h
    exact ⟨l, rfl, hl, el, dx, ws, by rw [eo l hl]; exact ha, kv2.keys, kv2.vals⟩
theorem lk_own {s s' : Sl} (h : Lk s s') : s'.isOwn = s.isOwn := by cases h <;> rfl
/-- locked, or as it is -/
def tLockQ (t : TE) : TE := fun σ H Q => tLockE t σ H Q ∨ t σ H Q
theorem pe_lockQ {X : Cx} {e : Expr} {t : TE} (h : PE X e t) : PE X e (tLockQ t) := ⟨fun pins s σ H Q I q => by
  rcases q with q | q
  · exact (pe_lock h).run pins s σ H Q I q
  · exact h.run pins s σ H Q I q⟩
theorem ev_lock {i : Nat} {s s' : Sl} (hs : ρ[i]? = some (some s)) (hl : Lk s s') (h : Ev S.calm te (ρ.set i (some s')) fun d => NoF d ∧ Q d) : Ev S (tLockQ te) ρ Q := fun O σ H I Qv k => by
  obtain ⟨d, us, nd, rd, hv⟩ := lk_at I hs hl
  rcases rd with rd | ⟨od, rd⟩
  · refine .inl ⟨d, .dK us, rd, True.intro, fun od => ?_⟩
    have I1 := I.lock (od := od) rd nd
    have e2 := ex2_lock (O := O) (od := od) rd nd
    have eo : ∀ a ∈ O, upd H d (.frz od (.dK us)) a = H a := fun a ha => upd_ne fun z => nd (by rw [← z]; exact ha)
    have I2 := I1.chg hs (lk_own hl) fun v hv' q => hv _ od e2 eo upd_same v hv' q
    refine h O σ _ I2 _ fun x v H1 l1 t1 i1 ⟨nf, q⟩ => ?_
    have nM : d ∉ S.M := fun m => nd (I.sub d m)
    have h1 : H1 d = some (.frz od (.dK us)) := l1 _ _ nM upd_same
    refine ⟨h1, k x v _ (fun a o na e => ?_) (S.upd_own t1 nM (fun _ z => by rw [h1] at z; cases z)) (i1.ex3 (ex3_unlock h1 nd) nf) q⟩
    by_cases z : a = d
    · subst z
      rw [rd] at e
      cases e
      exact upd_same
    · rw [upd_ne z]
      exact l1 a o na (by rw [upd_ne z]; exact e)
  · refine .inr ?_
    have I2 := I.chg hs (lk_own hl) fun v hv' q => hv H od ⟨fun _ _ h => h, fun _ _ h => h, fun _ _ _ _ h => h, fun _ _ h => h, fun _ _ h => h, fun _ _ _ h => h, fun _ _ _ h => h⟩ (fun _ _ => rfl) rd v hv' q
    exact h O σ H I2.calm _ fun x v H1 l1 t1 i1 ⟨_, q⟩ => k x v H1 l1 t1 i1 q
end
end NB

end PART_NB10
section PART_NB11
set_option Elab.async false
set_option linter.all false
set_option maxRecDepth 100000
set_option maxHeartbeats 4000000
set_option autoImplicit false
/-! NB11: own instances, their making; new lists. -/
namespace NB
open PySem PySem.Spec PyProof.Rows L2 NC

/-! ### fields, with the class told -/
def tFldC (C : Addr) (ta : TE) (f : Str) : TE := fun σ H Q => ta σ H fun x H1 => ∃ a dx fs v, x = .ref a ∧ H1 a = some (.ins C dx fs) ∧ fs.lookup f = some v ∧ Q v H1
def sFldC (C : Addr) (ta tv : TE) (f : Str) : TS := fun D σ H => tv σ H fun y H1 => ta σ H1 fun x H2 => ∃ a dx fs, x = .ref a ∧ H2 a = some (.ins C dx fs) ∧ fs.length < 1000 ∧ D.nx σ (upd H2 a (.ins C dx (putF f y fs)))
section
variable {X : Cx} {o e value : Expr} {f : Str} {pos pos' : Pos} {ta tv : TE} {C : Addr}
theorem te_imp {ta : TE} {σ : L2.St} {H : Hp} : True := trivial
theorem pe_fldC (c : Cls X.K C) (n : NoAttr X.K C f) (he : PE X e ta) (hb : attributeBase e f X.env (eval e X.env) = eval e X.env := by rfl) : PE X (.Attribute e f pos) (tFldC C ta f) := by
  refine ⟨fun pins s σ H Q I h => ?_⟩
  refine attr_of hb (thn (he.run pins s σ H _ I h) fun u s1 ⟨x, H1, I1, rx, a, dx, fs, v, ex, ea, l, q⟩ => ?_)
  subst ex
  obtain rfl : u = Value.ref a := rx
  exact getattr_ok I1 ea c n l fun u' s2 I2 ru => ⟨v, H1, I2, ru, q⟩
theorem ps_fldC (c : Cls X.K C) (n : NoAttr X.K C f) (ha : PE X o ta) (hv : PE X value tv) (hs : swapsWith value (some (.Attribute o f pos')) pos.line X.env = pure false := by rfl) : PS X (.Assign [.Attribute o f pos'] value pos) (sFldC C ta tv f) := by
  refine ⟨fun pins s σ H D I h => ?_⟩
  refine plainObj_wpAny_Assign_Attribute (thn (hv.run pins s σ H _ I h) fun u s1 ⟨y, H1, I1, ry, q⟩ => thn (ha.run pins s1 σ H1 _ I1 q) fun ov s2 ⟨x, H2, I2, rx, a, dx, fs, ex, ea, l, q2⟩ => ?_) hs
  subst ex
  obtain rfl : ov = Value.ref a := rx
  exact setattr_ok I2 ea c n l ry fun s3 I3 => ⟨σ, _, I3, q2⟩
/-- what isn't reached -/
def tNoS : TS := fun _ _ _ => False
def tNoE : TE := fun _ _ _ => False
theorem ps_no {st : Stmt} : PS X st tNoS := ⟨fun _ _ _ _ _ _ h => h.elim⟩
theorem pe_no : PE X e tNoE := ⟨fun _ _ _ _ _ _ h => h.elim⟩
end
def putFD (f : Str) (v : D) : List (Str × D) → List (Str × D)
  | [] => [(f, v)]
  | (g, x) :: r => if g = f then (g, v) :: r else (g, x) :: putFD f v r
theorem Kv.putF {K : PySem.W.Frag} {H : Hp} {f : Str} {v : V} {d : D} (h : Is K H v d) : ∀ {us : List (Str × V)} {ds : List (Str × D)}, Kv K H us ds → Kv K H (L2.putF f v us) (putFD f d ds)
  | _, _, .nil => .cons h .nil
  | (g, _) :: _, _, .cons q t => by
    unfold L2.putF putFD
    split
    · exact .cons h t
    · exact .cons q (t.putF h)
section
variable {S : Sys} {ρ : DEnv} {ta tv te : TE} {Q : D → Prop} {P : Post} {C : Addr} {f : Str} {t : TA}
theorem ev_fldC (h : Ev S ta ρ fun x => ∃ fs d, x = .obj C fs ∧ fs.lookup f = some d ∧ Q d) : Ev S (tFldC C ta f) ρ Q := fun O σ H I Qv k => by
  refine h O σ H I _ fun x v H1 l1 t1 i1 ⟨fs, d, ex, e, q⟩ => ?_
  subst ex
  obtain ⟨a, dx, us, rfl, ha, ke, is⟩ := is_obj i1
  rcases (kv_of ke is).mapL (k := f) with ⟨v, d', e1, e2, i⟩ | ⟨_, e2⟩
  · rw [e] at e2
    cases e2
    exact ⟨a, dx, us, v, rfl, (hid_some ha).2, e1, k d v H1 l1 t1 i q⟩
  · rw [e] at e2; cases e2
/-- of what is being made -/
theorem ev_fldO {i : Nat} {a : Addr} {fs : List (Str × D)} {d : D} (hs : ρ[i]? = some (some (.ownI a C fs))) (e : fs.lookup f = some d) (q : Q d) : Ev S (tFldC C (tVar i) f) ρ Q := fun O σ H I Qv k => by
  obtain ⟨v, hv, l, rfl, hl, el, dx, us, ha, ke, is⟩ := I.at_ i _ hs
  rcases (kv_of ke is).mapL (k := f) with ⟨w, d', e1, e2, i⟩ | ⟨_, e2⟩
  · rw [e] at e2
    cases e2
    exact ⟨.ref l, hv, l, dx, us, w, rfl, ha, e1, k d w H (Le.refl _ _) I.t i q⟩
  · rw [e] at e2; cases e2
/-- self.f = e -/
theorem run_fld {i : Nat} {a : Addr} {fs : List (Str × D)} (hs : ρ[i]? = some (some (.ownI a C fs))) (hz : fs.length < 1000) (h : Ev S tv ρ fun d => P.nx (ρ.set i (some (.ownI a C (putFD f d fs))))) : Run S (sFldC C (tVar i) tv f) ρ P := fun B O σ H I Dv k1 _ _ _ => by
  obtain ⟨v0, hv, l, rfl, hl, el, dx, us, ha, ke, is⟩ := I.env.at_ i _ hs
  refine h O σ H I.env _ fun d v H1 l1 t1 i1 q => ?_
  obtain ⟨I1, s1⟩ := I.go l1 t1
  have nM : l ∉ S.M := I.env.outM i l ⟨_, hs, rfl, hv⟩
  have e1 := l1 _ _ nM ha
  have kv := (kv_of ke is).ex (hid_le l1 I.env.sub)
  refine ⟨.ref l, hv, l, dx, us, rfl, e1, by rw [kv.length]; exact hz, ?_⟩
  have kv2 := (kv.putF (f := f) i1).ex (hid_upd (H := H1) (o := .ins C dx (L2.putF f v us)) hl)
  obtain ⟨I2, s2⟩ := I1.mut (s' := .ownI a C (putFD f d fs)) (o := .ins C dx (L2.putF f v us)) hs rfl rfl hv hl ⟨el, dx, _, upd_same, kv2.keys, kv2.vals⟩
  exact k1 _ _ _ _ I2 (s1.trans s2) q
/-! ### what knows of no list, dict or instance -/
mutual
inductive Pur : D → Prop
  | non : Pur .non
  | bl (b : Bool) : Pur (.bl b)
  | int (i : Int) : Pur (.int i)
  | str (x : Str) : Pur (.str x)
  | ty (n : String) : Pur (.ty n)
  | tup {xs : List D} : Purs xs → Pur (.tup xs)
inductive Purs : List D → Prop
  | nil : Purs []
  | cons {d : D} {ds : List D} : Pur d → Purs ds → Purs (d :: ds)
end
theorem purs_of : ∀ {ds : List D}, (∀ d ∈ ds, Pur d) → Purs ds
  | [], _ => .nil
  | d :: ds, h => .cons (h d List.mem_cons_self) (purs_of fun x m => h x (List.mem_cons_of_mem _ m))
theorem Is.pur {K : PySem.W.Frag} {H H' : Hp} (e : ∀ a vs, H a = some (.tup vs) → H' a = some (.tup vs)) {v : V} {d : D} (h : Is K H v d) (n : Pur d) : Is K H' v d := by
  revert n
  refine Is.rec (motive_1 := fun v d _ => Pur d → Is K H' v d) (motive_2 := fun vs ds _ => Purs ds → Iss K H' vs ds) ?_ ?_ ?_ ?_ ?_ ?_ ?_ ?_ ?_ ?_ ?_ ?_ ?_ ?_ ?_ ?_ h
  · exact fun _ => .non
  · exact fun b _ => .bl b
  · exact fun i _ => .int i
  · exact fun x _ => .str x
  · exact fun n _ => .ty n
  · intro a n; cases n
  · intro a vs ds h t ih n
    cases n with | tup n => exact .tup (e _ _ h) (ih n)
  · intro a vs ds h t ih n; cases n
  · intro a vs ds h t ih n; cases n
  · intro a kvs ds h k t ih n; cases n
  · intro a o kvs ds h k t ih n; cases n
  · intro a o vs ds h t ih n; cases n
  · intro a kvs ds h k t ih n; cases n
  · intro a C dx fs ds h k t ih n; cases n
  · exact fun _ => .nil
  · intro v d vs ds h t ih1 ih2 n
    cases n with | cons n m => exact .cons (ih1 n) (ih2 m)
/-- an owned object is no tuple -/
theorem own_notup {K : PySem.W.Frag} {O : List Addr} {H : Hp} {l : Addr} {s : Sl} (h : OwnOk K O H l s) : ∃ o, H l = some o ∧ ∀ vs, o ≠ .tup vs := by
  cases s with
  | dat d => exact h.elim
  | own xs => obtain ⟨vs, e, _⟩ := h; exact ⟨_, e, fun _ z => by cases z⟩
  | ownK xs => obtain ⟨vs, e, _⟩ := h; exact ⟨_, e, fun _ z => by cases z⟩
  | ownT xs => obtain ⟨vs, e, _⟩ := h; exact ⟨_, e, fun _ z => by cases z⟩
  | ownI b C xs => obtain ⟨_, dx, vs, e, _⟩ := h; exact ⟨_, e, fun _ z => by cases z⟩
theorem SlOk.own {K : PySem.W.Frag} {O : List Addr} {H : Hp} {v : V} {s : Sl} (h : SlOk K O H v s) (ho : s.isOwn = true) : ∃ l, v = .ref l ∧ l ∈ O ∧ OwnOk K O H l s := by
  cases s with
  | dat d => cases ho
  | own xs => exact h
  | ownK xs => exact h
  | ownT xs => exact h
  | ownI b C xs => exact h
/-- an owned object is read -/
theorem ev_borrowP {k : Nat} {s : Sl} (hk : ρ[k]? = some (some s)) (hs : s.isOwn = true) (h : Ev S te (ρ.set k (some (.dat s.d))) fun d => Pur d ∧ Q d) : Ev S te ρ Q := fun O σ H I Qv q => by
  obtain ⟨v0, hv0, ok⟩ := I.at_ k s hk
  obtain ⟨l, rfl, hl, own⟩ := ok.own hs
  obtain ⟨l', hv, I'⟩ := I.freeze hk hs
  rw [hv0] at hv
  cases hv
  obtain ⟨o, ho, nt⟩ := own_notup own
  have nM : l ∉ S.M := I.outM k l ⟨s, hk, hs, hv0⟩
  refine h _ σ H I' _ fun d v H1 l1 t1 i1 ⟨f, c⟩ => q d v H1 l1 t1 (i1.pur (fun a vs e => ?_) f) c
  obtain ⟨na, e2⟩ := hid_some e
  have ne : a ≠ l := fun z => by
    subst z
    rw [l1 _ _ nM ho] at e2
    cases e2
    exact nt vs rfl
  rw [hid_out fun m => na (List.mem_filter.mpr ⟨m, by simpa using ne⟩)]
  exact e2
/-! ### methods -/
theorem ev_meth {m : Str} {F : Fn} {E : XK} (h : Ev S ta ρ fun x => ∃ fs, x = .obj C fs ∧ fs.lookup m = none ∧ EvA S t ρ fun ds => F.f (x :: ds) Q) : Ev S (tMeth C m (spF (S0 S.K) F) [] E ta t) ρ Q := fun O σ H I Qv k => by
  refine h O σ H I _ fun x v H1 l1 t1 i1 ⟨fs, ex, e, h2⟩ => ?_
  subst ex
  obtain ⟨a, dx, us, rfl, ha, ke, is⟩ := is_obj i1
  have e1 : us.lookup m = none := by
    rcases (kv_of ke is).mapL (k := m) with ⟨v, d', e1, e2, i⟩ | ⟨e1, _⟩
    · rw [e] at e2; cases e2
    · exact e1
  refine ⟨a, dx, us, rfl, (hid_some ha).2, e1, ?_⟩
  refine h2 O σ H1 (I.le l1 t1) _ fun ds vs H2 l2 t2 i2 q => ?_
  rw [List.append_nil]
  refine ⟨O, .obj C fs :: ds, trivial, fun a ha => absurd ha (by simp [S0]), (I.le (l1.trans l2) t2).live, .cons (i1.ex (hid_le l2 I.sub)) i2, F.mono _ _ _ (fun d c v H' l _ i => ?_) q⟩
  have l' : Same H2 H' := fun a o e => l a o (by simp [S0]) e
  exact k d v H' ((l1.trans l2).trans (Le.same l')) (S.same _ _ l' t2) i c
/-! ### what is made -/
structure FnI where
  f : List D → (List (Str × D) → Prop) → Prop
  mono : ∀ ds Q Q', (∀ d, Q d → Q' d) → f ds Q → f ds Q'
def spI (K : PySem.W.Frag) (C : Addr) (F : FnI) : Sp := fun vs H Q _ => ∃ O ds a dx ws, vs = .ref a :: ws ∧ H a = some (.ins C dx []) ∧ a ∉ O ∧ (∀ b ∈ O, H b ≠ none) ∧ Iss K (hid (a :: O) H) ws ds ∧
  F.f ds fun fs => ∀ H' us dx', Le [a] H H' → H' a = some (.ins C dx' us) → Kv K (hid (a :: O) H') us fs → Q .non H'
def startI (N : List Str) (a C : Addr) (ds : List D) : DEnv := (startD N (.loc a :: ds)).set 0 (some (.ownI a C []))
theorem body_ofI {K : PySem.W.Frag} {F : FnI} {ts : TS} {N : List Str} {vs : List V} {H : Hp} {Q : VK} {E : XK} (h : spI K C F vs H Q E) (hr : ∀ a ds R, F.f ds R → Run (S0 K) ts (startI N a C ds) ⟨fun ρ' => ∃ fs, ρ'[0]? = some (some (.ownI a C fs)) ∧ R fs, fun _ => False, fun _ => False, fun _ => False⟩) :
    ts { nx := fun _ H' => Q .non H', rt := Q } (L2.start N vs) H := by
  obtain ⟨O, ds, a, dx, ws, rfl, ha, na, live, i, q⟩ := h
  have hl : 0 < (startD N (.loc a :: ds)).length := by simp [startD]
  have at_ : ∀ (i : Nat) (s : Sl), (startI N a C ds)[i]? = some (some s) → (i = 0 ∧ s = .ownI a C []) ∨ (∃ d, s = .dat d ∧ (D.loc a :: ds)[i]? = some d ∧ i ≠ 0) := fun i s h => by
    unfold startI at h
    by_cases e : 0 = i
    · subst e
      rw [List.getElem?_set_self hl] at h
      cases h
      exact .inl ⟨rfl, rfl⟩
    · rw [List.getElem?_set_ne e] at h
      unfold startD at h
      by_cases hi : i < (D.loc a :: ds).length
      · rw [List.getElem?_append_left (by simpa using hi), List.getElem?_map] at h
        cases e2 : (D.loc a :: ds)[i]? with
        | none => rw [e2] at h; cases h
        | some d =>
          rw [e2] at h
          exact .inr ⟨d, (Option.some.inj (Option.some.inj h)).symm, rfl, fun z => e z.symm⟩
      · rw [List.getElem?_append_right (by simpa using hi), List.getElem?_replicate] at h
        split at h <;> cases h
  have own : ∀ i l, OwnAt (startI N a C ds) (L2.start N (.ref a :: ws)) l i → i = 0 ∧ l = a := fun i l ⟨s, h1, h2, h3⟩ => by
    rcases at_ i s h1 with ⟨rfl, _⟩ | ⟨d, rfl, _⟩
    · refine ⟨rfl, ?_⟩
      have e : (L2.start N (.ref a :: ws))[0]? = some (some (V.ref a)) := by unfold L2.start; simp
      rw [e] at h3
      cases h3
      rfl
    · cases h2
  have I : SOk (S0 K) ⟨hid [a] H, O⟩ (a :: O) (startI N a C ds) (L2.start N (.ref a :: ws)) H := ⟨{
    len := by unfold startI startD L2.start; simp [i.length]
    t := trivial
    sub := fun b hb => absurd hb (by simp [S0])
    live := fun b hb => by
      rcases List.mem_cons.mp hb with rfl | hb
      · rw [ha]; exact fun z => by cases z
      · exact live b hb
    at_ := fun j s hs => by
      rcases at_ j s hs with ⟨rfl, rfl⟩ | ⟨d, rfl, hd, hj⟩
      · exact ⟨.ref a, by unfold L2.start; simp, a, rfl, List.mem_cons_self, rfl, dx, [], ha, rfl, .nil⟩
      · obtain ⟨j', rfl⟩ : ∃ j', j = j' + 1 := ⟨j - 1, by omega⟩
        have hd' : ds[j']? = some d := by simpa using hd
        obtain ⟨v, hv, iv⟩ := i.get hd'
        refine ⟨v, ?_, iv⟩
        have hj : j' < ws.length := by
          by_cases h : j' < ws.length
          · exact h
          · rw [List.getElem?_eq_none (by simpa using h)] at hv; cases hv
        unfold L2.start
        rw [List.getElem?_append_left (by simpa using hj), List.getElem?_map, List.getElem?_cons_succ, hv] <;> rfl
    dis := fun i j l hi hj => (own i l hi).1.trans (own j l hj).1.symm
    outM := fun i l h => by simp [S0]
    xk := ⟨fun _ _ _ e => (by cases e), fun _ _ _ => rfl⟩ }, fun b hb => List.mem_cons_of_mem _ hb, fun b o _ e => (hid_some e).2, fun b hb e => by
      have e' : hid [a] H b = none := e
      rw [hid_out (by simp only [List.mem_singleton]; exact fun z => na (by rw [← z]; exact hb))] at e'
      exact live b hb e', fun i l h => by
      obtain ⟨_, rfl⟩ := own i l h
      exact if_pos List.mem_cons_self⟩
  refine hr a ds _ q _ _ _ H I _ (fun ρ' O' σ' H' I' _ ⟨fs, h0, r⟩ => ?_) (fun _ _ _ _ _ _ _ z => z.elim) (fun _ _ _ _ _ _ z => z.elim) (fun _ _ _ _ _ _ z => z.elim)
  obtain ⟨v, hv, l, rfl, hl2, rfl, dx', us, e, ke, is⟩ := I'.env.at_ 0 _ h0
  refine r H' us dx' (fun b o nb eb => I'.le b o (by simp [S0]) ((hid_out nb).trans eb)) e ((kv_of ke is).ex (hid_sub fun b hb => ?_))
  rcases List.mem_cons.mp hb with rfl | hb
  · exact hl2
  · exact I'.sub b hb
theorem ev_make {F : FnI} {E : XK} {dvs : List V} {dds : List D} (hd : ∀ H, Iss S.K H dvs dds) (h : EvA S t ρ fun ds => F.f (ds ++ dds) fun fs => Q (.obj C fs)) : Ev S (tMake C (spI S.K C F) dvs E t) ρ Q := fun O σ H I Qv k => by
  refine h O σ H I _ fun ds vs H1 l1 t1 i1 q => ?_
  intro x dx hx hdx nx
  have I1 := I.le l1 t1
  have nO : x ∉ O := fun m => I1.live x m hx
  have nD : dx ∉ O := fun m => I1.live dx m hdx
  have s1 : Same H1 (upd (upd H1 dx (.own x)) x (.ins C dx [])) := fun a o e => by
    rw [upd_ne (ne_of_none e hx), upd_ne (ne_of_none e hdx)]
    exact e
  refine ⟨O, ds ++ dds, x, dx, vs ++ dvs, rfl, upd_same, nO, fun b hb e => ?_, Iss.append (i1.ex fun a o e => ?_) (hd _), F.mono _ _ _ (fun fs c H' us dx' l' e' kv => ⟨rfl, ?_⟩) q⟩
  · cases q : H1 b with
    | none => exact I1.live b hb q
    | some o => rw [s1 b o q] at e; cases e
  · obtain ⟨n, e⟩ := hid_some e
    have na : a ≠ x := ne_of_none e hx
    rw [hid_out (by simp only [List.mem_cons, not_or]; exact ⟨na, n⟩)]
    exact s1 a o e
  · have ls : Same H1 H' := fun a o e => l' a o (by simp only [List.mem_singleton]; exact ne_of_none e hx) (s1 a o e)
    exact k _ _ H' (l1.trans (Le.same ls)) (S.same _ _ ls t1) (.obj (by rw [hid_out nO]; exact e') (kv.ex (hid_sub fun b hb => List.mem_cons_of_mem _ hb)).keys (kv.ex (hid_sub fun b hb => List.mem_cons_of_mem _ hb)).vals) c
end
end NB

end PART_NB11
section PART_NB12
set_option Elab.async false
set_option linter.all false
set_option maxRecDepth 100000
set_option maxHeartbeats 4000000
set_option autoImplicit false
/-! NB12: new lists, to be changed by whom they are given; what else own classes want. -/
namespace NB
open PySem PySem.Spec PyProof.Rows L2 NC

/-- the value is a new list, of which nothing else knows -/
def EvF (S : Sys) (te : TE) (ρ : DEnv) (Q : List D → Prop) : Prop :=
  ∀ O σ H, EnvOk S O ρ σ H → ∀ Qv : VK, (∀ xs a us H', Le S.M H H' → S.T H' → H a = none → H' a = some (.lst us) → Iss S.K (hid (a :: O) H') us xs → Q xs → Qv (.ref a) H') → te σ H Qv
section
variable {S : Sys} {ρ : DEnv} {ta tv te : TE} {P : Post} {C : Addr} {t : TA} {Q : List D → Prop}
theorem EvF.imp {Q' : List D → Prop} (h : EvF S te ρ Q) (q : ∀ d, Q d → Q' d) : EvF S te ρ Q' := fun O σ H I Qv k => h O σ H I Qv fun xs a us H' l t n e i c => k xs a us H' l t n e i (q _ c)
theorem evf_lst (h : EvA S t ρ fun xs => xs.length ≤ sizeLine ∧ Q xs) : EvF S (tLst t) ρ Q := fun O σ H I Qv k => by
  refine h O σ H I _ fun xs vs H1 l1 t1 i1 ⟨z, q⟩ => ?_
  refine ⟨by rw [i1.length]; exact z, fun p hp => ?_⟩
  have hp0 : H p = none := by
    cases e : H p with
    | none => rfl
    | some o =>
      by_cases m : p ∈ S.M
      · exact absurd hp (S.live _ t1 p m)
      · rw [l1 p o m e] at hp; cases hp
  exact k xs p vs _ (l1.trans (Le.same (Same.upd hp))) (S.same _ _ (Same.upd hp) t1) hp0 upd_same (iss_push hp i1) q
/-- list(x) -/
theorem evf_list (h : EvA S t ρ fun ds => ∃ xs, (ds = [.lst xs] ∨ ds = [.tup xs]) ∧ Q xs) : EvF S (tCB (rListQ S.K) t) ρ Q := fun O σ H I Qv k => by
  refine h O σ H I _ fun ds vs H1 l1 t1 i1 ⟨xs, e, q⟩ => ?_
  have : ∃ p ys, vs = [.ref p] ∧ (SqL S.K H1 p ys ∨ SqT S.K H1 p ys) ∧ Iss S.K (hid O H1) ys xs := by
    rcases e with rfl | rfl
    · obtain ⟨v, rfl, h⟩ := iss1 i1
      obtain ⟨a, us, rfl, hs, is⟩ := is_lst h
      exact ⟨a, us, rfl, .inl (sqL_hid hs), is⟩
    · obtain ⟨v, rfl, h⟩ := iss1 i1
      obtain ⟨a, us, rfl, hs, is⟩ := is_tup h
      exact ⟨a, us, rfl, .inr (sqT_hid hs), is⟩
  obtain ⟨p, ys, rfl, hs, is⟩ := this
  refine ⟨p, ys, rfl, hs, fun l hl => ?_⟩
  have hp0 : H l = none := by
    cases e : H l with
    | none => rfl
    | some o =>
      by_cases m : l ∈ S.M
      · exact absurd hl (S.live _ t1 l m)
      · rw [l1 l o m e] at hl; cases hl
  exact k xs l ys _ (l1.trans (Le.same (Same.upd hl))) (S.same _ _ (Same.upd hl) t1) hp0 upd_same (iss_push hl is) q
/-- a def whose value is new -/
def spR (K : PySem.W.Frag) (F : Fn) : Sp := fun vs H Q _ => ∃ O ds, (∀ a ∈ O, H a ≠ none) ∧ Iss K (hid O H) vs ds ∧ F.f ds fun d => ∀ xs a us H', d = .lst xs → Same H H' → H a = none → H' a = some (.lst us) → Iss K (hid (a :: O) H') us xs → Q (.ref a) H'
theorem body_ofR {K : PySem.W.Frag} {F : Fn} {ts : TS} {N : List Str} {vs : List V} {H : Hp} {Q : VK} {E : XK} (h : spR K F vs H Q E) (hr : ∀ ds R, F.f ds R → Run (S0F K) ts (startD N ds) ⟨fun _ => False, R, fun _ => False, fun _ => False⟩) :
    ts { nx := fun _ H' => Q .non H', rt := Q } (L2.start N vs) H := by
  obtain ⟨O, ds, live, i, f⟩ := h
  refine hr ds _ f ⟨H, O⟩ O _ H (sok_start trivial (fun a ha => absurd ha (by simp [S0F])) live i ⟨fun _ _ _ e => (by cases e), fun _ _ _ => rfl⟩) _ (fun _ _ _ _ _ _ q => q.elim) (fun d v H' l t i fr q => ?_) (fun _ _ _ _ _ _ q => q.elim) (fun _ _ _ _ _ _ q => q.elim)
  obtain ⟨a, us, xs, rfl, ed, n, e, is⟩ := fr rfl
  exact q xs a us H' ed (fun b o eb => l b o (by simp [S0F]) eb) n e is
theorem evf_call {F : Fn} {E : XK} (h : EvA S t ρ fun ds => F.f ds fun d => ∃ xs, d = .lst xs ∧ Q xs) : EvF S (tCall (spR S.K F) [] E t) ρ Q := fun O σ H I Qv k => by
  refine h O σ H I _ fun ds vs H1 l1 t1 i1 q => ?_
  rw [List.append_nil]
  refine ⟨O, ds, (I.le l1 t1).live, i1, F.mono _ _ _ (fun d ⟨xs', e', c⟩ xs a us H' ed s n e i => ?_) q⟩
  rw [e'] at ed
  cases ed
  have n0 : H a = none := by
    cases e : H a with
    | none => rfl
    | some o =>
      by_cases m : a ∈ S.M
      · exact absurd n (S.live _ t1 a m)
      · rw [l1 a o m e] at n; cases n
  exact k _ a us H' (l1.trans (Le.same s)) (S.same _ _ s t1) n0 e i c
theorem evf_meth {m : Str} {F : Fn} {E : XK} (h : Ev S ta ρ fun x => ∃ fs, x = .obj C fs ∧ fs.lookup m = none ∧ EvA S t ρ fun ds => F.f (x :: ds) fun d => ∃ xs, d = .lst xs ∧ Q xs) : EvF S (tMeth C m (spR S.K F) [] E ta t) ρ Q := fun O σ H I Qv k => by
  refine h O σ H I _ fun x v H1 l1 t1 i1 ⟨fs, ex, e, h2⟩ => ?_
  subst ex
  obtain ⟨a, dx, us, rfl, ha, ke, is⟩ := is_obj i1
  have e1 : us.lookup m = none := by
    rcases (kv_of ke is).mapL (k := m) with ⟨v, d', e1, e2, i⟩ | ⟨e1, _⟩
    · rw [e] at e2; cases e2
    · exact e1
  refine ⟨a, dx, us, rfl, (hid_some ha).2, e1, ?_⟩
  refine h2 O σ H1 (I.le l1 t1) _ fun ds vs H2 l2 t2 i2 q => ?_
  rw [List.append_nil]
  refine ⟨O, .obj C fs :: ds, (I.le (l1.trans l2) t2).live, .cons (i1.ex (hid_le l2 I.sub)) i2, F.mono _ _ _ (fun d ⟨xs', e', c⟩ xs a us H' ed s n e i => ?_) q⟩
  rw [e'] at ed
  cases ed
  have l := l1.trans l2
  have n0 : H a = none := by
    cases e : H a with
    | none => rfl
    | some o =>
      by_cases m : a ∈ S.M
      · exact absurd n (S.live _ t2 a m)
      · rw [l a o m e] at n; cases n
  exact k _ a us H' (l.trans (Le.same s)) (S.same _ _ s t2) n0 e i c
/-- a new list is data, too -/
theorem EvF.ev {Q : D → Prop} (h : EvF S te ρ fun xs => Q (.lst xs)) : Ev S te ρ Q := fun O σ H I Qv k => h O σ H I Qv fun xs a us H' l t n e i q => by
  have nO : a ∉ O := fun m => I.live a m n
  exact k _ _ H' l t (.lst (by rw [hid_out nO]; exact e) (i.ex (hid_sub fun b hb => List.mem_cons_of_mem _ hb))) q
/-- a call of such a def, its value taken as data -/
theorem ev_callR {F : Fn} {E : XK} {Q : D → Prop} (h : EvA S t ρ fun ds => F.f ds fun d => ∃ xs, d = .lst xs ∧ Q d) : Ev S (tCall (spR S.K F) [] E t) ρ Q := EvF.ev (evf_call (h.imp fun ds q => F.mono _ _ _ (fun d ⟨xs, e, c⟩ => ⟨xs, e, by rw [← e]; exact c⟩) q))
theorem ev_methR {m : Str} {F : Fn} {E : XK} {Q : D → Prop} (h : Ev S ta ρ fun x => ∃ fs, x = .obj C fs ∧ fs.lookup m = none ∧ EvA S t ρ fun ds => F.f (x :: ds) fun d => ∃ xs, d = .lst xs ∧ Q d) : Ev S (tMeth C m (spR S.K F) [] E ta t) ρ Q :=
  EvF.ev (evf_meth (h.imp fun x ⟨fs, e, l, q⟩ => ⟨fs, e, l, q.imp fun ds q => F.mono _ _ _ (fun d ⟨xs, e, c⟩ => ⟨xs, e, by rw [← e]; exact c⟩) q⟩))
/-- x = (a new list), to be changed later -/
theorem run_setF {k : Nat} (h : EvF S te ρ fun xs => P.nx (ρ.set k (some (.own xs)))) : Run S (tAsg te (gName k)) ρ P := fun B O σ H I Dv k1 _ _ _ => by
  refine h O σ H I.env _ fun xs p us H1 l1 t1 n e is q => ?_
  have np : p ∉ O := fun m => I.env.live p m n
  have I1 : EnvOk S (p :: O) ρ σ H1 := I.env.owned n (by rw [e]; exact fun z => by cases z) (le_cons l1) t1
  have old : ∀ i, OwnAt ρ σ p i → False := fun i ⟨s, h1, h2, h3⟩ => by
    obtain ⟨v, hv, q⟩ := I.env.at_ i s h1
    rw [h3] at hv
    cases hv
    obtain ⟨l, e, m, _⟩ := q.own h2
    cases e
    exact np m
  have hB : B.H0 p = none := by
    cases q : B.H0 p with
    | none => rfl
    | some u =>
      have nM : p ∉ S.M := fun m => np (I.env.sub _ m)
      rw [I.le p u nM q] at n; cases n
  have sel : ∀ i l, OwnAt (ρ.set k (some (.own xs))) (σ.set k (some (.ref p))) l i → (i = k ∧ l = p) ∨ (i ≠ k ∧ OwnAt ρ σ l i) := fun i l h => by
    by_cases ei : k = i
    · subst ei
      have e := h.self.1
      cases e
      exact .inl ⟨rfl, rfl⟩
    · exact .inr ⟨fun z => ei z.symm, h.ne ei⟩
  have I2 : SOk S B (p :: O) (ρ.set k (some (.own xs))) (σ.set k (some (.ref p))) H1 := ⟨{
    len := by rw [List.length_set, List.length_set]; exact I1.len
    t := t1
    sub := I1.sub
    live := I1.live
    at_ := fun i u hu => by
      by_cases ei : k = i
      · subst ei
        have hk : k < ρ.length := by
          by_cases hk : k < ρ.length
          · exact hk
          · rw [List.getElem?_eq_none (by simpa using hk)] at hu; cases hu
        rw [List.getElem?_set_self hk] at hu
        cases hu
        exact ⟨.ref p, List.getElem?_set_self (by rw [I1.len]; exact hk), p, rfl, List.mem_cons_self, us, e, is⟩
      · rw [List.getElem?_set_ne ei] at hu ⊢
        exact I1.at_ i u hu
    dis := fun i j l hi hj => by
      rcases sel i l hi with ⟨e1, e2⟩ | ⟨e1, o1⟩
      · rcases sel j l hj with ⟨e3, _⟩ | ⟨_, o2⟩
        · rw [e1, e3]
        · rw [e2] at o2; exact (old j o2).elim
      · rcases sel j l hj with ⟨e3, e4⟩ | ⟨_, o2⟩
        · rw [e4] at o1; exact (old i o1).elim
        · exact I1.dis i j l o1 o2
    outM := fun i l hi => by
      rcases sel i l hi with ⟨_, e2⟩ | ⟨_, o1⟩
      · rw [e2]; exact fun m => np (I.env.sub _ m)
      · exact I1.outM i l o1
    xk := I1.xk }, fun a ha => List.mem_cons_of_mem _ (I.sub a ha), I.le.trans l1, I.live, fun i l hi => by
      rcases sel i l hi with ⟨_, e2⟩ | ⟨_, o1⟩
      · rw [e2]; exact hB
      · exact I.own i l o1⟩
  refine k1 _ _ _ _ I2 ⟨fun a ha => ?_, fun a o na e => l1 a o (fun m => na (I.env.sub a m)) e⟩ q
  rcases List.mem_cons.mp ha with rfl | ha
  · exact .inr n
  · exact .inl ha
/-- return (a new list) -/
theorem run_retF (h : EvF S te ρ fun xs => P.rt (.lst xs)) : Run S (tRet te) ρ P := fun B O σ H I Dv _ k _ _ =>
  h O σ H I.env _ fun xs a us H1 l1 t1 n e is q => by
    have nO : a ∉ O := fun m => I.env.live a m n
    have hB : B.H0 a = none := by
      cases q : B.H0 a with
      | none => rfl
      | some u =>
        have nM : a ∉ S.M := fun m => nO (I.env.sub _ m)
        rw [I.le a u nM q] at n; cases n
    have sub : ∀ b ∈ a :: B.O0, b ∈ a :: O := fun b hb => by
      rcases List.mem_cons.mp hb with rfl | hb
      · exact List.mem_cons_self
      · exact List.mem_cons_of_mem _ (I.sub b hb)
    have is' := is.ex (hid_sub sub)
    exact k (.lst xs) (.ref a) H1 (I.le.trans l1) t1 (.lst (by rw [hid_out fun m => nO (I.sub a m)]; exact e) (is'.ex (hid_sub fun b hb => List.mem_cons_of_mem _ hb))) (fun _ => ⟨a, us, xs, rfl, rfl, hB, e, is'⟩) q
/-- return x, x an owned list -/
theorem run_retO {k : Nat} {xs : List D} (hk : ρ[k]? = some (some (.own xs))) (q : P.rt (.lst xs)) : Run S (tRet (tVar k)) ρ P := fun B O σ H I Dv _ c _ _ => by
  obtain ⟨l, vs, hv, hl, e, is⟩ := I.own_at hk
  have h0 := I.own k l ⟨_, hk, rfl, hv⟩
  refine ⟨.ref l, hv, ?_⟩
  have nO : l ∉ B.O0 := fun m => I.live l m h0
  have sub : ∀ b ∈ l :: B.O0, b ∈ O := fun b hb => by
    rcases List.mem_cons.mp hb with rfl | hb
    · exact hl
    · exact I.sub b hb
  have is' := is.ex (hid_sub sub)
  exact c (.lst xs) (.ref l) H I.le I.env.t (.lst (by rw [hid_out nO]; exact e) (is'.ex (hid_sub fun b hb => List.mem_cons_of_mem _ hb))) (fun _ => ⟨l, vs, xs, rfl, rfl, h0, e, is'⟩) q
/-- x.extend(e) -/
theorem run_extend {k : Nat} {xs : List D} (hk : ρ[k]? = some (some (.own xs))) (h : Ev S te ρ fun d => ∃ ys, d = .lst ys ∧ xs.length + ys.length ≤ sizeLine ∧ P.nx (ρ.set k (some (.own (xs ++ ys))))) : Run S (tDrop (tBM S.K "list" rExtend (tVar k) (tCons te tNil))) ρ P := fun B O σ H I Dv k1 _ _ _ => by
  obtain ⟨l, vs, hv, hl, e, is⟩ := I.own_at hk
  refine ⟨.ref l, hv, .inl ⟨rfl, _, .inl (.inl e)⟩, ?_⟩
  refine h O σ H I.env _ fun d v H1 l1 t1 i1 ⟨ys, ed, hz, q⟩ => ?_
  subst ed
  obtain ⟨I1, s1⟩ := I.go l1 t1
  have nM : l ∉ S.M := I.env.outM k l ⟨_, hk, rfl, hv⟩
  have e1 := l1 _ _ nM e
  have is1 := is.ex (hid_le l1 I.env.sub)
  obtain ⟨b, ws, rfl, hb, ib⟩ := is_lst i1
  refine ⟨l, b, vs, ws, rfl, rfl, e1, (hid_some hb).2, by rw [is.length, ib.length]; exact hz, ?_⟩
  obtain ⟨I2, s2⟩ := I1.mut (s' := .own (xs ++ ys)) (o := .lst (vs ++ ws)) hk rfl rfl hv hl ⟨_, upd_same, Iss.append (is1.ex (hid_upd hl)) (ib.ex (hid_upd hl))⟩
  exact k1 _ _ _ _ I2 (s1.trans s2) q
/-- (a new list).append(e): nothing is left of it -/
theorem run_drop_append (h : EvF S te ρ fun xs => xs.length < sizeLine ∧ Ev S tv ρ fun _ => P.nx ρ) : Run S (tDrop (tBM S.K "list" rAppend te (tCons tv tNil))) ρ P := fun B O σ H I Dv k1 _ _ _ => by
  refine h O σ H I.env _ fun xs a us H1 l1 t1 n e is ⟨hz, h2⟩ => ?_
  have nO : a ∉ O := fun m => I.env.live a m n
  have nM : a ∉ S.M := fun m => nO (I.env.sub _ m)
  refine ⟨.inl ⟨rfl, _, .inl (.inl e)⟩, ?_⟩
  refine h2 O σ H1 (I.env.le l1 t1) _ fun d v H2 l2 t2 i2 q => ?_
  have e2 := l2 _ _ nM e
  refine ⟨a, us, v, rfl, rfl, e2, by rw [is.length]; exact hz, ?_⟩
  have le : Le S.M H (upd H2 a (.lst (us ++ [v]))) := fun b o nb eb => by
    rw [upd_ne (ne_of_none eb n)]
    exact (l1.trans l2) b o nb eb
  obtain ⟨I3, s3⟩ := I.go le (S.upd_own t2 nM (fun _ z => by rw [e2] at z; cases z))
  exact k1 _ _ _ _ I3 s3 q
end
end NB

end PART_NB12
section PART_NB13
set_option Elab.async false
set_option linter.all false
set_option maxRecDepth 100000
set_option maxHeartbeats 4000000
set_option autoImplicit false
/-! NB13: rules with the text K told, for what NB7 to NB12 brought; slices of tuples; locks at statements. -/
namespace NB
open PySem PySem.Spec PyProof.Rows L2 NC
theorem un0 {k : Nat} {A : Around} (hr : Room k A) : A.units < cLine := by have := hr.un; omega
theorem un1 {k : Nat} {A : Around} (hr : Room k A) : A.units + 1 < cLine := by have := hr.un; omega
theorem un64 {k : Nat} {A : Around} (hr : Room k A) : A.units + 64 < cLine := by have := hr.un; omega
theorem un65 {k : Nat} {A : Around} (hr : Room k A) : A.units + 65 < cLine := by have := hr.un; omega
def rSlX3 (K : PySem.W.Frag) : V → Option Int → Option Int → Hp → VK → Prop := fun x lo hi H Q => rSlX2 K x lo hi H Q ∨ rSlA K x lo hi H Q
theorem sl_any3 {X : Cx} : SlR X (rSlX3 X.K) := SlR.or sl_any sl_tupA
namespace R
section
variable {X : Cx}
theorem sl_any3 (K : PySem.W.Frag) (h : X.K = K := by rfl) : SlR X (rSlX3 K) := h ▸ NB.sl_any3
theorem op_eqD (K : PySem.W.Frag) (hu : X.A.units + 64 < cLine) (h : X.K = K := by rfl) : OpR X (compareOp .Eq) (rEqD K) := h ▸ L2.op_eqD hu
theorem op_neD (K : PySem.W.Frag) (hu : X.A.units + 64 < cLine) (h : X.K = K := by rfl) : OpR X (compareOp .NotEq) (rNeD K) := h ▸ L2.op_neD hu
theorem op_inD (K : PySem.W.Frag) (hu : X.A.units + 65 < cLine) (h : X.K = K := by rfl) : OpR X (compareOp .In) (rInD K) := h ▸ L2.op_inD hu
theorem op_notInD (K : PySem.W.Frag) (hu : X.A.units + 65 < cLine) (h : X.K = K := by rfl) : OpR X (compareOp .NotIn) (rNotInD K) := h ▸ L2.op_notInD hu
end
end R
section
variable {S : Sys} {ρ : DEnv} {te : TE} {P : Post} {K : PySem.W.Frag} {Q : D → Prop}
/-- t[i:j] of a tuple that isn't whole -/
theorem rvs_any_t {ds : List D} {lo hi : Option Int} (q : Q (.tup (cutD ds lo hi))) : RvS K (rSlX3 K) (.tup ds) lo hi Q := fun O H v live hv Qv k => by
  obtain ⟨a, vs, rfl, hs, is⟩ := is_tupX hv
  refine .inr ⟨a, vs, rfl, .inl (.inl (hid_some hs).2), fun hw => ?_, fun hw p hp => ?_⟩
  · have e : cutD ds lo hi = ds := by
      unfold cutD
      rw [is.length] at hw
      rw [hw.1, hw.2, List.drop_zero, Nat.sub_zero, List.take_length]
    rw [e] at q
    exact k _ _ H (Same.refl _) (.tup hs is) q
  · exact k _ _ _ (Same.upd hp) (is_new_tup live hp (iss_cut is lo hi)) q
theorem rvs_any3_l {ds : List D} {lo hi : Option Int} (q : Q (.lst (cutD ds lo hi))) : RvS K (rSlX3 K) (.lst ds) lo hi Q := fun O H v live hv Qv k => .inl (rvs_any_l q O H v live hv Qv k)
theorem rvs_any3_s {z : Str} {lo hi : Option Int} (hz : z.length ≤ sizeLine) (q : Q (.str (cutS z lo hi))) : RvS K (rSlX3 K) (.str z) lo hi Q := fun O H v live hv Qv k => .inl (rvs_any_s hz q O H v live hv Qv k)
theorem evi_keys {Q : List D → Prop} (h : Ev S te ρ fun d => ∃ kvs, d = .dF kvs ∧ Q (kvs.map fun p => keyD p.1)) : EvI S (iKeys te) ρ Q := fun O σ H I R k => by
  refine h O σ H I _ fun d v H1 l1 t1 i1 ⟨kvs, e, q⟩ => ?_
  subst e
  obtain ⟨a, o, us, rfl, hs, ke, is⟩ := is_dF i1
  refine ⟨a, o, rfl, .inl ⟨us, (hid_some hs).2, k _ _ H1 l1 t1 ?_ q⟩⟩
  have hl : (kvs.map fun p => keyD p.1).length = us.length := by rw [List.length_map, ← List.length_map (as := us) (·.1), ke, List.length_map]
  rw [hl]
  refine walk_keys.mono (fun H2 l2 => (hid_some (hid_later l2 (fun a h => .inl h) _ _ hs)).2) fun i H2 x H3 hi l2 ⟨e3, kk, w, hk, ex⟩ => ?_
  subst e3 ex
  have hk2 : (kvs.map (·.1))[i]? = some kk := by rw [← ke, List.getElem?_map, hk]; rfl
  refine ⟨Same.refl _, keyD kk, ?_, fun O' new _ => ?_⟩
  · rw [List.getElem?_map] at hk2 ⊢
    cases e : kvs[i]? with
    | none => rw [e] at hk2; cases hk2
    | some p => rw [e] at hk2; cases hk2; rfl
  · cases kk with
    | inl i => exact .int i
    | inr x => exact .str x
def tLockSQ (t : TS) : TS := fun D σ H => tLock t D σ H ∨ t D σ H
theorem ps_lockQ {X : Cx} {st : Stmt} {t : TS} (h : PS X st t) : PS X st (tLockSQ t) := ⟨fun pins s σ H D I q => by
  rcases q with q | q
  · exact (ps_lock h).run pins s σ H D I q
  · exact h.run pins s σ H D I q⟩
theorem run_lockSet {i k : Nat} {s s' : Sl} (hs : ρ[i]? = some (some s)) (hl : Lk s s') (h : Ev S.calm te (ρ.set i (some s')) fun d => NoF d ∧ P.nx (ρ.set k (some (.dat d)))) : Run S (tLockSQ (tAsg te (gName k))) ρ P := fun B O σ H I Dv k1 k2 k3 k4 => by
  have e := ev_lock hs hl h O σ H I.env (fun v H1 => Dv.nx (σ.set k (some v)) H1) fun d v H1 l1 t1 i1 q => by
    obtain ⟨I1, s1⟩ := I.go l1 t1
    exact k1 _ _ _ _ (I1.set i1) s1 q
  rcases e with ⟨d, u, hd, mu, e⟩ | e
  · exact .inl ⟨d, u, hd, mu, e⟩
  · exact .inr e
end

/-! ### methods and makings by their promises -/
section
variable {P : Program} {w : World} {K : PySem.W.Frag} {mg : Str → Option Value} {base : Heap} {x qual m : Str} {params : Arguments} {body : List Stmt} {scope : Scope} {N ps : List Str} {k : Nat} {sp : Sp} {C f0 : Addr}
theorem met_of (c : Cls K C) (me : Meth K C m f0) (F : ∃ fd, FunD K m qual params body scope [] [] f0 fd) (S : FnScope N ps scope)
    (hb : ∀ (kV doc pm : Value) (an : Option Addr) (cdv ct : Value) (us : List Value), us.length = ps.length → bindArgs (PySem.W.fnOf m qual params body scope .none kV doc pm an cdv ct) ⟨us, []⟩ = pure (ps.zip us))
    (len : ∀ vs H Q E, sp vs H Q E → vs.length = ps.length)
    (hbody : ∀ (f : Addr) (cdv : Value) (A : Around) (outer : List PySem.Env) (s : Shared) (H : Hp) (vs : List V) (Q : VK) (E : XK), Room k (A.deeper (envOfC qual scope s.heap.objs.size f cdv)) → sp vs H Q E →
      ∃ t, PSs (cxOf CX0 P w K mg base N qual scope f cdv A outer s H E).nox body t ∧ t { nx := fun _ H' => Q .non H', rt := Q } (L2.start N vs) H) : C8.Met P w K mg base (k + 1) C m sp [] := by
  obtain ⟨fd, F⟩ := F
  refine ⟨f0, fd, ps, [], c, me, F.ok S len fun cdv A outer s H vs Q E hr h => ?_, F.bindsN hb, .nil⟩
  obtain ⟨t, h1, h2⟩ := hbody _ cdv A outer s H vs Q E hr h
  exact ⟨t, h1.nox, h2⟩
theorem met_ofD {Fx : Fn} (c : Cls K C) (me : Meth K C m f0) (F : ∃ fd, FunD K m qual params body scope [] [] f0 fd) (S : FnScope N ps scope)
    (hb : ∀ (kV doc pm : Value) (an : Option Addr) (cdv ct : Value) (us : List Value), us.length = ps.length → bindArgs (PySem.W.fnOf m qual params body scope .none kV doc pm an cdv ct) ⟨us, []⟩ = pure (ps.zip us))
    (len : ∀ ds R, Fx.f ds R → ds.length = ps.length)
    (hbody : ∀ (f : Addr) (cdv : Value) (A : Around) (outer : List PySem.Env) (s : Shared) (H : Hp) (E : XK), Room k (A.deeper (envOfC qual scope s.heap.objs.size f cdv)) →
      ∃ t, PSs (cxOf CX0 P w K mg base N qual scope f cdv A outer s H E).nox body t ∧ ∀ ds R, Fx.f ds R → Run (S0 K) t (startD N ds) ⟨fun _ => R .non, R, fun _ => False, fun _ => False⟩) : C8.Met P w K mg base (k + 1) C m (spF (S0 K) Fx) [] :=
  met_of c me F S hb (fun vs H Q E ⟨O, ds, _, _, _, i, f⟩ => i.length.trans (len ds _ f)) fun f cdv A outer s H vs Q E hr h => by
    obtain ⟨t, h1, h2⟩ := hbody f cdv A outer s H E hr
    exact ⟨t, h1, body_of h h2⟩
theorem met_ofR {Fx : Fn} (c : Cls K C) (me : Meth K C m f0) (F : ∃ fd, FunD K m qual params body scope [] [] f0 fd) (S : FnScope N ps scope)
    (hb : ∀ (kV doc pm : Value) (an : Option Addr) (cdv ct : Value) (us : List Value), us.length = ps.length → bindArgs (PySem.W.fnOf m qual params body scope .none kV doc pm an cdv ct) ⟨us, []⟩ = pure (ps.zip us))
    (len : ∀ ds R, Fx.f ds R → ds.length = ps.length)
    (hbody : ∀ (f : Addr) (cdv : Value) (A : Around) (outer : List PySem.Env) (s : Shared) (H : Hp) (E : XK), Room k (A.deeper (envOfC qual scope s.heap.objs.size f cdv)) →
      ∃ t, PSs (cxOf CX0 P w K mg base N qual scope f cdv A outer s H E).nox body t ∧ ∀ ds R, Fx.f ds R → Run (S0F K) t (startD N ds) ⟨fun _ => False, R, fun _ => False, fun _ => False⟩) : C8.Met P w K mg base (k + 1) C m (spR K Fx) [] :=
  met_of c me F S hb (fun vs H Q E ⟨O, ds, _, i, f⟩ => i.length.trans (len ds _ f)) fun f cdv A outer s H vs Q E hr h => by
    obtain ⟨t, h1, h2⟩ := hbody f cdv A outer s H E hr
    exact ⟨t, h1, body_ofR h h2⟩
theorem has_ofR {Fx : Fn} (F : ∃ fd, FunD K x x params body scope [] [] (He.ga K x) fd) (g : mg x = some (.ref (He.ga K x))) (S : FnScope N ps scope)
    (hb : ∀ (kV doc pm : Value) (an : Option Addr) (cdv ct : Value) (us : List Value), us.length = ps.length → bindArgs (PySem.W.fnOf x x params body scope .none kV doc pm an cdv ct) ⟨us, []⟩ = pure (ps.zip us))
    (len : ∀ ds R, Fx.f ds R → ds.length = ps.length)
    (hbody : ∀ (f : Addr) (cdv : Value) (A : Around) (outer : List PySem.Env) (s : Shared) (H : Hp) (E : XK), Room k (A.deeper (envOfC x scope s.heap.objs.size f cdv)) →
      ∃ t, PSs (cxOf CX0 P w K mg base N x scope f cdv A outer s H E).nox body t ∧ ∀ ds R, Fx.f ds R → Run (S0F K) t (startD N ds) ⟨fun _ => False, R, fun _ => False, fun _ => False⟩) : Has P w K mg base x (k + 1) ps (spR K Fx) :=
  has_of F g S hb (fun vs H Q E ⟨O, ds, _, i, f⟩ => i.length.trans (len ds _ f)) fun f cdv A outer s H vs Q E hr h => by
    obtain ⟨t, h1, h2⟩ := hbody f cdv A outer s H E hr
    exact ⟨t, h1, body_ofR h h2⟩
/-- C(..): b: how its __init__ binds -/
theorem mak_ofI {Fi : FnI} {dvs dv0 : List V} {f0 : Addr} (M : Mk K C f0) (hm : mg x = some (.ref C)) (F : ∃ fd, FunD K "__init__" qual params body scope dv0 [] f0 fd) (S : FnScope N ps scope)
    (hb : ∀ fd, FunD K "__init__" qual params body scope dv0 [] f0 fd → ∃ ds, Vals dvs ds ∧ Binds K fd ps ds) (len : ∀ ds R, Fi.f ds R → ds.length + 1 = ps.length)
    (hbody : ∀ (f : Addr) (cdv : Value) (A : Around) (outer : List PySem.Env) (s : Shared) (H : Hp) (E : XK), Room k (A.deeper (envOfC qual scope s.heap.objs.size f cdv)) →
      ∃ t, PSs (cxOf CX0 P w K mg base N qual scope f cdv A outer s H E).nox body t ∧ ∀ a ds R, Fi.f ds R → Run (S0 K) t (startI N a C ds) ⟨fun ρ' => ∃ fs, ρ'[0]? = some (some (.ownI a C fs)) ∧ R fs, fun _ => False, fun _ => False, fun _ => False⟩) :
    C8.Mak P w K mg base (k + 1) x C (spI K C Fi) dvs := by
  obtain ⟨fd, F⟩ := F
  obtain ⟨ds, v, b⟩ := hb fd F
  refine ⟨f0, fd, ps, ds, M, F.ok S (fun vs H Q E ⟨O, es, a, dx, ws, e, _, _, _, i, q⟩ => ?_) fun cdv A outer s H vs Q E hr h => ?_, hm, b, v⟩
  · rw [e, List.length_cons, i.length]
    exact len es _ q
  · obtain ⟨t, h1, h2⟩ := hbody _ cdv A outer s H E hr
    exact ⟨t, h1.nox, body_ofI h h2⟩
end
/-- in a tuple of the text -/
theorem rvr_inX_kt {K : PySem.W.Frag} {Q : D → Prop} {neg : Bool} {x : D} {ys : List D} (fx : plainD x = true) (fy : ys.all plainD = true) (q : Q (.bl (if neg then !inD x ys else inD x ys))) : RvR K (rInX K neg) x (.ktup ys) Q := fun O H v u live hv hu Qv k => by
  refine .inl ?_
  rw [is_dV hv (plain_flat fx)]
  obtain ⟨a, vs, rfl, hs, is⟩ := is_ktup hu
  have e := iss_dV is (plain_all fy)
  subst e
  exact ⟨a, _, rfl, .inr (sqT_hid hs), plain_flatV fx, plain_allV fy, k _ _ H (Same.refl _) (.bl _) q⟩

/-! ### a list or a tuple -/
def iSeq (K : PySem.W.Frag) (tl : TE) : TI := fun σ H R => iList K tl σ H R ∨ iTup K tl σ H R
theorem R.pi_seq {X : Cx} (K : PySem.W.Frag) {tg l : Expr} {tl : TE} (hl : PE X l tl) (h : X.K = K := by rfl) : PI X tg l (iSeq K tl) := ⟨fun pins s σ H Q I q => by
  rcases q with q | q
  · exact (R.pi_list K hl h).run pins s σ H Q I q
  · exact (R.pi_tup K hl h).run pins s σ H Q I q⟩
theorem evi_seqL {S : Sys} {ρ : DEnv} {te : TE} {Q : List D → Prop} (h : EvI S (iList S.K te) ρ Q) : EvI S (iSeq S.K te) ρ Q := fun O σ H I R k => .inl (h O σ H I R k)
theorem evi_seqT {S : Sys} {ρ : DEnv} {te : TE} {Q : List D → Prop} (h : EvI S (iTup S.K te) ρ Q) : EvI S (iSeq S.K te) ρ Q := fun O σ H I R k => .inr (h O σ H I R k)
theorem evi_imp {S : Sys} {ρ : DEnv} {wi : TI} {Q Q' : List D → Prop} (h : EvI S wi ρ Q) (q : ∀ xs, Q xs → Q' xs) : EvI S wi ρ Q' := fun O σ H I R k => h O σ H I R fun J xs H1 l t W c => k J xs H1 l t W (q xs c)
theorem strs_plain (xs : List Str) : (xs.map D.str).all plainD = true := by
  induction xs with
  | nil => rfl
  | cons a r ih => rw [List.map_cons, List.all_cons, ih]; rfl
theorem nodup_take {α : Type} {l : List α} (h : l.Nodup) {i : Nat} {a : α} (ha : l[i]? = some a) : a ∉ l.take i := fun m => by
  have hi : i < l.length := by
    by_cases q : i < l.length
    · exact q
    · rw [List.getElem?_eq_none (by omega)] at ha; cases ha
  obtain ⟨j, hj, e⟩ := List.getElem_of_mem m
  have hj' : j < i := by rw [List.length_take] at hj; omega
  rw [List.getElem_take] at e
  have h1 : l[i]? = some l[i] := List.getElem?_eq_getElem hi
  rw [ha] at h1
  exact List.pairwise_iff_getElem.mp h j i (by omega) hi hj' (e.trans (Option.some.inj h1))
theorem get_map_str {ws : List Str} {i : Nat} {y : D} (hy : (ws.map D.str)[i]? = some y) : ∃ a, ws[i]? = some a ∧ y = .str a := by
  rw [List.getElem?_map] at hy
  cases q : ws[i]? with
  | none => rw [q] at hy; cases hy
  | some a => rw [q] at hy; exact ⟨a, rfl, (Option.some.inj hy).symm⟩
theorem lt_size {n m : Nat} (h : n ≤ m) (hm : m ≤ 100000 := by decide) : n < sizeLine := Nat.lt_of_le_of_lt (Nat.le_trans h hm) (by rw [sizeLine_eq]; decide)
theorem ev_dcKn {S : Sys} {ρ : DEnv} {tk tv : TE} {tt : TT} {vs : List Nat} {wi : TI} {g : TG} {Q : D → Prop} {ps : List (Key × D)} (hn : (ps.map (·.1)).Nodup) (q : Q (.dK ps)) (h : EvI S wi ρ (DcGoal Key keyD S ρ g tt tk tv vs ps)) : Ev S (tComp (.dK []) wi g tt (tLeafD tk tv) vs) ρ Q :=
  ev_dcK (by rw [foldD_nodup (kvs := []) (by simpa using hn)]; exact q) h
theorem enum_strs (ws : List Str) : ∀ n : Nat, enumD n (ws.map D.str) = (ws.zipIdx n).map fun p => .tup [.int (p.2 : Nat), .str p.1] := by
  induction ws with
  | nil => intro n; rfl
  | cons a r ih =>
    intro n
    rw [List.map_cons, List.zipIdx_cons, List.map_cons, enumD, ih]
theorem fold_some {κ : Type} [DecidableEq κ] (k : κ) : ∀ (ps acc : List (κ × D)), (valD (foldD acc ps) k).isSome = ((valD acc k).isSome || ps.any fun p => decide (p.1 = k)) := by
  have hv : ∀ acc : List (κ × D), (valD acc k).isSome = acc.any fun p => decide (p.1 = k) := by
    intro acc
    induction acc with
    | nil => rfl
    | cons p r ih =>
      unfold valD at ih ⊢
      rw [List.find?_cons, List.any_cons]
      cases e : decide (p.1 = k) with
      | true => simp
      | false => simpa using ih
  have hp : ∀ (acc : List (κ × D)) (k' : κ) (d : D), (putD acc k' d).any (fun p => decide (p.1 = k)) = (acc.any (fun p => decide (p.1 = k)) || decide (k' = k)) := by
    intro acc k' d
    unfold putD
    split
    · rename_i h
      have e1 : (acc.map fun kv => if kv.1 = k' then (kv.1, d) else kv).any (fun p => decide (p.1 = k)) = acc.any (fun p => decide (p.1 = k)) := by
        rw [List.any_map]
        congr 1
        funext p
        show decide ((if p.1 = k' then (p.1, d) else p).1 = k) = _
        split <;> rfl
      rw [e1]
      by_cases e : k' = k
      · subst e
        rw [h]; rfl
      · rw [decide_eq_false e, Bool.or_false]
    · rw [List.any_append]
      simp
  intro ps
  induction ps with
  | nil => intro acc; simp [foldD]
  | cons p r ih =>
    intro acc
    show (valD (foldD (putD acc p.1 p.2) r) k).isSome = _
    rw [ih, hv, hp, hv, List.any_cons, Bool.or_assoc]
theorem flatMap_len {α β : Type} {f : α → List β} {m : Nat} : ∀ {l : List α}, (∀ a ∈ l, (f a).length ≤ m) → (l.flatMap f).length ≤ l.length * m
  | [], _ => by simp
  | a :: r, h => by
    rw [List.flatMap_cons, List.length_append, List.length_cons, Nat.add_mul]
    have h1 := h a List.mem_cons_self
    have h2 := flatMap_len (l := r) fun x m => h x (List.mem_cons_of_mem _ m)
    omega
theorem lc_self {S : Sys} {ρ : DEnv} {g : TG} {te : TE} {vs : List Nat} {Q : D → Prop} {l : List D} (f : D → D) (hz : l.length ≤ sizeLine) (he : ∀ a ∈ l, EvG S vs g (wipeD ρ vs) a fun ρ1 => Ev S te ρ1 fun y => y = f a) (q : Q (.lst (l.map f))) : LcGoal S ρ g tYes te vs Q l := by
  have h := lc_map (S := S) (ρ := ρ) (g := g) (te := te) (vs := vs) (Q := Q) (l := l) id f hz he q
  rw [List.map_id] at h
  exact h
end NB

end PART_NB13
section PART_NB14
set_option Elab.async false
set_option linter.all false
set_option maxRecDepth 100000
set_option maxHeartbeats 4000000
set_option autoImplicit false
/-! NB14: insert into an owned list; index of a text in a list. -/
namespace NB
open PySem PySem.Spec PyProof.Rows L2 NC
def rInsert : V → List V → Hp → VK → Prop := fun x vs H Q => ∃ (l : Addr) (xs : List V) (i : Int) (y : V), x = .ref l ∧ vs = [.int i, y] ∧ H l = some (.lst xs) ∧ xs.length < sizeLine ∧ 0 ≤ i ∧ i < 2 ^ 63 ∧
    Q .non (upd H l (.lst (xs.take i.toNat ++ [y] ++ xs.drop i.toNat)))
theorem mt_insertR {X : Cx} : MtR X "list.insert" rInsert := mt_insert
theorem mt_indexR {X : Cx} (K : PySem.W.Frag) (h : X.K = K := by rfl) : MtR X "list.index" (rIndex K) := h ▸ mt_index
section
variable {S : Sys} {ρ : DEnv} {te tf : TE} {P : Post} {Q : D → Prop}
/-- x.insert(i, e) -/
theorem run_insert {k : Nat} {xs : List D} (hk : ρ[k]? = some (some (.own xs))) (hz : xs.length < sizeLine)
    (h : Ev S te ρ fun d1 => Ev S tf ρ fun d2 => ∃ i : Int, d1 = .int i ∧ 0 ≤ i ∧ i < 2 ^ 63 ∧ P.nx (ρ.set k (some (.own (xs.take i.toNat ++ [d2] ++ xs.drop i.toNat))))) :
    Run S (tDrop (tBM S.K "list" rInsert (tVar k) (tCons te (tCons tf tNil)))) ρ P := fun B O σ H I Dv k1 _ _ _ => by
  obtain ⟨l, vs, hv, hl, e, is⟩ := I.own_at hk
  refine ⟨.ref l, hv, .inl ⟨rfl, _, .inl (.inl e)⟩, ?_⟩
  refine h O σ H I.env _ fun d1 v1 H1 l1 t1 i1 h2 => ?_
  refine h2 O σ H1 (I.env.le l1 t1) _ fun d2 v2 H2 l2 t2 i2 ⟨i, e1, h0, h63, q⟩ => ?_
  subst e1
  obtain rfl := is_int i1
  have l12 := l1.trans l2
  obtain ⟨I2, s2⟩ := I.go l12 t2
  have nM : l ∉ S.M := I.env.outM k l ⟨_, hk, rfl, hv⟩
  have e2 := l12 _ _ nM e
  have is2 := is.ex (hid_le l12 I.env.sub)
  refine ⟨l, vs, i, v2, rfl, rfl, e2, by rw [is.length]; exact hz, h0, h63, ?_⟩
  have is3 := Iss.append (Iss.append ((is2.ex (hid_upd (o := .lst (vs.take i.toNat ++ [v2] ++ vs.drop i.toNat)) hl)).take i.toNat) (.cons (i2.ex (hid_upd hl)) .nil)) ((is2.ex (hid_upd hl)).drop i.toNat)
  obtain ⟨I3, s3⟩ := I2.mut (s' := .own (xs.take i.toNat ++ [d2] ++ xs.drop i.toNat)) (o := .lst (vs.take i.toNat ++ [v2] ++ vs.drop i.toNat)) hk rfl rfl hv hl ⟨_, upd_same, is3⟩
  exact k1 _ _ _ _ I3 (s2.trans s3) q
/-- xs.index(x) of texts -/
theorem ev_indexS {ws : List Str} {x : Str} (h : Ev S te ρ fun d => d = .lst (ws.map D.str) ∧ Ev S tf ρ fun y => y = .str x ∧ x ∈ ws ∧ Q (.int (ws.idxOf x : Nat))) : Ev S (tBM S.K "list" (rIndex S.K) te (tCons tf tNil)) ρ Q := fun O σ H I Qv k => by
  refine h O σ H I _ fun d v H1 l1 t1 i1 ⟨ed, h2⟩ => ?_
  subst ed
  obtain ⟨a, vs, rfl, hs, is⟩ := is_lst i1
  refine ⟨.inl ⟨rfl, _, .inl (.inl (hid_some hs).2)⟩, ?_⟩
  refine h2 O σ H1 (I.le l1 t1) _ fun y u H2 l2 t2 i2 ⟨ey, hx, q⟩ => ?_
  subst ey
  obtain rfl := is_str i2
  have hs2 := hid_le l2 I.sub _ _ hs
  have ev : vs = (ws.map D.str).map dV := iss_dV is (by rw [List.all_map]; exact List.all_eq_true.mpr fun _ _ => rfl)
  have ev2 : vs = ws.map V.str := by rw [ev, List.map_map]; rfl
  have hlt : ws.idxOf x < ws.length := List.idxOf_lt_length_iff.mpr hx
  refine ⟨a, vs, .str x, ws.idxOf x, .str x, rfl, rfl, sqL_hid hs2, rfl, by rw [ev2, List.all_map]; exact List.all_eq_true.mpr fun _ _ => rfl, ?_, ?_, ?_, k _ _ H2 (l1.trans l2) t2 (.int _) q⟩
  · rw [ev2, List.getElem?_map, List.getElem?_eq_getElem hlt, List.getElem_idxOf]
    rfl
  · exact beq_self_eq_true x
  · intro m z' hm hz'
    rw [ev2, List.getElem?_map] at hz'
    have hm2 : m < ws.length := by omega
    rw [List.getElem?_eq_getElem hm2] at hz'
    cases hz'
    show (ws[m] == x) = false
    exact List.not_of_lt_findIdx (p := (· == x)) hm
end
end NB

end PART_NB14
section PART_NB15
set_option Elab.async false
set_option linter.all false
set_option maxRecDepth 100000
set_option maxHeartbeats 4000000
set_option autoImplicit false
/-! NB15: keywords in any order; some of a list. -/
namespace NB
open PySem PySem.Spec PyProof.Rows L2
/-- the items at these places -/
def permL {α : Type} (ix : List Nat) (xs : List α) : List α := ix.filterMap fun i => xs[i]?
theorem vals_at {vs : List V} {us : List Value} (h : Vals vs us) : ∀ i : Nat, (∃ v u, vs[i]? = some v ∧ us[i]? = some u ∧ RelV v u) ∨ (vs[i]? = none ∧ us[i]? = none) := by
  induction h with
  | nil => exact fun i => .inr ⟨rfl, rfl⟩
  | cons r t ih =>
    intro i
    cases i with
    | zero => exact .inl ⟨_, _, rfl, rfl, r⟩
    | succ i => simpa using ih i
theorem vals_perm {vs : List V} {us : List Value} (h : Vals vs us) : ∀ ix : List Nat, Vals (permL ix vs) (permL ix us)
  | [] => .nil
  | i :: ix => by
    unfold permL
    rw [List.filterMap_cons, List.filterMap_cons]
    rcases vals_at h i with ⟨v, u, e1, e2, r⟩ | ⟨e1, e2⟩
    · rw [e1, e2]
      exact .cons r (vals_perm h ix)
    · rw [e1, e2]
      exact vals_perm h ix
theorem iss_perm {K : PySem.W.Frag} {H : Hp} {vs : List V} {ds : List D} (h : Iss K H vs ds) : ∀ ix : List Nat, Iss K H (permL ix vs) (permL ix ds)
  | [] => .nil
  | i :: ix => by
    unfold permL
    rw [List.filterMap_cons, List.filterMap_cons]
    cases e : ds[i]? with
    | none =>
      have : vs[i]? = none := by
        rw [List.getElem?_eq_none_iff] at e ⊢
        rw [h.length]
        exact e
      rw [this]
      exact iss_perm h ix
    | some d =>
      obtain ⟨v, e2, r⟩ := h.get e
      rw [e2]
      exact .cons r (iss_perm h ix)
def tCallKwP (n m : Nat) (ix : List Nat) (sp : Sp) (E : XK) (t tk : TA) : TE := fun σ H Q => t σ H fun vs H1 => tk σ H1 fun zs H2 => vs.length = n ∧ zs.length = m ∧ sp (vs ++ permL ix zs) H2 Q E
section
variable {X : Cx} {x : Str} {k : Nat} {ps : List Str} {sp : Sp} {e : Expr} {es : List Expr} {p pos : Pos} {t : TA}
theorem kbn_perm {K : PySem.W.Frag} {params : Arguments} {body : List Stmt} {scope : Scope} {f : Addr} {fd : FuncData} {n : Nat} {ks : List Str} (ix : List Nat) (F : FunD K x x params body scope [] [] f fd)
    (h : ∀ (kV doc pm : Value) (an : Option Addr) (cdv ct : Value) (us ws : List Value), us.length = n → ws.length = ks.length → bindArgs (PySem.W.fnOf x x params body scope .none kV doc pm an cdv ct) ⟨us, ks.zip ws⟩ = pure (ps.zip (us ++ permL ix ws))) : KBn K fd ps n ks (fun us ws => us ++ permL ix ws) (fun vs zs => vs ++ permL ix zs) := by
  obtain ⟨oc, od, dV, kV, doc, pm, an, cdv, ct, osl, rfl, lk, hcd, hD, hK⟩ := F.ex
  rcases hD with ⟨_, rfl⟩ | ⟨e, _⟩
  · exact ⟨fun s us ws X l1 l2 => .of_eq (h kV doc pm an cdv ct us ws l1 l2), fun r1 r2 => r1.append (vals_perm r2 ix)⟩
  · exact absurd rfl e
theorem pe_hasKP {params : Arguments} {body : List Stmt} {scope : Scope} {n : Nat} {ks : List Str} {kws : List Keyword} {tk : TA} (ix : List Nat) (h : Has X.prog X.w X.K X.mg X.base x k ps sp) (F : ∃ fd, FunD X.K x x params body scope [] [] (He.ga X.K x) fd) {j : Nat} (hr : Room j X.A)
    (hbk : ∀ (kV doc pm : Value) (an : Option Addr) (cdv ct : Value) (us ws : List Value), us.length = n → ws.length = ks.length → bindArgs (PySem.W.fnOf x x params body scope .none kV doc pm an cdv ct) ⟨us, ks.zip ws⟩ = pure (ps.zip (us ++ permL ix ws)))
    (ha : PA X (e :: es) t) (hkw : PK X kws tk) (hj : k ≤ j := by first | decide | exact Nat.le_refl _ | omega) (hg : Gl X x := by rfl) (hdb : (x == ("__debug__" : Str)) = false := by decide)
    (hall : (backToKw pos (keywordEach kws X.env)).all (·.1.isSome) = true := by rfl) (hks : (backToKw pos (keywordEach kws X.env)).filterMap (·.1) = ks := by rfl) (he : starEach (e :: es) X.env = (false, eval e X.env) :: starEach es X.env := by rfl)
    (hpl : ((backTo pos (starEach (e :: es) X.env)).any (·.1) || (backToKw pos (keywordEach kws X.env)).any (·.1.isNone)) = false := by rfl) : PE X (.Call (.Name x p) (e :: es) kws pos) (tCallKwP n ks.length ix sp E0 t tk) := by
  obtain ⟨fd, Fo, b, g, kp, lk⟩ := h
  obtain ⟨fd', F⟩ := F
  obtain rfl := fd_one F.lk lk
  exact pe_callN Fo (hr.mono hj) hg g kp (kbn_perm ix F hbk) pass0 ha hkw hall hks hdb he hpl
theorem pe_hasKP0 {params : Arguments} {body : List Stmt} {scope : Scope} {ks : List Str} {kws : List Keyword} {tk : TA} (ix : List Nat) (h : Has X.prog X.w X.K X.mg X.base x k ps sp) (F : ∃ fd, FunD X.K x x params body scope [] [] (He.ga X.K x) fd) {j : Nat} (hr : Room j X.A)
    (hbk : ∀ (kV doc pm : Value) (an : Option Addr) (cdv ct : Value) (us ws : List Value), us.length = 0 → ws.length = ks.length → bindArgs (PySem.W.fnOf x x params body scope .none kV doc pm an cdv ct) ⟨us, ks.zip ws⟩ = pure (ps.zip (us ++ permL ix ws)))
    (hkw : PK X kws tk) (hj : k ≤ j := by first | decide | exact Nat.le_refl _ | omega) (hg : Gl X x := by rfl) (hdb : (x == ("__debug__" : Str)) = false := by decide)
    (hall : (backToKw pos (keywordEach kws X.env)).all (·.1.isSome) = true := by rfl) (hks : (backToKw pos (keywordEach kws X.env)).filterMap (·.1) = ks := by rfl)
    (hpl : ((backTo pos (starEach [] X.env)).any (·.1) || (backToKw pos (keywordEach kws X.env)).any (·.1.isNone)) = false := by rfl) : PE X (.Call (.Name x p) [] kws pos) (tCallKwP 0 ks.length ix sp E0 tNil tk) := by
  obtain ⟨fd, Fo, b, g, kp, lk⟩ := h
  obtain ⟨fd', F⟩ := F
  obtain rfl := fd_one F.lk lk
  refine ⟨fun pins s σ H Q I h => ?_⟩
  refine wpAny_Call_Name_kw (ld_glob I hg g ?_ hdb)
  refine PySem.W.callWith_KW0 (h₀ := X.base) I.ok.mod.kin kp hall ?_ hpl
  refine thn (hkw.run pos pins s σ H _ I h) fun ws s2 ⟨zs, H2, I2, rz, _, l2, q2⟩ => ⟨I2.kIn, ?_⟩
  rw [hks]
  exact run_fnN (us := []) (vs := []) Fo (hr.mono hj) (kbn_perm ix F hbk) pass0 I2 .nil rz rfl l2 q2
theorem ev_callKwP {S : Sys} {ρ : DEnv} {F : Fn} {n m : Nat} {ix : List Nat} {t tk : TA} {E : XK} {Q : D → Prop} (h : EvA S t ρ fun ds => EvA S tk ρ fun es => ds.length = n ∧ es.length = m ∧ F.f (ds ++ permL ix es) Q) : Ev S (tCallKwP n m ix (spF (S0 S.K) F) E t tk) ρ Q := fun O σ H I Qv k => by
  refine h O σ H I _ fun ds vs H1 l1 t1 i1 h1 => ?_
  refine h1 O σ H1 (I.le l1 t1) _ fun es us H2 l2 t2 i2 ⟨z1, z2, q⟩ => ?_
  have l := l1.trans l2
  refine ⟨i1.length.trans z1, i2.length.trans z2, O, ds ++ permL ix es, trivial, fun a ha => absurd ha (by simp [S0]), (I.le l t2).live, Iss.append (i1.ex (hid_le l2 I.sub)) (iss_perm i2 ix), F.mono _ _ _ (fun d c v H' l' _ i => ?_) q⟩
  have ls : Same H2 H' := fun a o e => l' a o (by simp [S0]) e
  exact k d v H' (l.trans (Le.same ls)) (S.same _ _ ls t2) i c
/-- the same of a def that hands back a new list -/
theorem evf_callKwP {S : Sys} {ρ : DEnv} {F : Fn} {n m : Nat} {ix : List Nat} {t tk : TA} {E : XK} {Q : List D → Prop} (h : EvA S t ρ fun ds => EvA S tk ρ fun es => ds.length = n ∧ es.length = m ∧ F.f (ds ++ permL ix es) fun d => ∃ xs, d = .lst xs ∧ Q xs) : EvF S (tCallKwP n m ix (spR S.K F) E t tk) ρ Q := fun O σ H I Qv k => by
  refine h O σ H I _ fun ds vs H1 l1 t1 i1 h1 => ?_
  refine h1 O σ H1 (I.le l1 t1) _ fun es us H2 l2 t2 i2 ⟨z1, z2, q⟩ => ?_
  have l := l1.trans l2
  refine ⟨i1.length.trans z1, i2.length.trans z2, O, ds ++ permL ix es, (I.le l t2).live, Iss.append (i1.ex (hid_le l2 I.sub)) (iss_perm i2 ix), F.mono _ _ _ (fun d ⟨xs, e, c⟩ ys a us H' e2 s n e3 i => ?_) q⟩
  subst e
  cases e2
  have n1 : H a = none := by
    cases e : H a with
    | none => rfl
    | some o =>
      by_cases m : a ∈ S.M
      · exact absurd n (S.live _ t2 a m)
      · rw [l a o m e] at n; cases n
  exact k _ a us H' (l.trans (Le.same s)) (S.same _ _ s t2) n1 e3 i c
theorem evf_callKw {S : Sys} {ρ : DEnv} {F : Fn} {n m : Nat} {t tk : TA} {E : XK} {Q : List D → Prop} (h : EvA S t ρ fun ds => EvA S tk ρ fun es => ds.length = n ∧ es.length = m ∧ F.f (ds ++ es) fun d => ∃ xs, d = .lst xs ∧ Q xs) : EvF S (tCallKw n m (spR S.K F) E t tk) ρ Q := fun O σ H I Qv k => by
  refine h O σ H I _ fun ds vs H1 l1 t1 i1 h1 => ?_
  refine h1 O σ H1 (I.le l1 t1) _ fun es us H2 l2 t2 i2 ⟨z1, z2, q⟩ => ?_
  have l := l1.trans l2
  refine ⟨i1.length.trans z1, i2.length.trans z2, O, ds ++ es, (I.le l t2).live, Iss.append (i1.ex (hid_le l2 I.sub)) i2, F.mono _ _ _ (fun d ⟨xs, e, c⟩ ys a us H' e2 s n e3 i => ?_) q⟩
  subst e
  cases e2
  have n1 : H a = none := by
    cases e : H a with
    | none => rfl
    | some o =>
      by_cases m : a ∈ S.M
      · exact absurd n (S.live _ t2 a m)
      · rw [l a o m e] at n; cases n
  exact k _ a us H' (l.trans (Le.same s)) (S.same _ _ s t2) n1 e3 i c
theorem ev_callKwR {S : Sys} {ρ : DEnv} {F : Fn} {n m : Nat} {t tk : TA} {E : XK} {Q : D → Prop} (h : EvA S t ρ fun ds => EvA S tk ρ fun es => ds.length = n ∧ es.length = m ∧ F.f (ds ++ es) fun d => ∃ xs, d = .lst xs ∧ Q d) : Ev S (tCallKw n m (spR S.K F) E t tk) ρ Q :=
  EvF.ev (evf_callKw (h.imp fun ds q => q.imp fun es ⟨z1, z2, q⟩ => ⟨z1, z2, F.mono _ _ _ (fun d ⟨xs, e, c⟩ => ⟨xs, e, by rw [← e]; exact c⟩) q⟩))
theorem ev_callKwPR {S : Sys} {ρ : DEnv} {F : Fn} {n m : Nat} {ix : List Nat} {t tk : TA} {E : XK} {Q : D → Prop} (h : EvA S t ρ fun ds => EvA S tk ρ fun es => ds.length = n ∧ es.length = m ∧ F.f (ds ++ permL ix es) fun d => ∃ xs, d = .lst xs ∧ Q d) : Ev S (tCallKwP n m ix (spR S.K F) E t tk) ρ Q :=
  EvF.ev (evf_callKwP (h.imp fun ds q => q.imp fun es ⟨z1, z2, q⟩ => ⟨z1, z2, F.mono _ _ _ (fun d ⟨xs, e, c⟩ => ⟨xs, e, by rw [← e]; exact c⟩) q⟩))
end
section
variable {S : Sys} {ρ : DEnv} {g : TG} {te : TE} {tt : TT} {vs : List Nat} {Q : D → Prop}
theorem all2_some {α : Type} {f : α → D} : ∀ {l : List α} {yss : List (List D)}, All2 (fun a ys => ys = [f a] ∨ ys = []) l yss → ∃ l' : List α, l'.Sublist l ∧ yss.flatten = l'.map f
  | _, _, .nil => ⟨[], .slnil, rfl⟩
  | _, _, .cons (a := a) h t => by
    obtain ⟨l', s, e⟩ := all2_some t
    rcases h with rfl | rfl
    · exact ⟨a :: l', s.cons₂ a, by rw [List.flatten_cons, e]; rfl⟩
    · exact ⟨l', s.cons a, by rw [List.flatten_cons, e]; rfl⟩
/-- a test that is drawn: some of the items -/
theorem lc_some {α : Type} {l : List α} (src : α → D) (f : α → D) (hz : l.length ≤ sizeLine) (he : ∀ a ∈ l, EvG S vs g (wipeD ρ vs) (src a) fun ρ1 => EvT S tt ρ1 fun b => b = true → Ev S te ρ1 fun y => y = f a) (q : ∀ l' : List α, l'.Sublist l → Q (.lst (l'.map f))) : LcGoal S ρ g tt te vs Q (l.map src) := by
  refine ⟨α, l, src, rfl, fun a ys => ys = [f a] ∨ ys = [], fun a ha O σ H v I i Qs k => ?_, hz, fun yss h => ?_⟩
  · refine he a ha O σ H v I i Qs fun ρ' σ' I' w o q => k ρ' σ' I' w o (q.imp fun b h => ?_)
    cases b with
    | true =>
      rw [if_pos rfl]
      exact (h rfl).imp fun y e => .inl (by rw [e])
    | false =>
      rw [if_neg Bool.false_ne_true]
      exact .inr rfl
  · obtain ⟨l', s, e⟩ := all2_some h
    rw [e]
    exact q l' s
end
end NB

end PART_NB15
section PART_NB16
set_option Elab.async false
set_option linter.all false
set_option maxRecDepth 100000
set_option maxHeartbeats 4000000
set_option autoImplicit false
/-! NB16: the own methods that operators and built-ins call: ==, !=, in, len, repr, truth. -/
namespace NB
open PySem PySem.Spec PyProof.Rows L2
section
variable {X : Cx} {n : Nat} {C : Addr} {sp : Sp}
theorem call_sp {A : Around} {f : Addr} {fd : FuncData} {ps : List Str} {pins : List (Addr × Obj)} {σ : L2.St} {H : Hp} {s : Shared} {vs : List V} {us : List Value} {Q : VK} (sb : Sub X n A) (I : Inv X pins σ H s)
    (F : FnOk X.prog X.w X.K X.mg X.base CX0 n f fd ps sp) (hb : Binds X.K fd ps []) (r : Vals vs us) (h : sp vs H Q E0) : wpAny (model X.prog X.w) A (call (.ref f) us) (EP X pins σ Q) X.xe s := by
  have e0 : Env0 X.prog X.w X.K X.mg X.base A X.stack s H := by
    have e := I.env0
    exact ⟨by rw [sb.fr]; exact e.frames, e.mod, e.bs, e.bsz, e.funs, e.frf, e.hok, e.bare⟩
  have hl := F.len _ _ _ _ h
  refine wpAny_call (codeAny_mono (F.run A X.stack s H ⟨us, []⟩ us vs _ E0 sb.room e0 (by
    have := hb s us I.kIn (by rw [List.append_nil, ← r.length]; exact hl)
    simpa using this) r h) fun r s' hq => ?_)
  cases r with
  | error e => exact (pass0 (X := X)) pins σ H s e s' I hq
  | ok fl =>
    cases fl with
    | ret w => exact I.after hq
    | next => exact False.elim hq
    | brk => exact False.elim hq
    | cont => exact False.elim hq
theorem sub_builtin {K : PySem.W.Frag} {T : String} {l : List Value} (e : fastBuiltinMro T = some l) (n : l.contains (.ref C) = false) : PySem.W.subIn K (.type T) (.ref C) = some false := by
  show (fastBuiltinMro T).map (·.contains (.ref C)) = some false
  rw [e]
  exact congrArg some n
/-- what an own instance is held against: one of its class, a list, a text -/
def Oth (C : Addr) (H : Hp) (y : V) : Prop := (∃ b dy gs, y = .ref b ∧ H b = some (.ins C dy gs)) ∨ (∃ b xs, y = .ref b ∧ H b = some (.lst xs)) ∨ ∃ z, y = .str z
theorem oth_type {pins : List (Addr × Obj)} {σ : L2.St} {H : Hp} {s : Shared} {y : V} {u : Value} (I : Inv X pins σ H s) (r : RelV y u) (o : Oth C H y) : ∃ tb, (∀ M : Model, PySem.W.Looks M s.heap (typeOf u) tb) ∧ PySem.W.notFirst X.K C tb = true := by
  rcases o with ⟨b, dy, gs, rfl, hb⟩ | ⟨b, xs, rfl, hb⟩ | ⟨z, rfl⟩
  · cases r
    obtain ⟨mB, J, _⟩ := ins_get I.hok hb
    obtain ⟨od, J, _⟩ := J.look
    exact ⟨.ref C, fun M => J.type, by simp [PySem.W.notFirst]⟩
  · cases r
    obtain ⟨z, its, k, rr, e⟩ := I.hok b _ hb
    refine ⟨.type "list", fun M => (PySem.W.Looks.ld e).andThen .now, ?_⟩
    have e1 : fastBuiltinMro "list" = some [.type "list", .type "object"] := by decide +kernel
    have : PySem.W.subIn X.K (.type "list") (.ref C) = some false := sub_builtin e1 (by first | rfl | simp)
    unfold PySem.W.notFirst
    rw [this]
    simp
  · obtain ⟨t, rfl⟩ : ∃ t, u = .str z t := r
    refine ⟨.type "str", fun M => .now, ?_⟩
    have e1 : fastBuiltinMro "str" = some [.type "str", .type "object"] := by decide +kernel
    have : PySem.W.subIn X.K (.type "str") (.ref C) = some false := sub_builtin e1 (by first | rfl | simp)
    unfold PySem.W.notFirst
    rw [this]
    simp
def rEqI (C : Addr) (sp : Sp) : R2 := fun x y H Q => ∃ a dx fs, x = .ref a ∧ H a = some (.ins C dx fs) ∧ Oth C H y ∧ sp [x, y] H (fun v H' => ∃ b, v = .bl b ∧ Q (.bl b) H') E0
def rNeI (C : Addr) (sp : Sp) : R2 := fun x y H Q => ∃ a dx fs, x = .ref a ∧ H a = some (.ins C dx fs) ∧ Oth C H y ∧ sp [x, y] H (fun v H' => ∃ b, v = .bl b ∧ Q (.bl (!b)) H') E0
theorem op_eqI {j k : Nat} (m : C8.Met X.prog X.w X.K X.mg X.base k C "__eq__" sp []) (hr : Room j X.A) (hk : k ≤ j := by first | decide | exact Nat.le_refl _ | omega) : OpR X (compareOp .Eq) (rEqI C sp) := by
  intro pins s σ H x y v u Q I rx ry ⟨a, dx, fs, ex, ha, ho, h⟩
  subst ex
  cases rx
  obtain ⟨f, fd, ps, ds, hc, hm, Fo, b, d⟩ := m.ex
  cases d
  obtain ⟨mA, J, _⟩ := ins_get I.hok ha
  obtain ⟨od, J, _⟩ := J.look
  obtain ⟨mm, hF⟩ := I.fr
  obtain ⟨tb, ht, hn⟩ := oth_type I ry ho
  refine PySem.W.cmp_K (op := .Eq) (tb := tb) hr.units0 hF I.ok.mod.kin J (ht _) hn hm.at_ hm.fn ?_
  refine wpAny_mono (call_sp (Q := fun v H' => ∃ b, v = .bl b ∧ Q (.bl b) H') (n := k) ⟨hr.mono hk, rfl⟩ I Fo b (.cons (show RelV (.ref a) (.ref a) from rfl) (.cons ry .nil)) h) (fun w s' q => ?_) fun _ _ x => x
  obtain ⟨z, H', I', rz, b, ez, q⟩ := q
  subst ez
  cases rz
  exact ⟨.bl b, H', I', rfl, q⟩
theorem ifBound_objNe {M : Model} {A : Around} {E : Value → Shared → Prop} {s : Shared} {K : PySem.W.Frag} {x : Addr} {ox : Obj} {od : Option Obj} {args : List Value} {Q : Option Value → Shared → Prop} (X : K.In s.heap) (I : PySem.W.InstAt s.heap x ox C od) (hs : PySem.W.findIn K (.ref C) "__ne__" = some (some (.builtin "object.__ne__")))
    (h : wpAny M A (call (.builtin "object.__ne__") (.ref x :: args)) (fun v => Q (some v)) E s) : wpAny M A (callSpecialIfBound? (.ref x) "__ne__" args) Q E s := by
  simp only [callSpecialIfBound?, bindSpecialIfBound?]
  refine wpAny_holding (wpAny_bind (wpAny_bind (wpAny_bind (I.type.here ((PySem.W.looks_findIn X hs).here ?_)))))
  refine wpAny_bind (wpAny_askSetting (wpAny_ite ?_))
  have fin : wpAny M A (call (.builtin "object.__ne__") ([.ref x] ++ args) >>= fun v => pure (some v)) Q E s := wpAny_bind (wpAny_mono h (fun v s' h' => wpAny_pure h') fun _ _ h' => h')
  split
  · exact wpAny_bind (wpAny_of_eq (F.cmp_object.ne.bind _) (wpAny_pure (by exact fin)))
  · exact wpAny_tryCatch (wpAny_bind (wpAny_of_eq (F.cmp_object.ne.bind _) (wpAny_pure (by exact fin))))
theorem entry_ne {prog : Program} {w : World} {A : Around} {E : Value → Shared → Prop} {s : Shared} {K : PySem.W.Frag} {x f : Addr} {ox : Obj} {od : Option Obj} {y : Value} {Q : Fin → Shared → Prop} (X : K.In s.heap) (I : PySem.W.InstAt s.heap x ox C od) (hu : A.units < cLine)
    (hs : PySem.W.findIn K (.ref C) "__eq__" = some (some (.ref f))) (hf : PySem.W.isFn K (.ref f) = true)
    (hcall : wpAny (model prog w) A (call (.ref f) [.ref x, y]) (fun v s' => ∃ b, v = .bool b ∧ Q (.done (.ret (.bool (!b)))) s') E s) :
    wpAny (model prog w) A (Builtin.«object.__ne__» ⟨[.ref x, y], []⟩) Q E s := by
  unfold Builtin.«object.__ne__»
  repeat (first
    | with_reducible refine wpAny_cRoomFor hu ?_
    | (refine wpAny_bind (m := callSpecialIfBound? (.ref x) (Str.ofString "__eq__") [y])
        (PySem.W.ifBound_K X I hs hf (wpAny_mono hcall (fun r s' hr => by
          obtain ⟨b, rfl, hq⟩ := hr
          repeat (first | exact hq | exact wpAny_pure hq | exact wpAny_truthy_bool hq | (refine wpAny_bind (m := truthy (.bool _)) (wpAny_truthy_bool ?_)) | wp_step)) fun _ _ e => e)))
    | wp_step)
theorem op_neI {j k : Nat} (nb : neB X.K C = true) (m : C8.Met X.prog X.w X.K X.mg X.base k C "__eq__" sp []) (hr : Room j X.A) (hk : k + 1 ≤ j := by first | decide | exact Nat.le_refl _ | omega) : OpR X (compareOp .NotEq) (rNeI C sp) := by
  intro pins s σ H x y v u Q I rx ry ⟨a, dx, fs, ex, ha, ho, h⟩
  subst ex
  cases rx
  obtain ⟨f, fd, ps, ds, hc, hm, Fo, b, d⟩ := m.ex
  cases d
  obtain ⟨mA, J, _⟩ := ins_get I.hok ha
  obtain ⟨od, J, _⟩ := J.look
  obtain ⟨mm, hF⟩ := I.fr
  obtain ⟨tb, ht, hn⟩ := oth_type I ry ho
  have XK := I.kIn
  unfold neB at nb
  rw [Bool.and_eq_true] at nb
  have hne := of_decide_eq_true nb.1
  have hmro := of_decide_eq_true nb.2
  have hin : wpAny (model X.prog X.w) X.A.in1 (call (.ref f) [.ref a, u]) (EP X pins σ fun v H' => ∃ b, v = .bl b ∧ Q (.bl (!b)) H') X.xe s :=
    call_sp (n := k) (Sub.in1 (n := k) ⟨hr.mono hk, rfl⟩) I Fo b (.cons (show RelV (.ref a) (.ref a) from rfl) (.cons ry .nil)) h
  have one : wpAny (model X.prog X.w) X.A (tryCompare (.ref a) "__ne__" u) (fun r s' => ∃ v, r = some v ∧ EP X pins σ Q v s') X.xe s := by
    unfold tryCompare
    refine wpAny_bind (ifBound_objNe XK J hne (wpAny_call (codeAny_call_builtin F.cmp_object.ne.plain F.cmpEntry_ne
      (PySem.W.check_slot F.cmpKind_ne F.cmpSplit_ne (J.type.andThen (PySem.W.looks_mroIn XK hmro)) (F.cmpArgs_ne _ _) (entry_ne (A := X.A.in1) XK J (by show X.A.units + 1 < cLine; have := hr.un; omega) hm.at_ hm.fn (wpAny_mono hin (fun w s' q => ?_) fun _ _ x => x))))))
    obtain ⟨z, H', I', rz, b, ez, q⟩ := q
    subst ez
    cases rz
    exact ⟨b, rfl, wpAny_pure ⟨_, rfl, .bl (!b), H', I', rfl, q⟩⟩
  unfold compareOp
  unfold richCompare
  simp only [oneThing_ref]
  refine wpAny_holding (wpAny_bind (wpAny_cRoomFor hr.units0 ?_))
  refine wpAny_bind (J.type.here (wpAny_bind ((ht _).here ?_)))
  split
  · rename_i q
    have e : PySem.W.subIn X.K tb (.ref C) = some false := by
      rcases Bool.or_eq_true_iff.mp hn with e | e
      · rw [beq_iff_eq.mp e] at q; simp at q
      · exact beq_iff_eq.mp e
    refine wpAny_bind ((PySem.W.looks_subIn XK e).here ?_)
    simp only [Bool.false_eq_true, if_false]
    refine wpAny_bind (wpAny_mono one (fun r s' z => ?_) fun _ _ e => e)
    obtain ⟨v, rfl, hq⟩ := z
    exact wpAny_pure hq
  · refine wpAny_bind (wpAny_pure ?_)
    simp only [Bool.false_eq_true, if_false]
    refine wpAny_bind (wpAny_mono one (fun r s' z => ?_) fun _ _ e => e)
    obtain ⟨v, rfl, hq⟩ := z
    exact wpAny_pure hq
/-- y in x, x an own instance -/
def rInI (C : Addr) (sp : Sp) (neg : Bool) : R2 := fun y x H Q => ∃ a dx fs, x = .ref a ∧ H a = some (.ins C dx fs) ∧ sp [x, y] H (fun v H' => ∃ b, v = .bl b ∧ Q (.bl (if neg then !b else b)) H') E0
theorem op_inI {j k : Nat} (m : C8.Met X.prog X.w X.K X.mg X.base k C "__contains__" sp []) (hr : Room j X.A) (hk : k ≤ j := by first | decide | exact Nat.le_refl _ | omega) : OpR X (compareOp .In) (rInI C sp false) := by
  intro pins s σ H y x u v Q I ry rx ⟨a, dx, fs, ex, ha, h⟩
  subst ex
  cases rx
  obtain ⟨f, fd, ps, ds, hc, hm, Fo, b, d⟩ := m.ex
  cases d
  obtain ⟨mA, J, _⟩ := ins_get I.hok ha
  obtain ⟨od, J, _⟩ := J.look
  obtain ⟨mm, hF⟩ := I.fr
  refine PySem.W.in_K hF I.ok.mod.kin J hm.at_ hm.fn (wpAny_mono (call_sp (n := k) ⟨hr.mono hk, rfl⟩ I Fo b (.cons (show RelV (.ref a) (.ref a) from rfl) (.cons ry .nil)) h) (fun w s' q => ?_) fun _ _ x => x)
  obtain ⟨z, H', I', rz, b, ez, q⟩ := q
  subst ez
  cases rz
  exact wpAny_truthy_bool ⟨.bl b, H', I', rfl, q⟩
theorem op_notInI {j k : Nat} (m : C8.Met X.prog X.w X.K X.mg X.base k C "__contains__" sp []) (hr : Room j X.A) (hk : k ≤ j := by first | decide | exact Nat.le_refl _ | omega) : OpR X (compareOp .NotIn) (rInI C sp true) := by
  intro pins s σ H y x u v Q I ry rx ⟨a, dx, fs, ex, ha, h⟩
  subst ex
  cases rx
  obtain ⟨f, fd, ps, ds, hc, hm, Fo, b, d⟩ := m.ex
  cases d
  obtain ⟨mA, J, _⟩ := ins_get I.hok ha
  obtain ⟨od, J, _⟩ := J.look
  obtain ⟨mm, hF⟩ := I.fr
  refine PySem.W.notIn_K hF I.ok.mod.kin J hm.at_ hm.fn (wpAny_mono (call_sp (n := k) ⟨hr.mono hk, rfl⟩ I Fo b (.cons (show RelV (.ref a) (.ref a) from rfl) (.cons ry .nil)) h) (fun w s' q => ?_) fun _ _ x => x)
  obtain ⟨z, H', I', rz, b, ez, q⟩ := q
  subst ez
  cases rz
  exact wpAny_truthy_bool ⟨.bl (!b), H', I', rfl, q⟩
end
/-! ### the same over data -/
def othD (C : Addr) : D → Bool
  | .obj C' _ => decide (C' = C)
  | .lst _ => true
  | .str _ => true
  | _ => false
theorem oth_of {K : PySem.W.Frag} {O : List Addr} {H : Hp} {C : Addr} {y : D} {u : V} (h : othD C y = true) (i : Is K (hid O H) u y) : Oth C H u := by
  cases y with
  | obj C' gs =>
    obtain rfl : C' = C := of_decide_eq_true h
    obtain ⟨b, dy, us, rfl, e, _⟩ := is_obj i
    exact .inl ⟨b, dy, us, rfl, (hid_some e).2⟩
  | lst xs =>
    obtain ⟨b, us, rfl, e, _⟩ := is_lst i
    exact .inr (.inl ⟨b, us, rfl, (hid_some e).2⟩)
  | str z => exact .inr (.inr ⟨z, is_str i⟩)
  | _ => cases h
section
variable {K : PySem.W.Frag} {C : Addr} {F : Fn} {fs : List (Str × D)} {y : D} {Q : D → Prop}
theorem spF_two {O : List Addr} {H : Hp} {v u : V} {x y : D} {Q2 : VK} (live : ∀ a ∈ O, H a ≠ none) (hv : Is K (hid O H) v x) (hu : Is K (hid O H) u y) (h : F.f [x, y] fun d => ∀ v H', Same H H' → Is K (hid O H') v d → Q2 v H') : spF (S0 K) F [v, u] H Q2 E0 :=
  ⟨O, [x, y], trivial, fun a ha => absurd ha (by simp [S0]), live, .cons hv (.cons hu .nil), F.mono _ _ _ (fun d c v H' l _ i => c v H' (fun a o e => l a o (by simp [S0]) e) i) h⟩
theorem rvr_eqO (oy : othD C y = true) (h : F.f [.obj C fs, y] fun d => ∃ b, d = .bl b ∧ Q (.bl b)) : RvR K (rEqI C (spF (S0 K) F)) (.obj C fs) y Q := fun O H v u live hv hu Qv k => by
  obtain ⟨a, dx, us, ev, e, _⟩ := is_obj hv
  refine ⟨a, dx, us, ev, (hid_some e).2, oth_of oy hu, spF_two live hv hu (F.mono _ _ _ (fun d ⟨b, ed, q⟩ v H' s i => ?_) h)⟩
  subst ed
  exact ⟨b, is_bl i, k _ _ H' s (.bl b) q⟩
theorem rvr_neO (oy : othD C y = true) (h : F.f [.obj C fs, y] fun d => ∃ b, d = .bl b ∧ Q (.bl (!b))) : RvR K (rNeI C (spF (S0 K) F)) (.obj C fs) y Q := fun O H v u live hv hu Qv k => by
  obtain ⟨a, dx, us, ev, e, _⟩ := is_obj hv
  refine ⟨a, dx, us, ev, (hid_some e).2, oth_of oy hu, spF_two live hv hu (F.mono _ _ _ (fun d ⟨b, ed, q⟩ v H' s i => ?_) h)⟩
  subst ed
  exact ⟨b, is_bl i, k _ _ H' s (.bl (!b)) q⟩
theorem rvr_inO {neg : Bool} (h : F.f [.obj C fs, y] fun d => ∃ b, d = .bl b ∧ Q (.bl (if neg then !b else b))) : RvR K (rInI C (spF (S0 K) F) neg) y (.obj C fs) Q := fun O H u v live hu hv Qv k => by
  obtain ⟨a, dx, us, ev, e, _⟩ := is_obj hv
  refine ⟨a, dx, us, ev, (hid_some e).2, spF_two live hv hu (F.mono _ _ _ (fun d ⟨b, ed, q⟩ v H' s i => ?_) h)⟩
  subst ed
  exact ⟨b, is_bl i, k _ _ H' s (.bl _) q⟩
end
end NB

end PART_NB16
section PART_NB17
set_option Elab.async false
set_option linter.all false
set_option maxRecDepth 100000
set_option maxHeartbeats 4000000
set_option autoImplicit false
/-! NB17: slots filled by what is new or old; two and three at once. -/
namespace NB
open PySem PySem.Spec PyProof.Rows L2
/-- what a slot gets: data, or a new object that is owned -/
def SlNew (S : Sys) (O : List Addr) (H : Hp) (s : Sl) (v : V) (H' : Hp) : Prop :=
  Le S.M H H' ∧ S.T H' ∧ ((∃ d, s = .dat d ∧ Is S.K (hid O H') v d) ∨ (s.isOwn = true ∧ ∃ p, v = .ref p ∧ H p = none ∧ H' p ≠ none ∧ OwnOk S.K (p :: O) H' p s))
def EvS (S : Sys) (te : TE) (ρ : DEnv) (Q : Sl → Prop) : Prop :=
  ∀ O σ H, EnvOk S O ρ σ H → ∀ Qv : VK, (∀ s v H', SlNew S O H s v H' → Q s → Qv v H') → te σ H Qv
section
variable {S : Sys} {ρ : DEnv} {te ta tb tc : TE} {Q : Sl → Prop} {P : Post}
theorem evs_dat (h : Ev S te ρ fun d => Q (.dat d)) : EvS S te ρ Q := fun O σ H I Qv k => h O σ H I Qv fun d v H' l t i q => k (.dat d) v H' ⟨l, t, .inl ⟨d, rfl, i⟩⟩ q
theorem evs_new (h : EvF S te ρ fun xs => Q (.own xs)) : EvS S te ρ Q := fun O σ H I Qv k => h O σ H I Qv fun xs a us H' l t n e i q => k (.own xs) (.ref a) H' ⟨l, t, .inr ⟨rfl, a, rfl, n, by rw [e]; exact fun z => (by cases z), us, e, i⟩⟩ q
theorem evs_lst {t : TA} (h : EvA S t ρ fun xs => xs.length ≤ sizeLine ∧ Q (.own xs)) : EvS S (tLst t) ρ Q := evs_new (evf_lst h)
theorem SOk.putS3 {B : Base} {O : List Addr} {σ : L2.St} {H H' : Hp} {s : Sl} {v : V} (I : SOk S B O ρ σ H) (h : SlNew S O H s v H') : ∃ O', EnvOk S O' ρ σ H' ∧ Step O H O' H' ∧ ∀ k : Nat, SOk S B O' (ρ.set k (some s)) (σ.set k (some v)) H' := by
  obtain ⟨l1, t1, ⟨d, rfl, i⟩ | ⟨hs, p, rfl, n, n', ok⟩⟩ := h
  · obtain ⟨I1, s1⟩ := I.go l1 t1
    exact ⟨O, I1.env, s1, fun k => I1.set i⟩
  have np : p ∉ O := fun m => I.env.live p m n
  have I1 : EnvOk S (p :: O) ρ σ H' := I.env.owned n n' (le_cons l1) t1
  have old : ∀ i, OwnAt ρ σ p i → False := fun i ⟨s, h1, h2, h3⟩ => by
    obtain ⟨v, hv, q⟩ := I.env.at_ i s h1
    rw [h3] at hv
    cases hv
    obtain ⟨l, e, m, _⟩ := q.own h2
    cases e
    exact np m
  have hB : B.H0 p = none := by
    cases q : B.H0 p with
    | none => rfl
    | some u =>
      have nM : p ∉ S.M := fun m => np (I.env.sub _ m)
      rw [I.le p u nM q] at n; cases n
  have step : Step O H (p :: O) H' := ⟨fun a ha => by
    rcases List.mem_cons.mp ha with rfl | ha
    · exact .inr n
    · exact .inl ha, fun a o na e => l1 a o (fun m => na (I.env.sub a m)) e⟩
  refine ⟨p :: O, I1, step, fun k => ?_⟩
  have sel : ∀ i l, OwnAt (ρ.set k (some s)) (σ.set k (some (.ref p))) l i → (i = k ∧ l = p) ∨ (i ≠ k ∧ OwnAt ρ σ l i) := fun i l h => by
    by_cases ei : k = i
    · subst ei
      have e := h.self.1
      cases e
      exact .inl ⟨rfl, rfl⟩
    · exact .inr ⟨fun z => ei z.symm, h.ne ei⟩
  exact ⟨{
    len := by rw [List.length_set, List.length_set]; exact I1.len
    t := t1
    sub := I1.sub
    live := I1.live
    at_ := fun i u hu => by
      by_cases ei : k = i
      · subst ei
        have hk : k < ρ.length := by
          by_cases hk : k < ρ.length
          · exact hk
          · rw [List.getElem?_eq_none (by simpa using hk)] at hu; cases hu
        rw [List.getElem?_set_self hk] at hu
        cases hu
        refine ⟨.ref p, List.getElem?_set_self (by rw [I1.len]; exact hk), ?_⟩
        cases s with
        | dat d => cases hs
        | own xs => exact ⟨p, rfl, List.mem_cons_self, ok⟩
        | ownK xs => exact ⟨p, rfl, List.mem_cons_self, ok⟩
        | ownT xs => exact ⟨p, rfl, List.mem_cons_self, ok⟩
        | ownI b C fs => exact ⟨p, rfl, List.mem_cons_self, ok⟩
      · rw [List.getElem?_set_ne ei] at hu ⊢
        exact I1.at_ i u hu
    dis := fun i j l hi hj => by
      rcases sel i l hi with ⟨e1, e2⟩ | ⟨e1, o1⟩
      · rcases sel j l hj with ⟨e3, _⟩ | ⟨_, o2⟩
        · rw [e1, e3]
        · rw [e2] at o2; exact (old j o2).elim
      · rcases sel j l hj with ⟨e3, e4⟩ | ⟨_, o2⟩
        · rw [e4] at o1; exact (old i o1).elim
        · exact I1.dis i j l o1 o2
    outM := fun i l hi => by
      rcases sel i l hi with ⟨_, e2⟩ | ⟨_, o1⟩
      · rw [e2]; exact fun m => np (I.env.sub _ m)
      · exact I1.outM i l o1
    xk := I1.xk }, fun a ha => List.mem_cons_of_mem _ (I.sub a ha), I.le.trans l1, I.live, fun i l hi => by
      rcases sel i l hi with ⟨_, e2⟩ | ⟨_, o1⟩
      · rw [e2]; exact hB
      · exact I.own i l o1⟩
theorem SOk.putS {B : Base} {O : List Addr} {σ : L2.St} {H H' : Hp} {s : Sl} {v : V} {k : Nat} (I : SOk S B O ρ σ H) (h : SlNew S O H s v H') : ∃ O', SOk S B O' (ρ.set k (some s)) (σ.set k (some v)) H' ∧ Step O H O' H' := by
  obtain ⟨O', _, st, q⟩ := I.putS3 h
  exact ⟨O', q k, st⟩
theorem run_setS {k : Nat} (h : EvS S te ρ fun s => P.nx (ρ.set k (some s))) : Run S (tAsg te (gName k)) ρ P := fun B O σ H I Dv k1 _ _ _ =>
  h O σ H I.env _ fun s v H1 n q => by
    obtain ⟨O', I1, s1⟩ := I.putS (k := k) n
    exact k1 _ _ _ _ I1 s1 q
/-- a reading that does not look at a slot -/
def Blind (i : Nat) (te : TE) : Prop := ∀ (σ : L2.St) (x : Option V) (H : Hp) (Q : VK), te (σ.set i x) H Q → te σ H Q
theorem run_parS {i j : Nat} (hb : Blind i tb) (h : EvS S ta ρ fun s => EvS S tb (ρ.set i (some s)) fun s' => P.nx ((ρ.set i (some s)).set j (some s'))) : Run S (tPar i j (tCons ta (tCons tb tNil))) ρ P := fun B O σ H I Dv k1 _ _ _ =>
  h O σ H I.env _ fun s v H1 n q => by
    obtain ⟨O1, I1, s1⟩ := I.putS (k := i) n
    refine hb _ (some v) _ _ (q O1 _ H1 I1.env _ fun s' u H2 n2 q2 => ?_)
    obtain ⟨O2, I2, s2⟩ := I1.putS (k := j) n2
    exact ⟨v, u, rfl, k1 _ _ _ _ I2 (s1.trans s2) q2⟩
theorem run_par3S {i j l : Nat} (hb : Blind i tb) (hc : Blind i tc) (hd : Blind j tc) (h : EvS S ta ρ fun s => EvS S tb (ρ.set i (some s)) fun s' => EvS S tc ((ρ.set i (some s)).set j (some s')) fun s2 => P.nx (((ρ.set i (some s)).set j (some s')).set l (some s2))) : Run S (tPar3 i j l (tCons ta (tCons tb (tCons tc tNil)))) ρ P := fun B O σ H I Dv k1 _ _ _ =>
  h O σ H I.env _ fun s v H1 n q => by
    obtain ⟨O1, I1, s1⟩ := I.putS (k := i) n
    refine hb _ (some v) _ _ (q O1 _ H1 I1.env _ fun s' u H2 n2 q2 => ?_)
    obtain ⟨O2, I2, s2⟩ := I1.putS (k := j) n2
    refine hc _ (some v) _ _ (hd _ (some u) _ _ (q2 O2 _ H2 I2.env _ fun s3 z H3 n3 q3 => ?_))
    obtain ⟨O3, I3, s3'⟩ := I2.putS (k := l) n3
    exact ⟨v, u, z, rfl, k1 _ _ _ _ I3 ((s1.trans s2).trans s3') q3⟩
/-- two at once by way of a tuple (where a name is captured) -/
theorem run_asgS2 {i j : Nat} (hb : Blind i tb) (h : EvS S ta ρ fun s => EvS S tb (ρ.set i (some s)) fun s' => P.nx ((ρ.set i (some s)).set j (some s'))) : Run S (tAsg (tTup (tCons ta (tCons tb tNil))) (gTup S.K 2 (gCons (gName i) (gCons (gName j) gNil)))) ρ P := fun B O σ H I Dv k1 _ _ _ =>
  h O σ H I.env _ fun s v H1 n q => by
    obtain ⟨O1, I1, s1⟩ := I.putS (k := i) n
    refine hb _ (some v) _ _ (q O1 _ H1 I1.env _ fun s' u H2 n2 q2 => ?_)
    obtain ⟨O2, I2, s2⟩ := I1.putS (k := j) n2
    refine ⟨Nat.le_trans (show 2 ≤ 100 by decide) (by rw [sizeLine_eq]; decide), fun T hT => ?_⟩
    obtain ⟨I3, s3⟩ := I2.go (Le.same (Same.upd (o := .tup [v, u]) hT)) (S.same _ _ (Same.upd hT) I2.env.t)
    exact ⟨T, [v, u], rfl, .inl (.inl upd_same), rfl, v, [u], rfl, u, [], rfl, rfl, k1 _ _ _ _ I3 ((s1.trans s2).trans s3) q2⟩
/-- the same, where the later ones may be any reading: what is new by then stands in no slot -/
theorem run_parE {i j : Nat} (h : EvS S ta ρ fun s => EvS S tb ρ fun s' => P.nx ((ρ.set i (some s)).set j (some s'))) : Run S (tPar i j (tCons ta (tCons tb tNil))) ρ P := fun B O σ H I Dv k1 _ _ _ =>
  h O σ H I.env _ fun s v H1 n q => by
    obtain ⟨O1, E1, s1, I1⟩ := I.putS3 n
    refine q O1 σ H1 E1 _ fun s' u H2 n2 q2 => ?_
    obtain ⟨O2, I2, s2⟩ := (I1 i).putS (k := j) n2
    exact ⟨v, u, rfl, k1 _ _ _ _ I2 (s1.trans s2) q2⟩
theorem run_asgE2 {i j : Nat} (h : EvS S ta ρ fun s => EvS S tb ρ fun s' => P.nx ((ρ.set i (some s)).set j (some s'))) : Run S (tAsg (tTup (tCons ta (tCons tb tNil))) (gTup S.K 2 (gCons (gName i) (gCons (gName j) gNil)))) ρ P := fun B O σ H I Dv k1 _ _ _ =>
  h O σ H I.env _ fun s v H1 n q => by
    obtain ⟨O1, E1, s1, I1⟩ := I.putS3 n
    refine q O1 σ H1 E1 _ fun s' u H2 n2 q2 => ?_
    obtain ⟨O2, I2, s2⟩ := (I1 i).putS (k := j) n2
    refine ⟨Nat.le_trans (show 2 ≤ 100 by decide) (by rw [sizeLine_eq]; decide), fun T hT => ?_⟩
    obtain ⟨I3, s3⟩ := I2.go (Le.same (Same.upd (o := .tup [v, u]) hT)) (S.same _ _ (Same.upd hT) I2.env.t)
    exact ⟨T, [v, u], rfl, .inl (.inl upd_same), rfl, v, [u], rfl, u, [], rfl, rfl, k1 _ _ _ _ I3 ((s1.trans s2).trans s3) q2⟩
theorem blind_var {i j : Nat} (h : i ≠ j) : Blind i (tVar j) := fun σ x H Q q => by
  obtain ⟨v, e, q⟩ := q
  rw [List.getElem?_set_ne h] at e
  exact ⟨v, e, q⟩
theorem blind_nil {i : Nat} : Blind i (tLst tNil) := fun σ x H Q q => q
theorem blind_c {i : Nat} {v : V} : Blind i (tC v) := fun σ x H Q q => q
theorem blind_meth0 {i j : Nat} {C : Addr} {m : Str} {sp : Sp} {dvs : List V} {E : XK} (h : i ≠ j) : Blind i (tMeth C m sp dvs E (tVar j) tNil) := fun σ x H Q q => by
  obtain ⟨v, e, q⟩ := q
  rw [List.getElem?_set_ne h] at e
  exact ⟨v, e, q⟩
theorem blind_ix {i j : Nat} {r : R2} {v : V} (h : i ≠ j) : Blind i (tOp r (tVar j) (tC v)) := fun σ x H Q q => by
  obtain ⟨v, e, q⟩ := q
  rw [List.getElem?_set_ne h] at e
  exact ⟨v, e, q⟩
theorem evs_list {t : TA} (h : EvA S t ρ fun ds => ∃ xs, (ds = [.lst xs] ∨ ds = [.tup xs]) ∧ Q (.own xs)) : EvS S (tCB (rListQ S.K) t) ρ Q := evs_new (evf_list h)
theorem evs_meth {C : Addr} {m : Str} {F : Fn} {E : XK} {t : TA} (h : Ev S ta ρ fun x => ∃ fs, x = .obj C fs ∧ fs.lookup m = none ∧ EvA S t ρ fun ds => F.f (x :: ds) fun d => ∃ xs, d = .lst xs ∧ Q (.own xs)) : EvS S (tMeth C m (spR S.K F) [] E ta t) ρ Q := evs_new (evf_meth h)
end
end NB

end PART_NB17
section PART_NB18
set_option Elab.async false
set_option linter.all false
set_option maxRecDepth 100000
set_option maxHeartbeats 4000000
set_option autoImplicit false
/-! NB18: enumerate over a tuple. -/
namespace NBM
open PySem
open AutoSeq1 (wpAny_loadPart')
section
variable {prog : Program} {w : World} {A : Around} {E : Value → Shared → Prop} {s : Shared}
theorem nextOf_tup_item {it t : Addr} {i : Nat} {items : Array Value} {x : Value} {Q : Value → Shared → Prop} (hit : s.heap.IsTupleIter it t i) (ht : s.heap.IsTuple t items) (hx : items[i]? = some x)
    (hQ : ∀ h', h'.IsTupleIter it t (i + 1) → Heap.SameBut it s.heap h' → Q x { s with heap := h' }) : wpAny (model prog w) A (Builtin.SmallTypes.nextOf (.ref it)) Q E s := by
  obtain ⟨o, ho, hc, hd⟩ := id hit
  obtain ⟨ol, hol, _, nl, hdl⟩ := ht
  unfold Builtin.SmallTypes.nextOf
  refine wpAny_bind (wpAny_callSpecial?_slot (name := Str.ofString "__next__") hit.typeIs F.slot_tuple_iterator_next (wpAny_call_entry F.slot_tuple_iterator_next hit.typeIs F.entry_tuple_iterator_next ?_ (F.args_tuple_iterator_next_1 _)))
  show wpAny _ _ (field (.ref it) 0 >>= _) _ _ s
  refine wpAny_bind (wpAny_field ho hd (x := .ref t) rfl ?_)
  show wpAny _ _ (if (Value.ref t == Value.none) = true then _ else _) _ _ s
  rw [if_neg (show ¬ ((Value.ref t == Value.none) = true) from Bool.false_ne_true)]
  show wpAny _ _ (field (.ref it) 1 >>= _) _ _ s
  refine wpAny_bind (wpAny_field ho hd (x := .int i 0) rfl ?_)
  show wpAny _ _ (seqItems? (.ref t) >>= _) _ _ s
  refine wpAny_bind (wpAny_seqItems hol hdl ?_)
  simp only [Int.toNat_natCast, hx]
  refine wpAny_bind (wpAny_setField ho hd (by simp) (wpAny_pure ⟨x, rfl, wpAny_pure (hQ _ ?_ (Heap.SameBut.update ..))⟩))
  exact ⟨_, Heap.get?_update_self _ ho (Obj.isFreed_of_fields (Obj.data_mapFields hd _)), (Obj.cls_mapFields ..).trans hc, by rw [Obj.data_mapFields hd]; simp [rawInt]⟩
theorem nextOf_tup_end {it t : Addr} {i : Nat} {items : Array Value} {Q : Value → Shared → Prop} (hh : A.handled = none) (hit : s.heap.IsTupleIter it t i) (ht : s.heap.IsTuple t items) (hx : items[i]? = none)
    (hE : ∀ h' e, Heap.ExtBut it s.heap h' → (∃ o, h'.get? e = some o ∧ o.cls = .type "StopIteration") → E (.ref e) { s with heap := h' }) : wpAny (model prog w) A (Builtin.SmallTypes.nextOf (.ref it)) Q E s := by
  obtain ⟨o, ho, hc, hd⟩ := id hit
  obtain ⟨ol, hol, _, nl, hdl⟩ := ht
  unfold Builtin.SmallTypes.nextOf
  refine wpAny_bind (wpAny_callSpecial?_slot (name := Str.ofString "__next__") hit.typeIs F.slot_tuple_iterator_next (wpAny_call_entry F.slot_tuple_iterator_next hit.typeIs F.entry_tuple_iterator_next ?_ (F.args_tuple_iterator_next_1 _)))
  show wpAny _ _ (field (.ref it) 0 >>= _) _ _ s
  refine wpAny_bind (wpAny_field ho hd (x := .ref t) rfl ?_)
  show wpAny _ _ (if (Value.ref t == Value.none) = true then _ else _) _ _ s
  rw [if_neg (show ¬ ((Value.ref t == Value.none) = true) from Bool.false_ne_true)]
  show wpAny _ _ (field (.ref it) 1 >>= _) _ _ s
  refine wpAny_bind (wpAny_field ho hd (x := .int i 0) rfl ?_)
  show wpAny _ _ (seqItems? (.ref t) >>= _) _ _ s
  refine wpAny_bind (wpAny_seqItems hol hdl ?_)
  simp only [Int.toNat_natCast, hx]
  refine wpAny_bind (wpAny_rule (wpAny_bind (wpAny_setField ho hd (by simp) ?_)))
  show wpAny _ _ (newExc (.type "StopIteration") [] >>= _) _ _ _
  refine wpAny_bind ?_
  simp only [newExc, newTuple]
  refine wpAny_bind (wpAny_newObj_type ?_ (by size_fits))
  refine wpAny_bind (m := firstArgMember _ _) (wpAny_of_eq (a := Value.none) (by first | rfl | (simp only [firstArgMember]; rfl)) ?_)
  refine wpAny_newObj_type ?_ (by size_fits)
  simp only [raiseNew]
  refine wpAny_bind (wpAny_handled ?_)
  first | rw [show A.in1.handled = none from hh] | rw [hh]
  refine wpAny_bind (wpAny_pure (wpAny_throw ?_))
  exact hE _ _ (((Heap.SameBut.update ..).extBut.push _).push _) ⟨_, Heap.get?_push_size _ rfl, rfl⟩
theorem draws_tup {it t : Addr} {items : Array Value} (hh : A.handled = none) (hne : it ≠ t) : Draws prog w A it [it, t] items.size (fun i v => items[i]? = some v) (fun i h => h.IsTupleIter it t i ∧ h.IsTuple t items) where
  live := fun i h ⟨⟨o, e, _⟩, _⟩ => ⟨o, e⟩
  frame := fun i h h' ⟨⟨o, e, r⟩, ⟨o2, e2, r2⟩⟩ k => ⟨⟨o, k it (by simp) o e, r⟩, ⟨o2, k t (by simp) o2 e2, r2⟩⟩
  item := fun i s Q E hi ⟨h1, h2⟩ hQ => by
    refine nextOf_tup_item h1 h2 (x := items[i]) (by simp [hi]) fun h' a sb => ?_
    have := hQ items[i] h' s.toks (by simp [hi]) ⟨a, by
      obtain ⟨o, e, r⟩ := h2
      exact ⟨o, (sb.2 t (Ne.symm hne)).trans e, r⟩⟩ sb
    exact this
  done := fun s Q E ⟨h1, h2⟩ hE => nextOf_tup_end hh h1 h2 (by simp) hE
theorem meets_enum_newT (l : Addr) (items : Array Value) (n : Nat) (dct : Option Addr) (sl : Array (Option Value)) :
    Meets (Builtin.«enumerate.__new__» ⟨[.type "enumerate", .ref l], []⟩) (fun _ R s => s.heap.get? l = some { cls := .type "tuple", dict := dct, data := .seq items n, slots := sl } ∧
      R (.ok (.ret (.ref (s.heap.push { cls := .type "tuple_iterator", data := .fields #[.ref l, .int 0 0] }).objs.size)))
        { s with heap := (s.heap.push { cls := .type "tuple_iterator", data := .fields #[.ref l, .int 0 0] }).push { cls := .type "enumerate", data := .fields #[.none, .bool false, .ref s.heap.objs.size, rawInt 0, .none, .none] } }) :=
  .of_wp fun prog w A R s h => by
    obtain ⟨hp, g, d, tk, os⟩ := s; obtain ⟨hl, h⟩ := h
    have hsub := sub_enumerate
    have hL : Heap.IsTuple (Shared.heap ⟨hp, g, d, tk, os⟩) l items := ⟨_, hl, rfl, n, rfl⟩
    wp_walk using wpAny_loadPart' hl
    refine wpAny_stack_any fun st => wpAny_pure ?_
    split
    · rename_i c _ _ _ _ _
      cases (c == Value.type "enumerate")
      · wp_walk using wpAny_loadPart' hl, wpAny_pyIter_tuple hL
        exact ⟨_, rfl, h⟩
      · wp_walk using wpAny_loadPart' hl, wpAny_pyIter_tuple hL
        exact ⟨_, rfl, h⟩
    · wp_walk using wpAny_loadPart' hl, wpAny_pyIter_tuple hL
      exact ⟨_, rfl, h⟩
theorem call_enum_tuple {l : Addr} {items : Array Value} {Q : Value → Shared → Prop} (hL : s.heap.IsTuple l items)
    (h : ∀ h', IsEnum h' (s.heap.objs.size + 1) s.heap.objs.size 0 .none → h'.IsTupleIter s.heap.objs.size l 0 → h'.objs.size = s.heap.objs.size + 2 →
      (∀ b o, s.heap.get? b = some o → h'.get? b = some o) → Q (.ref (s.heap.objs.size + 1)) { s with heap := h' }) :
    wpAny (model prog w) A (call (.type "enumerate") [.ref l]) Q E s := by
  obtain ⟨⟨c, dct, dt, sl⟩, hl, hc, n, hd⟩ := hL
  replace hc : c = .type "tuple" := hc
  replace hd : dt = .seq items n := hd
  subst hc hd
  refine callType_new F.called_enumerate (by decide) (F.typeCall_enumerate_1 _) (F.newCall_enumerate_1 _) (fun obj => F.args_object_init_2 obj _) F.entry_enumerate_new
    (meets_enum_newT l items n dct sl) ⟨hl, ?_⟩
  have hz : (s.heap.push { cls := .type "tuple_iterator", data := .fields #[.ref l, .int 0 0] }).objs.size = s.heap.objs.size + 1 := Heap.size_push ..
  show _ ∧ _
  rw [hz]
  have he : IsEnum ((s.heap.push { cls := .type "tuple_iterator", data := .fields #[.ref l, .int 0 0] }).push
      { cls := .type "enumerate", data := .fields #[.none, .bool false, .ref s.heap.objs.size, rawInt 0, .none, .none] }) (s.heap.objs.size + 1) s.heap.objs.size 0 .none := by
    have := Heap.get?_push_size (s.heap.push { cls := .type "tuple_iterator", data := .fields #[.ref l, .int 0 0] })
      (o := { cls := .type "enumerate", data := .fields #[.none, .bool false, .ref s.heap.objs.size, rawInt 0, .none, .none] }) rfl
    rw [hz] at this; exact this
  refine ⟨⟨_, he, rfl⟩, h _ he ⟨_, Heap.get?_push_of_some _ (Heap.get?_push_size _ rfl), rfl, rfl⟩ (by rw [Heap.size_push, hz]) fun b o x => Heap.get?_push_of_some _ (Heap.get?_push_of_some _ x)⟩
end
end NBM
namespace NB
open PySem PySem.Spec PyProof.Rows L2
def Iteq (K : PySem.W.Frag) (a : Addr) : It :=
  ⟨fun i H => ∃ (xs : List V) (x : V), SqT K H a xs ∧ xs[i]? = some x, fun i H v H' => ∃ T x, v = .ref T ∧ H T = none ∧ H' = upd H T (.tup [.int (i : Nat), x]) ∧ ∀ xs, SqT K H a xs → xs[i]? = some x, fun i H => ∃ xs : List V, SqT K H a xs ∧ xs.length ≤ i⟩
theorem turn_enumT {P : Program} {w : World} {K : PySem.W.Frag} {elts : List Expr} {kk : Nat} {tpos : Pos} (a e it : Addr) :
    Turn P w K (.Tuple elts kk tpos) (Iteq K a) [e, it] e (fun i h => (∃ old, IsEnum h e it ((i : Nat) : Int) old) ∧ h.IsTupleIter it a i ∧ e ≠ it ∧ it ≠ a ∧ e ≠ a) where
  mem := by simp
  obj := fun i h st b hb => by
    obtain ⟨⟨old, he⟩, ⟨o, ho, hc, hd⟩, _⟩ := st
    have e' : b = e ∨ b = it := by simpa using hb
    rcases e' with z | z
    · rw [z]; exact ⟨_, he, fun v q => nomatch q⟩
    · rw [z]; exact ⟨o, ho, fun v q => by rw [hd] at q; cases q⟩
  keep := fun i h h' st k => by
    obtain ⟨⟨old, he⟩, ⟨o, ho, r⟩, hne⟩ := st
    exact ⟨⟨old, k e (by simp) _ he⟩, ⟨o, k it (by simp) o ho, r⟩, hne⟩
  item := by
    intro X hP hw hK hc i pins s σ H E I hf st hg
    subst hP hw hK
    obtain ⟨⟨old, he⟩, hit, hne, hna, hea⟩ := st
    obtain ⟨xs, x, hq, hx⟩ := hg
    obtain ⟨its, rv, p, hz⟩ := I.tuple hq
    obtain ⟨u, hu, ru⟩ := rv.get hx
    have hel : e < s.heap.objs.size := Heap.lt_size he
    have hil : it < s.heap.objs.size := by obtain ⟨_, q, _⟩ := hit; exact Heap.lt_size q
    have hi : i < its.toArray.size := by
      have := List.getElem?_eq_some_iff.mp hu
      simpa using this.1
    refine wpAny_pyNext_enum_itemD (NBM.draws_tup (t := a) (items := its.toArray) (show X.A.in1.handled = none from I.ok.hd hc) hna) he ⟨hit, p⟩ hi hne (by simp [hne, hea]) fun u' h' tk hu' ho hst hT hsz hk => ?_
    have eu : u' = u := by
      have h1 : its[i]? = some u' := by simpa using hu'
      rw [hu] at h1
      exact (Option.some.inj h1).symm
    subst eu
    obtain ⟨hit', _⟩ := hst
    refine ⟨_, rfl, wpAny_letOwnedTupleGo_enum (s := { s with heap := h', toks := tk + 1 }) ho fun h'' he' sb => ?_⟩
    have hT2 : h''.get? s.heap.objs.size = some { cls := .type "tuple", data := .seq #[.int i tk, u'] } := (sb.2 _ (Nat.ne_of_gt hel)).trans hT
    have new : ObjOk X.prog X.w (upd H s.heap.objs.size (.tup [.int (i : Nat), x])) h'' s.heap.objs.size (.tup [.int (i : Nat), x]) :=
      ⟨by show 2 ≤ sizeLine; decide, [.int i tk, u'], .cons ⟨_, rfl⟩ (.cons ru .nil), ⟨_, hT2, rfl, _, rfl⟩⟩
    have I1 : Inv X pins σ (upd H s.heap.objs.size (.tup [.int (i : Nat), x])) { s with heap := h'', toks := tk + 1 } :=
      I.turnedNew (ch := [e, it]) (fun b ob hb q => (sb.2 b (fun z => hb (by simp [z]))).trans (hk b ob (fun z => hb (by simp [z])) (fun z => hb (by simp [z])) q)) hf (Nat.le_refl _) new
    refine ⟨.ref s.heap.objs.size, _, I1, rfl, ⟨_, x, rfl, I.hok.fresh (Nat.le_refl _), rfl, fun ys hy => by rw [I.tuple_inj hy hq]; exact hx⟩, ⟨⟨u', ?_⟩, ?_, hne, hna, hea⟩, fun b hb => ?_⟩
    · have e1 : ((i + 1 : Nat) : Int) = (i : Int) + 1 := by omega
      rw [e1]; exact he'
    · obtain ⟨o, q, r⟩ := hit'
      exact ⟨o, (sb.2 it (Ne.symm hne)).trans q, r⟩
    · have hb' : b < s.heap.objs.size := by
        have e' : b = e ∨ b = it := by simpa using hb
        rcases e' with z | z
        · rw [z]; exact hel
        · rw [z]; exact hil
      rw [upd_ne (Nat.ne_of_lt hb')]
      exact (hf b hb).1
  done := by
    intro X hP hw hK hc i pins s σ H E I hf st hg
    subst hP hw hK
    obtain ⟨⟨old, he⟩, hit, hne, hna, hea⟩ := st
    obtain ⟨xs, hq, hx⟩ := hg
    obtain ⟨its, rv, p, hz⟩ := I.tuple hq
    obtain ⟨f0, f1, f2, f3, f4, f5⟩ := hf it (by simp)
    have hl := rv.length
    have hT : s.TypeIs (.ref e) "enumerate" := ⟨_, he, rfl⟩
    unfold pyNext
    refine wpAny_bind (wpAny_attempt (wpAny_callSpecial?_slot (name := Str.ofString "__next__") hT F.slot_enumerate_next
      (wpAny_call_entry F.slot_enumerate_next hT F.entry_enumerate_next ?_ (F.args_enumerate_next_1 _))))
    show wpAny _ _ (field (.ref e) 2 >>= _) _ _ _
    refine wpAny_bind (wpAny_field he rfl (x := .ref it) rfl ?_)
    refine wpAny_bind (NBM.nextOf_tup_end (show X.A.in1.handled = none from I.ok.hd hc) hit p (by simp; omega) fun h' x he' hx' => ?_)
    obtain ⟨o, ho, hc'⟩ := hx'
    refine wpAny_bind (wpAny_isInstance (T := "StopIteration") (b := true) ⟨o, ho, hc'⟩ isSubtype_stop ?_)
    exact wpAny_pure ⟨rfl, I.turned (t' := s.toks) (fun b o hb q => he' b o hb q) f0 f1 f3 f4 f5⟩
  self := fun A i s Q E st h => let ⟨⟨_, he⟩, _⟩ := st; wpAny_pyIter_enum he h
def iEnumT (K : PySem.W.Frag) (ta : TA) : TI := fun σ H R => ta σ H fun vs H1 => ∃ a xs, vs = [.ref a] ∧ SqT K H1 a xs ∧ R (Iteq K a) H1
theorem pi_enumT {X : Cx} {e : Expr} {ta : TA} {p pos tpos : Pos} {elts : List Expr} {kk : Nat} (hg : Gl X "enumerate") (hm : X.mg "enumerate" = none) (ha : PA X [e] ta) (hs : starEach [e] X.env = [(false, eval e X.env)] := by rfl) :
    PI X (.Tuple elts kk tpos) (.Call (.Name "enumerate" p) [e] [] pos) (iEnumT X.K ta) := by
  refine ⟨fun pins s σ H R I h => ?_⟩
  refine Call_ (ld_blt I hg hm boot_enumerate (PyProof.Rows.callWith_type1 (thn (ha.run pos pins s σ H _ I h) fun us s1 ⟨vs, H1, I1, r1, q1⟩ => ?_) hs rfl))
  obtain ⟨a, xs, ex, hq, q⟩ := q1
  subst ex
  cases r1 with
  | cons r rr =>
    cases rr
    cases r
    obtain ⟨its, rv, p', hz⟩ := I1.tuple hq
    refine NBM.call_enum_tuple (show s1.heap.IsTuple a its.toArray from p') fun h' he hit hsz hk => wpAny_pyIter_enum he ?_
    have I2 : Inv X pins σ H1 { s1 with heap := h' } := I1.kept (t' := s1.toks) hk
    have hal : a < s1.heap.objs.size := by obtain ⟨_, q, _⟩ := p'; exact Heap.lt_size q
    refine ⟨s1.heap.objs.size + 1, [s1.heap.objs.size + 1, s1.heap.objs.size], _, _, H1, rfl, I2, turn_enumT a (s1.heap.objs.size + 1) s1.heap.objs.size, ⟨⟨.none, he⟩, hit, Nat.succ_ne_self _, Nat.ne_of_gt hal, Nat.ne_of_gt (Nat.lt_succ_of_lt hal)⟩, fun b hb => ?_, q⟩
    have e' : b = s1.heap.objs.size + 1 ∨ b = s1.heap.objs.size := by simpa using hb
    have hle : s1.heap.objs.size ≤ b := by
      rcases e' with z | z
      · rw [z]; exact Nat.le_add_right _ _
      · rw [z]; exact Nat.le_refl _
    exact I1.fpOk hle (I1.hok.fresh hle)
theorem walk_enumT {K : PySem.W.Frag} {a : Addr} {xs : List V} : Walk (Iteq K a) xs.length (fun H => SqT K H a xs) (YPair (fun i => some (.int (i : Nat))) (fun i => xs[i]?)) := by
  refine ⟨fun i _ hi q => ⟨xs, xs[i], q, by simp [hi]⟩, fun _ q => ⟨xs, q, Nat.le_refl _⟩, fun i H v H' _ q y => ?_⟩
  obtain ⟨T, x, h1, h2, h3, h4⟩ := y
  exact ⟨T, .int (i : Nat), x, h1, h2, h3, rfl, h4 xs q⟩
section
variable {S : Sys} {ρ : DEnv}
theorem evi_enumT {ta : TA} {Q : List D → Prop} (h : EvA S ta ρ fun ds => ∃ xs, (ds = [.tup xs] ∨ ds = [.ktup xs]) ∧ Q (enumD 0 xs)) : EvI S (iEnumT S.K ta) ρ Q := fun O σ H I R k => by
  refine h O σ H I _ fun ds vs H1 l1 t1 i1 ⟨xs, e, q⟩ => ?_
  have : ∃ a ws, vs = [.ref a] ∧ SqT S.K (hid O H1) a ws ∧ Iss S.K (hid O H1) ws xs := by
    rcases e with rfl | rfl
    · obtain ⟨v, ws, rfl, i2, i3⟩ := iss_cons i1
      obtain rfl := iss_nil i3
      obtain ⟨a, ws, rfl, hs, is⟩ := is_tup i2
      exact ⟨a, ws, rfl, hs, is⟩
    · obtain ⟨v, ws, rfl, i2, i3⟩ := iss_cons i1
      obtain rfl := iss_nil i3
      obtain ⟨a, ws, rfl, hs, is⟩ := is_ktup i2
      exact ⟨a, ws, rfl, hs, is⟩
  obtain ⟨a, ws, rfl, hs, is⟩ := this
  refine ⟨a, ws, rfl, sqT_hid hs, k _ (enumD 0 xs) H1 l1 t1 ?_ q⟩
  rw [enumD_length, ← is.length]
  refine walk_enumT.mono (fun H2 l2 => sqT_hid (sqT_ex (hid_later l2 (fun a h => .inl h)) hs)) fun i H2 v H3 hi l2 y => ?_
  obtain ⟨T, x, y, rfl, hT, rfl, hx, hy⟩ := y
  obtain ⟨d, hd, id⟩ := is.getV hy
  obtain rfl : V.int (i : Nat) = x := Option.some.inj hx
  refine ⟨Same.upd hT, _, enumD_get hd, fun O' new live => ?_⟩
  have := is_pair (K := S.K) hT live (.int (i : Nat)) (id.ex (hid_later l2 new))
  rw [show (0 + i : Nat) = i by omega]
  exact this
def iEnumQ (K : PySem.W.Frag) (ta : TA) : TI := fun σ H R => iEnum K ta σ H R ∨ iEnumT K ta σ H R
/-- enumerate of a list or a tuple -/
theorem evi_enumQ {ta : TA} {Q : List D → Prop} {xs : List D} (h : EvA S ta ρ fun ds => (ds = [.lst xs] ∨ ds = [.tup xs] ∨ ds = [.ktup xs]) ∧ Q (enumD 0 xs)) (hk : (EvA S ta ρ fun ds => ds = [.lst xs] ∧ Q (enumD 0 xs)) ∨ (EvA S ta ρ fun ds => (ds = [.tup xs] ∨ ds = [.ktup xs]) ∧ Q (enumD 0 xs))) : EvI S (iEnumQ S.K ta) ρ Q := fun O σ H I R k => by
  rcases hk with h | h
  · exact .inl (evi_enum (h.imp fun ds ⟨e, q⟩ => ⟨xs, e, q⟩) O σ H I R k)
  · exact .inr (evi_enumT (h.imp fun ds ⟨e, q⟩ => ⟨xs, e, q⟩) O σ H I R k)
theorem evi_enumQL {ta : TA} {Q : List D → Prop} (h : EvI S (iEnum S.K ta) ρ Q) : EvI S (iEnumQ S.K ta) ρ Q := fun O σ H I R k => .inl (h O σ H I R k)
theorem evi_enumQT {ta : TA} {Q : List D → Prop} (h : EvI S (iEnumT S.K ta) ρ Q) : EvI S (iEnumQ S.K ta) ρ Q := fun O σ H I R k => .inr (h O σ H I R k)
end
theorem R.pi_enumQ {X : Cx} (K : PySem.W.Frag) {e : Expr} {ta : TA} {p pos tpos : Pos} {elts : List Expr} {kk : Nat} (hg : Gl X "enumerate") (hm : X.mg "enumerate" = none) (ha : PA X [e] ta) (h : X.K = K := by rfl) (hs : starEach [e] X.env = [(false, eval e X.env)] := by rfl) :
    PI X (.Tuple elts kk tpos) (.Call (.Name "enumerate" p) [e] [] pos) (iEnumQ K ta) := ⟨fun pins s σ H Q I q => by
  subst h
  rcases q with q | q
  · exact (L2.pi_enum hg hm ha hs).run pins s σ H Q I q
  · exact (pi_enumT hg hm ha hs).run pins s σ H Q I q⟩
/-- a class of the text, as a value -/
theorem ev_cloc {S : Sys} {ρ : DEnv} {a : Addr} {Q : D → Prop} (q : Q (.loc a)) : Ev S (tC (.ref a)) ρ Q := fun O σ H I Qv k => k _ _ H (Le.refl _ _) I.t (.loc a) q
structure InsOk (K : PySem.W.Frag) (C : Addr) : Prop where
  cl : Cls K C
  ha : PySem.W.findIn K (.ref C) "__class__" = some (some (.builtin "object.__class__"))
  hn : PySem.W.specialIn K (.builtin "object.__class__") "__get__" = some (some (.builtin "getset_descriptor.__get__"))
  htk : PySem.W.takesIn K (.builtin "object.__class__") = some true
  hm : PySem.W.mroIn K C (.type "object") = some true
  no : ∀ T ∈ ["list", "str", "NoneType", "int", "tuple", "bool"], PySem.W.kitOne K (.type T) (.ref C) = some false
theorem insOk {K : PySem.W.Frag} {C : Addr} (c : Cls K C) (h : insB K C = true) : InsOk K C := by
  unfold insB at h
  simp only [Bool.and_eq_true, decide_eq_true_eq] at h
  obtain ⟨h1, h2, h3, h4, h5, h6, h7, h8, h9, h10⟩ := h
  refine ⟨c, h1, h2, h3, h4, fun T hT => ?_⟩
  simp only [List.mem_cons, List.not_mem_nil, or_false] at hT
  rcases hT with rfl | rfl | rfl | rfl | rfl | rfl <;> assumption
/-- isinstance with an own class, of an own instance -/
theorem rvc_isiO {K : PySem.W.Frag} {Q : D → Prop} {C C' : Addr} {fs : List (Str × D)} {b : Bool} (ok : InsOk K C) (h : PySem.W.kitOne K (.ref C) (.ref C') = some b) (q : Q (.bl b)) : RvC K (rIsi K) [.obj C fs, .loc C'] Q := fun O H vs live hi Qv k => by
  obtain ⟨v, ws, rfl, i1, i2⟩ := iss_cons hi
  obtain ⟨u, ws, rfl, i3, i4⟩ := iss_cons i2
  obtain rfl := iss_nil i4
  obtain ⟨a, dx, us, rfl, e, _⟩ := is_obj i1
  obtain rfl := is_loc i3
  exact ⟨_, _, .ref C, .ref C', b, rfl, .own C', .base (.ins (hid_some e).2 ok.cl ok.ha ok.hn ok.htk ok.hm), h, k _ _ H (Same.refl _) (.bl b) q⟩
theorem kit_self {K : PySem.W.Frag} {C : Addr} : PySem.W.kitOne K (.ref C) (.ref C) = some true := by
  unfold PySem.W.kitOne
  rw [if_pos (by simp)]
/-- .. of what is no instance -/
theorem rvc_isiN {K : PySem.W.Frag} {Q : D → Prop} {C : Addr} {d : D} (ok : InsOk K C) (hb : basic d = true) (ht : tyD d ∈ ["list", "str", "NoneType", "int", "tuple", "bool"]) (q : Q (.bl false)) : RvC K (rIsi K) [d, .loc C] Q := fun O H vs live hi Qv k => by
  obtain ⟨v, u, rfl, h1, h2⟩ := iss2 hi
  obtain rfl := is_loc h2
  exact ⟨v, .ref C, .type (tyD d), .ref C, false, rfl, .own C, tyX_of h1 hb, ok.no _ ht, k _ _ H (Same.refl _) (.bl _) q⟩
theorem nilB_ok {K : PySem.W.Frag} {a : Addr} (h : nilB K a = true) (H : Hp) : Is K H (.ref a) (.ktup []) := by
  unfold nilB at h
  cases q : K.lookup a with
  | none =>
    rw [q] at h
    cases h
  | some o =>
    obtain ⟨oc, od, dt, osl⟩ := o
    rw [q] at h
    cases oc with
    | type c =>
      cases dt with
      | seq its n =>
        obtain ⟨h1, h2⟩ := Bool.and_eq_true_iff.mp (show (decide (c = "tuple") && decide (its.size = 0)) = true from h)
        have h0 := of_decide_eq_true h2
        have e : its.toList = [] := List.eq_nil_of_length_eq_zero (by simpa using h0)
        exact .ktup (vs := []) (.inr ⟨_, its, n, q, congrArg Value.type (of_decide_eq_true h1), rfl, by rw [h0]; exact Nat.zero_le _, by rw [e]; exact .nil⟩) .nil
      | _ => cases h
    | _ => cases dt <;> cases h
/-! ### a locked list, read -/
section
variable {S : Sys} {ρ : DEnv} {te : TE} {K : PySem.W.Frag} {Q : D → Prop}
theorem sqL_lF {O : List Addr} {H : Hp} {a : Addr} {o : Obj} {vs : List V} (h : hid O H a = some (.frz o (.lst vs))) : SqL K H a vs := .inl (.inr ⟨o, (hid_some h).2⟩)
theorem evi_listF {Q : List D → Prop} (h : Ev S te ρ fun d => ∃ xs, d = .lF xs ∧ Q xs) : EvI S (iList S.K te) ρ Q := fun O σ H I R k => by
  refine h O σ H I _ fun d v H1 l1 t1 i1 ⟨xs, e, q⟩ => ?_
  subst e
  obtain ⟨a, o, vs, rfl, hs, is⟩ := is_lF i1
  refine ⟨a, rfl, ⟨vs, sqL_lF hs⟩, k _ xs H1 l1 t1 ?_ q⟩
  rw [← is.length]
  refine walk_list.mono (fun H2 l2 => sqL_lF (hid_later l2 (fun a h => .inl h) _ _ hs)) fun i H2 x H3 hi l2 ⟨e3, y⟩ => ?_
  subst e3
  obtain ⟨d, hd, i2⟩ := is.getV y
  exact ⟨Same.refl _, d, hd, fun O' new _ => i2.ex (hid_later l2 new)⟩
theorem evi_enumF {ta : TA} {Q : List D → Prop} (h : EvA S ta ρ fun ds => ∃ xs, ds = [.lF xs] ∧ Q (enumD 0 xs)) : EvI S (iEnum S.K ta) ρ Q := fun O σ H I R k => by
  refine h O σ H I _ fun ds vs H1 l1 t1 i1 ⟨xs, e, q⟩ => ?_
  subst e
  obtain ⟨v, ws, rfl, i2, i3⟩ := iss_cons i1
  obtain rfl := iss_nil i3
  obtain ⟨a, o, vs, rfl, hs, is⟩ := is_lF i2
  refine ⟨a, vs, rfl, sqL_lF hs, k _ (enumD 0 xs) H1 l1 t1 ?_ q⟩
  rw [enumD_length, ← is.length]
  refine walk_enum.mono (fun H2 l2 => sqL_lF (hid_later l2 (fun a h => .inl h) _ _ hs)) fun i H2 v H3 hi l2 y => ?_
  obtain ⟨T, x, y, rfl, hT, rfl, hx, hy⟩ := y
  obtain ⟨d, hd, id⟩ := is.getV hy
  obtain rfl : V.int (i : Nat) = x := Option.some.inj hx
  refine ⟨Same.upd hT, _, enumD_get hd, fun O' new live => ?_⟩
  have := is_pair (K := S.K) hT live (.int (i : Nat)) (id.ex (hid_later l2 new))
  rw [show (0 + i : Nat) = i by omega]
  exact this
theorem rvc_listF {ds : List D} (q : Q (.lst ds)) : RvC K (rListQ K) [.lF ds] Q := fun O H vs live hi Qv k => by
  obtain ⟨v, rfl, h⟩ := iss1 hi
  obtain ⟨a, o, us, rfl, hs, is⟩ := is_lF h
  exact ⟨a, us, rfl, .inl (sqL_lF hs), fun p hp => k _ _ _ (Same.upd hp) (is_new_lst live hp is) q⟩
theorem rvc_lenF {ds : List D} (q : Q (.int ds.length)) : RvC K (rLenA K) [.lF ds] Q := fun O H vs live hi Qv k => by
  obtain ⟨v, rfl, h⟩ := iss1 hi
  obtain ⟨a, o, us, rfl, hs, is⟩ := is_lF h
  exact .inl ⟨a, us, rfl, .inl (.inl (.inr ⟨o, (hid_some hs).2⟩)), k _ _ H (Same.refl _) (.int _) (by rw [is.length]; exact q)⟩
end
end NB

end PART_NB18
section PART_NB19
set_option Elab.async false
set_option linter.all false
set_option maxRecDepth 100000
set_option maxHeartbeats 4000000
set_option autoImplicit false
/-! NB19: own dicts, filled by place; dict of a list of pairs; name op= e. -/
namespace NB
open PySem PySem.Spec PyProof.Rows L2
section
variable {S : Sys} {ρ : DEnv} {te tk tv : TE} {P : Post}
theorem evs_dnewK {Q : Sl → Prop} (q : Q (.ownK [])) : EvS S tDNewK ρ Q := fun O σ H I Qv k p hp => by
  have np : p ∉ O := fun m => I.live p m hp
  refine k (.ownK []) (.ref p) _ ⟨Le.same (Same.upd hp), S.same _ _ (Same.upd hp) I.t, .inr ⟨rfl, p, rfl, hp, by rw [upd_same]; exact fun z => (by cases z), [], upd_same, rfl, .nil⟩⟩ q
theorem evs_dnewT {Q : Sl → Prop} (q : Q (.ownT [])) : EvS S tDNewT ρ Q := fun O σ H I Qv k p hp => by
  have np : p ∉ O := fun m => I.live p m hp
  refine k (.ownT []) (.ref p) _ ⟨Le.same (Same.upd hp), S.same _ _ (Same.upd hp) I.t, .inr ⟨rfl, p, rfl, hp, by rw [upd_same]; exact fun z => (by cases z), [], upd_same, rfl, .nil⟩⟩ q
/-- d[k] = v -/
theorem run_dput {i : Nat} {kvs : List (Key × D)} (hk : ρ[i]? = some (some (.ownK kvs))) (hz : kvs.length < sizeLine) (h : Ev S tv ρ fun z => Ev S tk ρ fun y => ∃ k, y = keyD k ∧ P.nx (ρ.set i (some (.ownK (putD kvs k z))))) : Run S (sDPut (tVar i) tk tv) ρ P := fun B O σ H I Dv k1 _ _ _ => by
  refine h O σ H I.env _ fun z u H1 l1 t1 i1 h1 => ?_
  obtain ⟨v, hv, l, rfl, hl, us, e, ke, is⟩ := I.env.at_ i _ hk
  refine ⟨.ref l, hv, ?_⟩
  refine h1 O σ H1 (I.env.le l1 t1) _ fun y w H2 l2 t2 i2 ⟨kk, ey, q⟩ => ?_
  subst ey
  obtain rfl := is_keyD i2
  have ll := l1.trans l2
  obtain ⟨I1, s1⟩ := I.go ll t2
  have nM : l ∉ S.M := I.env.outM i l ⟨_, hk, rfl, hv⟩
  have e2 := ll _ _ nM e
  have kv := (kv_of ke is).ex (hid_le ll I.env.sub)
  have kv2 := (kv.put (k := kk) (i1.ex (hid_le l2 I.env.sub))).ex (hid_upd (H := H2) (o := .dK (putK us kk u)) hl)
  obtain ⟨I2, s2⟩ := I1.mut (s' := .ownK (putD kvs kk z)) (o := .dK (putK us kk u)) hk rfl rfl hv hl ⟨_, upd_same, kv2.keys, kv2.vals⟩
  exact ⟨l, _, rfl, .inl ⟨us, kk, e2, rfl, by rw [kv.length]; exact hz, rfl⟩, k1 _ _ _ _ I2 (s1.trans s2) q⟩
/-- d[k] of an own dict -/
theorem ev_dgetO {i : Nat} {kvs : List (Key × D)} {Q : D → Prop} (hk : ρ[i]? = some (some (.ownK kvs))) (h : Ev S tk ρ fun y => ∃ k d, y = keyD k ∧ valD kvs k = some d ∧ Q d) : Ev S (tDGet (tVar i) tk) ρ Q := fun O σ H I Qv k => by
  obtain ⟨v, hv, l, rfl, hl, us, e, ke, is⟩ := I.at_ i _ hk
  refine ⟨.ref l, hv, ?_⟩
  refine h O σ H I _ fun y w H1 l1 t1 i1 ⟨kk, d, ey, ev, q⟩ => ?_
  subst ey
  obtain rfl := is_keyD i1
  have nM : l ∉ S.M := I.outM i l ⟨_, hk, rfl, hv⟩
  have e1 := l1 _ _ nM e
  have kv := (kv_of ke is).ex (hid_le l1 I.sub)
  rcases kv.get (k := kk) with ⟨w, d', h1, h2, i2⟩ | ⟨_, h2⟩
  · rw [h2] at ev
    cases ev
    exact ⟨l, w, rfl, .inl ⟨us, kk, .inl e1, rfl, h1.symm⟩, k d w H1 l1 t1 i2 q⟩
  · rw [h2] at ev; cases ev
theorem run_augI {i : Nat} {j : Int} {g : Int → Int → Int} (hk : ρ[i]? = some (some (.dat (.int j)))) (h : Ev S te ρ fun y => ∃ b, y = .int b ∧ P.nx (ρ.set i (some (.dat (.int (g j b)))))) : Run S (tAug i te (ipI g)) ρ P := fun B O σ H I Dv k1 _ _ _ => by
  obtain ⟨v, hv, ok⟩ := I.env.at_ i _ hk
  obtain rfl : v = .int j := is_int ok
  refine ⟨.int j, hv, ?_⟩
  refine h O σ H I.env _ fun y u H1 l1 t1 i1 ⟨b, ey, q⟩ => ?_
  subst ey
  obtain rfl := is_int i1
  obtain ⟨I1, s1⟩ := I.go l1 t1
  exact ⟨j, b, rfl, rfl, k1 _ _ _ _ (I1.set (.int _)) s1 q⟩
def ipF : TIp := fun x y H Q => ∃ i j, x = .int i ∧ y = .int j ∧ CDivW i j ∧ Q (.int (i / j)) H
theorem ip_fdiv {X : Cx} : PIp X .FloorDiv ipF := by
  intro pins s σ H x y v u Q I r1 r2 h
  obtain ⟨i, j, e1, e2, hc, q⟩ := h
  subst e1; subst e2
  obtain ⟨t, rfl⟩ := r1
  obtain ⟨t', rfl⟩ := r2
  have h1 : (0 : Int) < j := hc.1
  exact PyProof.Rows.ifloordiv_int (by omega) (by rw [Int.fdiv_eq_ediv_of_nonneg i (by omega)]; exact ⟨.int _, H, I.tok _, ⟨_, rfl⟩, q⟩) (.inl (PyProof.noPylong_of_log2 hc.2))
theorem run_augF {i : Nat} {j : Int} (hk : ρ[i]? = some (some (.dat (.int j)))) (h : Ev S te ρ fun y => ∃ b, y = .int b ∧ CDivW j b ∧ P.nx (ρ.set i (some (.dat (.int (j / b)))))) : Run S (tAug i te ipF) ρ P := fun B O σ H I Dv k1 _ _ _ => by
  obtain ⟨v, hv, ok⟩ := I.env.at_ i _ hk
  obtain rfl : v = .int j := is_int ok
  refine ⟨.int j, hv, ?_⟩
  refine h O σ H I.env _ fun y u H1 l1 t1 i1 ⟨b, ey, c, q⟩ => ?_
  subst ey
  obtain rfl := is_int i1
  obtain ⟨I1, s1⟩ := I.go l1 t1
  exact ⟨j, b, rfl, rfl, c, k1 _ _ _ _ (I1.set (.int _)) s1 q⟩
end
/-! ### dict of a list of pairs -/
def rDictP (K : PySem.W.Frag) : List V → Hp → VK → Prop := fun xs H Q => ∃ (a : Addr) (ps : List Addr) (kvs : List (Key × V)), xs = [.ref a] ∧ SqL K H a (ps.map V.ref) ∧ Paired (fun p kv => SqT K H p [kV kv.1, kv.2]) ps kvs ∧ ∀ p, H p = none → Q (.ref p) (upd H p (.dK (mergeK [] kvs)))
theorem R.call_dictP {X : Cx} (K : PySem.W.Frag) (hc : X.calm = true := by rfl) (h : X.K = K := by rfl) : CallR X (.type "dict") (rDictP K) := h ▸ L2.call_dictP hc
theorem kv_merge {K : PySem.W.Frag} {H : Hp} : ∀ {us : List (Key × V)} {ds : List (Key × D)} {ua : List (Key × V)} {da : List (Key × D)}, Kv K H us ds → Kv K H ua da → Kv K H (mergeK ua us) (foldD da ds)
  | _, _, _, _, .nil, h => h
  | _, _, _, _, .cons (k := kk) h t, h2 => by
    have := kv_merge t (h2.put (k := kk) h)
    exact this
theorem pairs_dict {K : PySem.W.Frag} {O : List Addr} {H : Hp} : ∀ {ps : List (Key × D)} {us : List V}, Iss K (hid O H) us (ps.map fun p => .tup [keyD p.1, p.2]) → ∃ (as : List Addr) (kvs : List (Key × V)), us = as.map V.ref ∧ Paired (fun p kv => SqT K H p [kV kv.1, kv.2]) as kvs ∧ Kv K (hid O H) kvs ps
  | [], us, h => by
    obtain rfl := iss_nil h
    exact ⟨[], [], rfl, .nil, .nil⟩
  | p :: ps, us, h => by
    obtain ⟨v, ws, rfl, i1, i2⟩ := iss_cons h
    obtain ⟨a, vs, rfl, hs, is⟩ := is_tup i1
    obtain ⟨k, z, rfl, ik, iz⟩ := iss2 is
    obtain rfl := is_keyD ik
    obtain ⟨as, kvs, rfl, pr, kv⟩ := pairs_dict i2
    exact ⟨a :: as, (p.1, z) :: kvs, rfl, .cons (sqT_hid hs) pr, .cons iz kv⟩
theorem rvc_dictP {K : PySem.W.Frag} {ps : List (Key × D)} {Q : D → Prop} (q : Q (.dK (foldD [] ps))) : RvC K (rDictP K) [.lst (ps.map fun p => .tup [keyD p.1, p.2])] Q := fun O H vs live hi Qv k => by
  obtain ⟨v, ws, rfl, i1, i2⟩ := iss_cons hi
  obtain rfl := iss_nil i2
  obtain ⟨a, us, rfl, hs, is⟩ := is_lst i1
  obtain ⟨as, kvs, rfl, pr, kv⟩ := pairs_dict is
  refine ⟨a, as, kvs, rfl, sqL_hid hs, pr, fun p hp => ?_⟩
  have np : p ∉ O := fun m => live p m hp
  have kv2 : Kv K (hid O (upd H p (.dK (mergeK [] kvs)))) (mergeK [] kvs) (foldD [] ps) := (kv_merge kv .nil).ex fun b o e => by
    obtain ⟨n, e⟩ := hid_some e
    rw [hid_out n, upd_ne (ne_of_none e hp)]
    exact e
  exact k _ _ _ (Same.upd hp) (.dK (.inl (by rw [hid_out np, upd_same])) kv2.keys kv2.vals) q
end NB

end PART_NB19
section PART_NB20
set_option Elab.async false
set_option linter.all false
set_option maxRecDepth 100000
set_option maxHeartbeats 4000000
set_option autoImplicit false
/-! NB20: methods with a star parameter, called with a starred list or tuple; an own list by a conditional. -/
namespace NB
open PySem PySem.Spec PyProof.Rows L2
def tMethSQ (K : PySem.W.Frag) (C : Addr) (m : Str) (g : Addr) (sp : Sp) (E : XK) (ta te : TE) : TE := fun σ H Q => ta σ H fun x H1 => ∃ a dx fs, x = .ref a ∧ H1 a = some (.ins C dx fs) ∧ fs.lookup m = none ∧
  ∀ q, H1 q = none → te σ (upd H1 q (.met g a)) fun y H2 => ∃ b vs, y = .ref b ∧ (SqT K H2 b vs ∨ SqL K H2 b vs) ∧ H2 q = some (.met g a) ∧ sp (.ref a :: vs) H2 Q E
theorem pe_methSQ {X : Cx} {CX : CXT} {k : Nat} {C g : Addr} {m : Str} {sp : Sp} {E : XK} {o e : Expr} {ta te : TE} {p apos pos : Pos} (he : PE X o ta) (c : Cls X.K C) (b : BMeth X.K C m g) (F : FnR X.prog X.w X.K X.mg X.base CX k g sp) (hr : Room k X.A)
    (hx : Passes CX X E) (ha : PE X e te) (hbase : attributeBase o m X.env (eval o X.env) = eval o X.env := by rfl) : PE X (.Call (.Attribute o m apos) [.Starred e p] [] pos) (tMethSQ X.K C m g sp E ta te) := by
  refine ⟨fun pins s σ H Q I h => ?_⟩
  refine starcall_of hbase (thn (he.run pins s σ H _ I h) fun u s1 ⟨x, H1, I1, rx, a, dx, fs, ex, ea, l, q⟩ => ?_)
  subst ex
  obtain rfl : u = Value.ref a := rx
  refine getbound_ok I1 ea c b l fun q1 s2 hq1 I2 => ?_
  refine PySem.W.ks_call (P := PySem.W.MethP X.K q1 g (.ref a)) rfl (PySem.W.keeps_M b.fi) (PySem.W.ks_lone ?_)
  refine thn (ha.run pins s2 σ _ _ I2 (q q1 hq1)) fun v s3 ⟨y, H2, I3, ry, t, vs, ey, ht, hm, hsp⟩ => ?_
  subst ey
  obtain rfl : v = Value.ref t := ry
  refine StX.star_any I3 ht fun us s4 I4 rv => ⟨met_P I4 hm, ?_⟩
  exact wpAny_call (PySem.W.method_call (met_P I4 hm).1 (run_fnR (us := Value.ref a :: us) (vs := V.ref a :: vs) F hr hx I4 (.cons (show RelV (.ref a) (.ref a) from rfl) rv) hsp))
/-- what a method with one star parameter promises, over data -/
def spStar (K : PySem.W.Frag) (F : Fn) : Sp := fun vs H Q E => ∃ ws rest, vs = ws ++ rest ∧ ws.length = 1 ∧ rest.length ≤ sizeLine ∧ ∀ p, H p = Option.none → spF (S0 K) F (ws ++ [V.ref p]) (upd H p (.tup rest)) Q E
structure MetS (P : Program) (w : World) (K : PySem.W.Frag) (mg : Str → Option Value) (base : Heap) (k : Nat) (C : Addr) (m : Str) (g : Addr) (F : Fn) : Prop where
  c : Cls K C
  b : BMeth K C m g
  f : FnR P w K mg base CX0 k g (spStar K F)
theorem bmB_ok {K : PySem.W.Frag} {C : Addr} {m : Str} (me : Meth K C m (He.ma K C m)) (h : bmB K C m = true) : BMeth K C m (He.ma K C m) := by
  unfold bmB at h
  simp only [Bool.and_eq_true, decide_eq_true_eq, Bool.not_eq_true'] at h
  exact ⟨me, h.1, h.2.1, h.2.2.1, h.2.2.2⟩
theorem cxUp0 : StX.CXUp CX0 := fun _ _ _ _ _ _ _ _ _ _ _ z => z.elim
theorem mets_of {P : Program} {w : World} {K : PySem.W.Frag} {mg : Str → Option Value} {base : Heap} {C g : Addr} {m qual pv self : Str} {params : Arguments} {body : List Stmt} {scope : Scope} {N : List Str} {k : Nat} {F : Fn} (c : Cls K C) (b : BMeth K C m g)
    (Fd : ∃ fd, FunD K m qual params body scope [] [] g fd) (S : FnScope N ([self] ++ [pv]) scope)
    (h0 : ∀ (kV doc pm : Value) (an : Option Addr) (cdv ct a : Value), bindArgs (PySem.W.fnOf m qual params body scope .none kV doc pm an cdv ct) ⟨[a], []⟩ = (newTuple [] >>= fun t => pure [(self, a), (pv, t)]))
    (h1 : ∀ (kV doc pm : Value) (an : Option Addr) (cdv ct a r : Value) (rs : List Value), bindArgs (PySem.W.fnOf m qual params body scope .none kV doc pm an cdv ct) ⟨a :: r :: rs, []⟩ = (newTuple (r :: rs) >>= fun t => pure [(self, a), (pv, t)]))
    (hbody : ∀ (f : Addr) (cdv : Value) (A : Around) (outer : List PySem.Env) (s : Shared) (H : Hp) (E : XK), Room k (A.deeper (envOfC qual scope s.heap.objs.size f cdv)) →
      ∃ t, PSs (cxOf CX0 P w K mg base N qual scope f cdv A outer s H E).nox body t ∧ ∀ ds R, F.f ds R → Run (S0 K) t (startD N ds) ⟨fun _ => R .non, R, fun _ => False, fun _ => False⟩) : MetS P w K mg base (k + 1) C m g F := by
  obtain ⟨fd, Fd⟩ := Fd
  obtain ⟨oc, od, dV, kV, doc, pm, an, cdv, ct, osl, rfl, lk, hcd, hD, hK⟩ := Fd.ex
  rcases hD with ⟨_, rfl⟩ | ⟨e, _⟩
  · refine ⟨c, b, ?_⟩
    exact StX.fn_star (ps := [self]) (sp := spF (S0 K) F) lk hcd S cxUp0 (StX.bind_star1 (B := fun us => bindArgs (PySem.W.fnOf m qual params body scope .none kV doc pm an cdv ct) ⟨us, []⟩) (p1 := self) (pv := pv) (fun a => h0 kV doc pm an cdv ct a) fun a r rs => h1 kV doc pm an cdv ct a r rs) fun A outer s H vs Q E hr h => by
      obtain ⟨t, ht, hb⟩ := hbody g cdv A outer s H E hr
      exact ⟨t, ht.nox, body_of h hb⟩
  · exact absurd rfl e
theorem pe_ms {X : Cx} {k j : Nat} {C g : Addr} {m : Str} {F : Fn} {o e : Expr} {ta te : TE} {p apos pos : Pos} (h : MetS X.prog X.w X.K X.mg X.base k C m g F) (hr : Room j X.A) (he : PE X o ta) (ha : PE X e te) (hk : k ≤ j := by first | decide | exact Nat.le_refl _ | omega)
    (hbase : attributeBase o m X.env (eval o X.env) = eval o X.env := by rfl) : PE X (.Call (.Attribute o m apos) [.Starred e p] [] pos) (tMethSQ X.K C m g (spStar X.K F) E0 ta te) :=
  pe_methSQ he h.c h.b h.f (hr.mono hk) pass0 ha hbase
section
variable {S : Sys} {ρ : DEnv} {ta te : TE} {C g : Addr} {m : Str} {F : Fn} {E : XK} {Q : D → Prop}
theorem ev_ms (h : Ev S ta ρ fun x => ∃ fs, x = .obj C fs ∧ fs.lookup m = none ∧ Ev S te ρ fun y => ∃ xs, (y = .lst xs ∨ y = .tup xs) ∧ xs.length ≤ sizeLine ∧ F.f [x, .tup xs] Q) : Ev S (tMethSQ S.K C m g (spStar S.K F) E ta te) ρ Q := fun O σ H I Qv k => by
  refine h O σ H I _ fun x v H1 l1 t1 i1 ⟨fs, ex, e, h2⟩ => ?_
  subst ex
  obtain ⟨a, dx, us, rfl, ha, ke, is⟩ := is_obj i1
  have e1 : us.lookup m = none := by
    rcases (kv_of ke is).mapL (k := m) with ⟨v, d', e1, e2, i⟩ | ⟨e1, _⟩
    · rw [e] at e2; cases e2
    · exact e1
  refine ⟨a, dx, us, rfl, (hid_some ha).2, e1, fun q hq => ?_⟩
  have s1 : Same H1 (upd H1 q (.met g a)) := Same.upd hq
  have l1' := l1.trans (Le.same s1)
  have t1' := S.same _ _ s1 t1
  have nq : q ∉ S.M := fun mm => S.live _ t1 q mm hq
  refine h2 O σ _ (I.le l1' t1') _ fun y u H2 l2 t2 i2 ⟨xs, ey, hz, hF⟩ => ?_
  have : ∃ b vs, u = .ref b ∧ (SqT S.K H2 b vs ∨ SqL S.K H2 b vs) ∧ Iss S.K (hid O H2) vs xs := by
    rcases ey with rfl | rfl
    · obtain ⟨b, vs, rfl, hs, is⟩ := is_lst i2
      exact ⟨b, vs, rfl, .inr (sqL_hid hs), is⟩
    · obtain ⟨b, vs, rfl, hs, is⟩ := is_tup i2
      exact ⟨b, vs, rfl, .inl (sqT_hid hs), is⟩
  obtain ⟨b, vs, rfl, hs, is2⟩ := this
  have ll := l1'.trans l2
  have live2 := (I.le ll t2).live
  have i1' : Is S.K (hid O H2) (.ref a) (.obj C fs) := (i1.ex (hid_sub (O' := O) fun _ h => h)).ex (fun b o e => by
    obtain ⟨n, e⟩ := hid_some e
    rw [hid_out n]
    exact l2 _ _ (fun mm => n (I.sub _ mm)) (s1 _ _ e))
  refine ⟨b, vs, rfl, hs, l2 _ _ nq upd_same, [.ref a], vs, rfl, rfl, by rw [is2.length]; exact hz, fun p hp => ?_⟩
  have s3 : Same H2 (upd H2 p (.tup vs)) := Same.upd hp
  have np : p ∉ O := fun mm => live2 p mm hp
  have ex3 : ∀ b o, hid O H2 b = some o → hid O (upd H2 p (.tup vs)) b = some o := fun b o e => by
    obtain ⟨n, e⟩ := hid_some e
    rw [hid_out n]
    exact s3 _ _ e
  refine ⟨O, [.obj C fs, .tup xs], trivial, fun a ha => absurd ha (by simp [S0]), fun b hb e => (by cases q : H2 b with | none => exact live2 b hb q | some o => rw [s3 b o q] at e; cases e), .cons (i1'.ex ex3) (.cons (is_new_tup live2 hp is2) .nil), F.mono _ _ _ (fun d c v H' l _ i => ?_) hF⟩
  have l' : Same (upd H2 p (.tup vs)) H' := fun a o e => l a o (by simp [S0]) e
  have lf := (ll.trans (Le.same s3)).trans (Le.same l')
  exact k d v H' lf (S.same _ _ l' (S.same _ _ s3 t2)) i c
theorem none_of_le {H H1 : Hp} {p : Addr} (l1 : Le S.M H H1) (t1 : S.T H1) (n : H1 p = none) : H p = none := by
  cases q : H p with
  | none => rfl
  | some o =>
    by_cases m : p ∈ S.M
    · exact absurd n (S.live _ t1 p m)
    · rw [l1 p o m q] at n; cases n
/-- a slot by a conditional -/
theorem evs_if {tt : TT} {tb : TE} {Q : Sl → Prop} (h : EvT S tt ρ fun b => if b = true then EvS S ta ρ Q else EvS S tb ρ Q) : EvS S (tIf tt ta tb) ρ Q := fun O σ H I Qv k => by
  refine h O σ H I _ fun b H1 l1 t1 c => ?_
  have up : ∀ s v H2, SlNew S O H1 s v H2 → SlNew S O H s v H2 := fun s v H2 ⟨l, t, h⟩ => ⟨l1.trans l, t, h.imp id fun ⟨hs, p, e, n, n', ok⟩ => ⟨hs, p, e, none_of_le (S := S) l1 t1 n, n', ok⟩⟩
  cases b with
  | true => exact c O σ H1 (I.le l1 t1) _ fun s v H2 n q => k s v H2 (up s v H2 n) q
  | false => exact c O σ H1 (I.le l1 t1) _ fun s v H2 n q => k s v H2 (up s v H2 n) q
end
end NB

end PART_NB20
section PART_NB21

end PART_NB21
section PART_NB22
set_option Elab.async false
set_option linter.all false
set_option maxRecDepth 100000
set_option maxHeartbeats 4000000
set_option pp.maxSteps 400
/-! NB22: the making of the program's exceptions, at the machine's level -/
namespace Xm
open PySem PySem.Spec PyProof.Rows L2
open PySem.W (Frag Looks KxsFacts InstAt)
/-- a built-in base -/
structure BaseF (B newId i : String) (bmB : List Value) : Prop where
  fb : ExcBaseFacts B newId i bmB
  kf : PySem.W.KxsFacts B i
  sf : StoreFacts B bmB "object.__setattr__" "object"
theorem baseV : BaseF "ValueError" "ValueError.__new__" "ValueError.__init__" veL := ⟨PySem.F.excBase_ValueError, PySem.W.kxs_ValueError, PySem.F.store_ValueError⟩
theorem baseL : BaseF "LookupError" "LookupError.__new__" "LookupError.__init__" leL := ⟨PySem.F.excBase_LookupError, PySem.W.kxs_LookupError, PySem.F.store_LookupError⟩
theorem baseI : BaseF "IndexError" "IndexError.__new__" "IndexError.__init__" ieL := ⟨PySem.F.excBase_IndexError, PySem.W.kxs_IndexError, PySem.F.store_IndexError⟩
/-- what the written part says of an exception class over B -/
structure XcC (K : Frag) (C : Addr) (B newId i : String) (bmB : List Value) : Prop where
  ini : PySem.W.excInitIn K C bmB newId = true
  ovr : PySem.W.excOver K C bmB = true
  sub : PySem.W.subIn K (.ref C) (.type B) = some true
  self : PySem.W.mroIn K C (.ref C) = some true
  sup : PySem.W.ks_superIn K C C "__init__" = some (some (.builtin i))
  opq : PySem.W.nsIn K PySem.cStatics "thirdparty.any" = some none
  sa : PySem.W.findIn K (.ref C) "__setattr__" = some (some (.builtin "object.__setattr__"))
  xf : XfC K C
  tyC : PySem.W.typeIn K (.ref C) = some (.type "type")
  kC : PySem.W.keepIn K (.ref C) = true
theorem xcB_ok {K : Frag} {C : Addr} {B newId i : String} {bmB : List Value} (h : xcB K C B newId i bmB = true) : XcC K C B newId i bmB := by
  unfold xcB at h
  simp only [Bool.and_eq_true, decide_eq_true_eq] at h
  obtain ⟨h1, h2, h3, h4, h5, h6, h7, h8, h9, h10⟩ := h
  exact ⟨h1, h2, h3, h4, h5, h6, h7, xfB_ok h8, h9, h10⟩
section
variable {P : Program} {w : World} {A : Around} {E : Value → Shared → Prop} {s : Shared} {K : Frag} {C : Addr} {B newId i : String} {bmB : List Value}
theorem cls_of (X : XcC K C B newId i bmB) : ∃ cd, PySem.W.clsIn K C = some cd ∧ ∃ bm, cd.mro = .ref C :: bm ∧ PySem.W.excTail bmB bm = true := by
  obtain ⟨cd, hc, ho⟩ := PySem.W.any_some X.ovr
  (try dsimp only at ho)
  refine ⟨cd, hc, ?_⟩
  split at ho
  · rename_i C' bm hm
    rw [Bool.and_eq_true, beq_iff_eq] at ho
    obtain ⟨rfl, ho⟩ := ho
    exact ⟨bm, hm, ho⟩
  · cases ho
theorem clsObj {h : Heap} {cd : ClassData} (hK : K.In h) (hc : PySem.W.clsIn K C = some cd) : ∃ oD, h.get? C = some oD ∧ oD.data = .cls cd := by
  unfold PySem.W.clsIn at hc
  split at hc
  · rename_i c d cd' sl ho
    cases hc
    exact ⟨_, hK _ _ ho, rfl⟩
  · cases hc
/-- an exception as it is made, its dict (none as yet | at d) -/
abbrev exc (C t : Addr) (d : Option Addr) : Obj := { cls := .ref C, dict := d, data := .fields #[.ref t, .none, .none, .none, .bool false, .none] }
theorem exc_no {t : Addr} {d : Option Addr} : PySem.W.notCls (exc C t d) = true := rfl
/-- super().__init__("X") -/
theorem super_stmt {mg m : Str → Option Value} {mb : Str → Option Value} {f cda cc L e t0 : Addr} {oc ct doc pm : Value} {od an : Option Addr} {osl : Array (Option Value)} {qual : Str} {params : Arguments} {body : List Stmt} {scope : Scope} {a1 : Value} {b1 : Option Addr} {vs : Array Value} {c1 : Array (Option Value)} {file : Str} {tf : Tok} {a2 : Value} {b2 : Option Addr} {c2 : Array (Option Value)} {ar : Arg} {p0 p1 p2 p3 p4 p5 : Pos} {nm : Str} {k : Nat} {pl : Sem Bool} {Q : Flow → Shared → Prop}
    (BF : BaseF B newId i bmB) (X : XcC K C B newId i bmB) (hK : K.In s.heap) (hg : s.heap.Ns mainGlobals mg) (hmg : mg "super" = none) (hb : s.heap.Ns builtinsNs mb) (hbb : ∀ x : Str, x ≠ "__name__" → mb x = bootBuiltins x)
    (hn : s.heap.Ns L m) (hself : m ar.arg = some (.ref e)) (he : s.heap.get? e = some (exc C t0 none))
    (lk : K.lookup f = some ⟨oc, od, .func (PySem.W.ksFn "__init__" qual params body scope .none .none doc pm an (.ref cda) ct cc), osl⟩) (lc : K.lookup cda = some ⟨a1, b1, .fields vs, c1⟩) (hv : vs[2]? = some (Value.str file tf)) (hfile : ((P.main.file : Str) == file) = true)
    (lcc : K.lookup cc = some ⟨a2, b2, .cell (some (.ref C)), c2⟩) (htop : (P.main.scope.names.lookup ("super" : Str)).isSome = false)
    (hp : (params.posonlyargs ++ params.args).head? = some ar) (hks : scope.names.lookup ("super" : Str) = some .globalImplicit) (hkc : scope.names.lookup ("__class__" : Str) = some .free) (hka : scope.names.lookup ar.arg = some .local) (hk : scope.kind = .function)
    (hmc : eval (.Call (.Attribute (.Call (.Name "super" p0) [] [] p1) "__init__" p2) [.Constant (.str nm) k p3] [] p4) (PySem.W.ksEnv qual scope L f (.ref cda) cc) = (do
      let ov ← attributeBase (.Call (.Name "super" p0) [] [] p1) "__init__" (PySem.W.ksEnv qual scope L f (.ref cda) cc) (eval (.Call (.Name "super" p0) [] [] p1) (PySem.W.ksEnv qual scope L f (.ref cda) cc))
      standAt p2.atName
      let (fx, first) ← holding [ov] (getMethod ov "__init__" pl)
      callWith p4 fx first (backTo p4 (starEach [.Constant (.str nm) k p3] (PySem.W.ksEnv qual scope L f (.ref cda) cc))) []))
    (hsw : swapsWith (.Call (.Attribute (.Call (.Name "super" p0) [] [] p1) "__init__" p2) [.Constant (.str nm) k p3] [] p4) none p5.line (PySem.W.ksEnv qual scope L f (.ref cda) cc) = pure false)
    (h : ∀ h' t1 tk, (∀ b o, b ≠ e → s.heap.get? b = some o → h'.get? b = some o) → h'.get? e = some (exc C t1 none) → Q .next ⟨h', s.gens, s.drawn, tk, s.os⟩) :
    PySem.wpAt (model P w) A (.func body (PySem.W.ksEnv qual scope L f (.ref cda) cc)) (exec (.Expr (.Call (.Attribute (.Call (.Name "super" p0) [] [] p1) "__init__" p2) [.Constant (.str nm) k p3] [] p4) p5) (PySem.W.ksEnv qual scope L f (.ref cda) cc)) Q E s := by
  obtain ⟨cd, hc, bm, hm, ht⟩ := cls_of X
  obtain ⟨hp0, g, d, t, os⟩ := s
  obtain ⟨oD, hD1, hD2⟩ := clsObj hK hc
  have eC : e ≠ C := fun z => by
    rw [z, hD1] at he
    cases he
    cases hD2
  have hi : interactive (PySem.W.ksEnv qual scope L f (.ref cda) cc) = false := by simp [interactive, hk]
  refine PySem.ks_wpAt_Expr_any ?_ hi hsw
  refine PySem.ks_wpAt_MethodCall (pl := pl) ?_ hmc
  refine PySem.ks_wpAt_super_base (env := PySem.W.ksEnv qual scope L f (.ref cda) cc) hks hkc rfl rfl (hK _ _ lk) rfl hp rfl (hK _ _ lc) rfl hv hfile htop ?_
  refine PySem.W.ks_loadName_global hk hks (PySem.Calls.loadGlobal_builtin (env := PySem.W.ksEnv qual scope L f (.ref cda) cc) hg hmg hb ((hbb _ (by decide +kernel)).trans (by first | rfl | kernel_rfl)) ⟨rfl, ?_⟩)
  refine wpAny_loadName_free hk hkc rfl ⟨_, hK _ _ lcc, rfl⟩ ?_
  refine wpAny_loadName_local hk hka hn hself ?_
  refine PySem.ks_wpAny_isType_cls hD1 hD2 ⟨rfl, ?_⟩
  refine PySem.ks_wpAny_call_super hD1 hD2 he rfl (fun c z => by cases z) (PySem.W.looks_mroIn hK X.self) (fun h1 e1 k1 => ?_)
  have hK1 : K.In h1 := fun b o z => k1 b o (hK b o z)
  have he1 := k1 _ _ he
  have I1 : PySem.W.InstAt h1 e (exc C t0 none) C none := ⟨he1, rfl, rfl, trivial⟩
  have hI : Looks (model P w) h1 (isInstance (.ref e) (.type B)) true := I1.type.andThen (PySem.W.looks_subIn hK1 X.sub)
  have hm2 : PySem.W.alongIn K "__init__" ((cd.mro.dropWhile (· != .ref C)).drop 1) = some (some (.builtin i)) := by
    have := X.sup
    unfold PySem.W.ks_superIn at this
    rw [hc] at this
    exact this
  refine PySem.W.kxs_getMethod BF.kf e1 (PySem.W.looks_opaque hK1 X.opq) (l₀ := cd.mro) (fun A Q E s k q => wpAny_bind ((PySem.W.looks_clsIn hK1 hc) A _ E s k (wpAny_pure q))) rfl hK1 hm2 hI eC rfl ?_
  have k2 : ∀ b o, h1.get? b = some o → (h1.push (PySem.W.kxs_mw i e)).get? b = some o := fun b o z => Heap.get?_push_of_some _ z
  have hu : (h1.push (PySem.W.kxs_mw i e)).get? h1.objs.size = some (PySem.W.kxs_mw i e) := Heap.get?_push_at rfl rfl
  refine PySem.W.kxs_callWith (i := i) (x := e) (by rfl) ?_
  refine PySem.Calls.evalArgs_plain ?_
  show wpAny _ _ (spliced ((false, eval (.Constant (.str nm) k p3) (PySem.W.ksEnv qual scope L f (.ref cda) cc)) :: [])) _ _ _
  refine PySem.Calls.spliced_cons (PySem.Calls.Constant_str ?_)
  refine PySem.Calls.spliced_nil ⟨hu, ?_⟩
  have hK2 : K.In (h1.push (PySem.W.kxs_mw i e)) := fun b o z => k2 b o (hK1 b o z)
  have he2 := k2 _ _ he1
  obtain ⟨nm', N', qn, bs, bm', hdct, sn, sub, ab, col, dd, q0, q1, q2, q3, q5, hC, hT⟩ := PySem.W.excInit_of hK2 X.ini
  refine wpAny_call (codeAny_of_tree ?_)
  show wpAny _ A.in1 (callAny (.ref h1.objs.size) ⟨[.str nm _], []⟩) _ _ _
  simp only [callAny]
  refine wpAny_bind (wpAny_load hu ?_)
  simp only [PySem.W.kxs_mw, show (Value.type "method-wrapper" == Value.type "method" || Value.type "method-wrapper" == Value.type "builtin_function_or_method" || Value.type "method-wrapper" == Value.type "method-wrapper") = true by decide, if_true]
  refine PySem.W.KFB.if_so (by decide) ?_
  refine wpAny_bind (PySem.W.check_bound_init BF.fb.toExcCallFacts hC he2 rfl ?_)
  refine wpAny_bind (wpAny_pure (wpAny_pure ?_))
  refine ⟨plainId_quiet BF.fb.init.plain _, codeAny_builtin BF.fb.initEntry ?_⟩
  refine PySem.W.exc_init_tree (cls := .ref C) (t0 := t0) (dv := none) (c2 := .none) (c3 := .none) (b4 := .bool false) he2 (by show 1 ≤ sizeLine; rw [sizeLine_eq]; omega) fun h' k' e' t' => ?_
  exact h h' _ _ (fun b o hb z => k' b o hb (k2 b o (k1 b o z))) e'
open Builtin Builtin.ObjectAttr in
/-- self.f = u, the first one: the dict is made -/
theorem set_new {e t0 : Addr} {name : Str} {u : Value} {Q : Unit → Shared → Prop} (BF : BaseF B newId i bmB) (X : XcC K C B newId i bmB) (hK : K.In s.heap) (he : s.heap.get? e = some (exc C t0 none)) (hno : PySem.W.findIn K (.ref C) name = some none)
    (h : ∀ h' dx tk, (∀ b o, b ≠ e → s.heap.get? b = some o → h'.get? b = some o) → s.heap.objs.size ≤ dx → dx ≠ e → h'.get? e = some (exc C t0 (some dx)) → h'.Ns1 dx (fun y => if y = name then some u else none) → Q () ⟨h', s.gens, s.drawn, tk, s.os⟩) :
    wpAny (model P w) A (setAttr (.ref e) name u) Q E s := by
  obtain ⟨cd, hc, hh⟩ := PySem.W.any_some X.xf.hdC
  obtain ⟨hp, g, d, t, os⟩ := s
  have hcls : Looks (model P w) hp (classData C) cd := PySem.W.looks_clsIn hK hc
  have hxs : e ≠ hp.objs.size := Nat.ne_of_lt (Heap.lt_size he)
  refine PySem.W.set_plain hK (ox := exc C t0 none) (od := none) ⟨he, rfl, rfl, trivial⟩ X.sa ?_
  refine PySem.W.osa_openX BF.sf hK (ox := exc C t0 none) (od := none) ⟨he, rfl, rfl, trivial⟩ X.ovr (r := none) (by unfold PySem.W.takerIn; rw [hno]; rfl) (fun b => ?_)
  show wpAny _ _ (storeInOwnDict (.ref e) (.ref C) (.str name _) name u b) _ _ _
  obtain ⟨nm, bs, mro, ns, qn, hd, sn, sb, ab, col, del⟩ := cd
  dsimp only at hh
  subst hh
  unfold storeInOwnDict ownDictForStores
  repeat (first | with_reducible refine PySem.HandSPX.store_in_new ?_ ?_ | with_reducible refine wpAny_loadPart_at he ?_ | with_reducible refine hcls.at ?_ | wp_step)
  · exact ⟨_, #[], _, (Heap.get?_update_ne _ _ _ _ hxs.symm).trans (Heap.get?_push_at rfl rfl), rfl, fun e he => absurd he (by simp), fun _ => rfl⟩
  · intro h' tk' hn' hs
    have hx₁ : (hp.push { cls := .type "dict", data := .dict #[] }).get? e = some (exc C t0 none) := Heap.get?_push_of_some _ he
    refine h h' hp.objs.size tk' (fun b o hb ho => ?_) (Nat.le_refl _) hxs.symm ?_ hn'
    · exact (hs.2 b (Nat.ne_of_lt (Heap.lt_size ho))).trans ((Heap.get?_update_ne _ _ _ _ hb).trans (Heap.get?_push_of_some _ ho))
    · exact (hs.2 e hxs).trans (Heap.get?_update_self _ hx₁ rfl)
open Builtin Builtin.ObjectAttr in
/-- .. a further one -/
theorem set_old {e t0 dx : Addr} {name : Str} {u : Value} {m0 : Str → Option Value} {nl : List Str} {Q : Unit → Shared → Prop} (BF : BaseF B newId i bmB) (X : XcC K C B newId i bmB) (hK : K.In s.heap) (he : s.heap.get? e = some (exc C t0 (some dx))) (hns : s.heap.Ns1 dx m0) (hw : Within m0 nl) (hz : nl.length ≤ 1000) (hno : PySem.W.findIn K (.ref C) name = some none)
    (h : ∀ h' tk, (∀ b o, b ≠ dx → s.heap.get? b = some o → h'.get? b = some o) → h'.Ns1 dx (fun y => if y = name then some u else m0 y) → Q () ⟨h', s.gens, s.drawn, tk, s.os⟩) :
    wpAny (model P w) A (setAttr (.ref e) name u) Q E s := by
  obtain ⟨cd, hc, hh⟩ := PySem.W.any_some X.xf.hdC
  obtain ⟨hp, g, d, t, os⟩ := s
  have hcls : Looks (model P w) hp (classData C) cd := PySem.W.looks_clsIn hK hc
  obtain ⟨oD, esD, epD, hoD, hdD, _⟩ := hns.count hw
  refine PySem.W.set_plain hK (ox := exc C t0 (some dx)) (od := some oD) ⟨he, rfl, rfl, hoD⟩ X.sa ?_
  refine PySem.W.osa_openX BF.sf hK (ox := exc C t0 (some dx)) (od := some oD) ⟨he, rfl, rfl, hoD⟩ X.ovr (r := none) (by unfold PySem.W.takerIn; rw [hno]; rfl) (fun b => ?_)
  show wpAny _ _ (storeInOwnDict (.ref e) (.ref C) (.str name _) name u b) _ _ _
  obtain ⟨nm, bs, mro, ns, qn, hd, sn, sb, ab, col, del⟩ := cd
  dsimp only at hh
  subst hh
  unfold storeInOwnDict ownDictForStores
  repeat (first | with_reducible refine PySem.OEX.store_in_old hns hw hz ?_ | with_reducible refine wpAny_loadPart_at he ?_ | with_reducible refine hcls.at ?_ | wp_step)
  intro h' tk' hn' hs
  exact h h' tk' (fun b o hb ho => (hs.2 b hb).trans ho) hn'
end
end Xm

end PART_NB22
section PART_NB23
set_option Elab.async false
set_option linter.all false
set_option maxRecDepth 100000
set_option maxHeartbeats 4000000
set_option pp.maxSteps 400
/-! NB23: the __init__ of the program's exceptions; raising them -/
namespace Xm
open PySem PySem.Spec PyProof.Rows L2
open PySem.W (Frag Looks KxsFacts InstAt)
/-- self.f = x, one behind the other -/
inductive Flds : List Stmt → List (Str × Str) → Prop
  | nil : Flds [] []
  | cons {f x : Str} {p1 p2 p3 p4 : Pos} {r : List Stmt} {l : List (Str × Str)} (h : Flds r l) : Flds (.Assign [.Attribute (.Name "self" p1) f p2] (.Name x p3) p4 :: r) ((f, x) :: l)
def putF (m : Str → Option Value) (m0 : Str → Option Value) (l : List (Str × Str)) : Str → Option Value := l.foldl (fun acc p y => if y = p.1 then m p.2 else acc y) m0
section
variable {P : Program} {w : World} {A : Around} {E : Value → Shared → Prop} {s : Shared} {K : Frag} {C : Addr} {B newId i : String} {bmB : List Value}
theorem tail_run {env : Env} {e t0 dx : Addr} {m : Str → Option Value} (BF : BaseF B newId i bmB) (X : XcC K C B newId i bmB) (hk : env.scope.kind = .function) (hs : env.kindOf "self" = some .local) (ms : m "self" = some (.ref e)) (hL : env.locals ≠ dx) {Q : Flow → Shared → Prop} :
    ∀ {body : List Stmt} {flds : List (Str × Str)}, Flds body flds → (∀ p ∈ flds, PySem.W.findIn K (.ref C) p.1 = some none ∧ env.kindOf p.2 = some .local ∧ (p.2 == ("__debug__" : Str)) = false ∧ ∃ u, m p.2 = some u) →
      ∀ {s : Shared} {m0 : Str → Option Value} {nl : List Str}, K.In s.heap → s.heap.Ns env.locals m → s.heap.get? e = some (exc C t0 (some dx)) → s.heap.Ns1 dx m0 → Within m0 nl → nl.length + flds.length ≤ 1000 → K.lookup dx = none →
        (∀ h' tk, (∀ b o, b ≠ dx → s.heap.get? b = some o → h'.get? b = some o) → h'.Ns1 dx (putF m m0 flds) → Q .next ⟨h', s.gens, s.drawn, tk, s.os⟩) → wpAny (model P w) A (execs body env) Q E s := by
  intro body flds F
  induction F with
  | nil =>
    intro _ s m0 nl hK hn he hns hw hz hd h
    exact wpAny_execs_nil (h s.heap s.toks (fun _ _ _ z => z) hns)
  | @cons f x p1 p2 p3 p4 r l F ih =>
    intro hf s m0 nl hK hn he hns hw hz hd h
    obtain ⟨h1, h2, h3, u, h4⟩ := hf (f, x) List.mem_cons_self
    refine wpAny_execs_cons (plainObj_wpAny_Assign_Attribute (wpAny_Name (wpAny_loadName_local hk h2 hn h4 ?_) h3) (by rfl))
    refine wpAny_Name (wpAny_loadName_local hk hs hn ms ?_) (by decide)
    refine set_old BF X hK he hns hw (by omega) h1 fun h' tk k' n' => ?_
    have hed : e ≠ dx := fun z => by
      obtain ⟨o, es, ep, e1, e2, _⟩ := hns
      rw [← z, he] at e1
      cases e1
      cases e2
    refine ih (fun p hp => hf p (List.mem_cons_of_mem _ hp)) (s := ⟨h', s.gens, s.drawn, tk, s.os⟩) (m0 := fun y => if y = f then some u else m0 y) (nl := f :: nl) (fun b o z => k' b o (fun y => by rw [y, hd] at z; cases z) (hK b o z)) ?_ (k' _ _ hed he) n' (Within.cons f u hw) (by simp only [List.length_cons] at hz ⊢; omega) hd fun h2 tk2 k2 n2 => ?_
    · obtain ⟨o, es, ep, e1, e2⟩ := hn
      exact ⟨o, es, ep, k' _ _ hL e1, e2⟩
    · refine h h2 tk2 (fun b o hb z => k2 b o hb (k' b o hb z)) ?_
      have : putF m m0 ((f, x) :: l) = putF m (fun y => if y = f then some u else m0 y) l := by
        unfold putF
        rw [List.foldl_cons, h4]
      rw [this]
      exact n2
def plainOf (o : Expr) (env : Env) : Sem Bool := do return (← importBound o env).getD true
/-- the shape of such an __init__: nm, the parameters behind self, the fields and what they get -/
structure InitS (params : Arguments) (body : List Stmt) (scope : Scope) (nm : Str) (xs : List Str) (flds : List (Str × Str)) : Prop where
  kind : scope.kind = .function
  co : scope.isCoroutine = false
  gen : scope.isGenerator = false
  nocell : ∀ x ∈ scope.names, x.2 ≠ .cell
  loc : ∀ x ∈ ("self" : Str) :: xs, scope.names.lookup x = some .local
  sup : scope.names.lookup ("super" : Str) = some .globalImplicit
  cls : scope.names.lookup ("__class__" : Str) = some .free
  nd : (("self" : Str) :: xs).Nodup
  fp : ∀ p ∈ flds, p.2 ∈ xs ∧ (p.2 == ("__debug__" : Str)) = false
  few : flds.length ≤ 9
  par : ∃ ar, (params.posonlyargs ++ params.args).head? = some ar ∧ ar.arg = "self"
  bind : ∀ (qual : Str) (doc pm : Value) (an : Option Addr) (cd ct : Value) (cc e : Addr) (us : List Value), us.length = xs.length → bindArgs (PySem.W.ksFn "__init__" qual params body scope .none .none doc pm an cd ct cc) ⟨.ref e :: us, []⟩ = pure ((("self" : Str), Value.ref e) :: xs.zip us)
  body : ∃ (p0 p1 p2 p3 p4 p5 p6 p7 p8 p9 : Pos) (k j : Nat) (tail : List Stmt), body = .Expr (.Call (.Attribute (.Call (.Name "super" p0) [] [] p1) "__init__" p2) [.Constant (.str nm) k p3] [] p4) p5 :: .Assign [.Attribute (.Name "self" p6) "code" p7] (.Constant (.str nm) j p8) p9 :: tail ∧ Flds tail flds ∧
    (∀ env : Env, eval (.Call (.Attribute (.Call (.Name "super" p0) [] [] p1) "__init__" p2) [.Constant (.str nm) k p3] [] p4) env = (do
      let ov ← attributeBase (.Call (.Name "super" p0) [] [] p1) "__init__" env (eval (.Call (.Name "super" p0) [] [] p1) env)
      standAt p2.atName
      let (fx, first) ← holding [ov] (getMethod ov "__init__" (plainOf (.Call (.Name "super" p0) [] [] p1) env))
      callWith p4 fx first (backTo p4 (starEach [.Constant (.str nm) k p3] env)) [])) ∧
    (∀ env : Env, swapsWith (.Call (.Attribute (.Call (.Name "super" p0) [] [] p1) "__init__" p2) [.Constant (.str nm) k p3] [] p4) none p5.line env = pure false)
theorem zip_at : ∀ {ps : List Str} {us : List Value} {x : Str}, us.length = ps.length → x ∈ ps → ∃ u, (ps.zip us).reverse.lookup x = some u
  | p :: ps, u :: us, x, hl, hm => by
    rw [List.zip_cons_cons, List.reverse_cons, List.lookup_append]
    cases h : (ps.zip us).reverse.lookup x with
    | some v => exact ⟨v, rfl⟩
    | none =>
      rcases List.mem_cons.mp hm with rfl | hm
      · exact ⟨u, by simp⟩
      · obtain ⟨v, hv⟩ := zip_at (us := us) (by simpa using hl) hm
        rw [h] at hv
        cases hv
/-- what the names hold -/
def frameM (e : Addr) (xs : List Str) (us : List Value) : Str → Option Value := fun y => (((("self" : Str), Value.ref e) :: xs.zip us) : List (Str × Value)).reverse.lookup y
theorem look_no {l : List (Str × Value)} {x : Str} (h : ∀ v, (x, v) ∉ l) : l.lookup x = none := by
  cases e : l.lookup x with
  | none => rfl
  | some v => exact absurd (PySem.mem_of_lookup e) (h v)
theorem frame_self {e : Addr} {xs : List Str} {us : List Value} (nd : (("self" : Str) :: xs).Nodup) : frameM e xs us "self" = some (.ref e) := by
  unfold frameM
  rw [List.reverse_cons, List.lookup_append]
  have : (xs.zip us).reverse.lookup ("self" : Str) = none := look_no fun v hv => (List.nodup_cons.mp nd).1 (List.of_mem_zip (List.mem_reverse.mp hv)).1
  rw [this]
  simp
theorem frame_at {e : Addr} {xs : List Str} {us : List Value} {x : Str} (hl : us.length = xs.length) (hm : x ∈ xs) : ∃ u, frameM e xs us x = some u :=
  zip_at (ps := "self" :: xs) (us := .ref e :: us) (by simpa using hl) (List.mem_cons_of_mem _ hm)
theorem ns_keep {h h' : Heap} {L e : Addr} {m : Str → Option Value} (hn : h.Ns L m) (ne : L ≠ e) (k : ∀ b o, b ≠ e → h.get? b = some o → h'.get? b = some o) : h'.Ns L m := by
  obtain ⟨o, es, ep, e1, e2⟩ := hn
  exact ⟨o, es, ep, k _ _ ne e1, e2⟩
theorem ns_lt {h : Heap} {L : Addr} {m : Str → Option Value} (hn : h.Ns L m) : L < h.objs.size := by
  obtain ⟨o, es, ep, e1, e2⟩ := hn
  exact Heap.lt_size e1
theorem init_call {mg mb : Str → Option Value} {f e t0 : Addr} {qual nm : Str} {params : Arguments} {body : List Stmt} {scope : Scope} {file : Str} {xs : List Str} {flds : List (Str × Str)} {us : List Value} {R : Result → Shared → Prop}
    (BF : BaseF B newId i bmB) (X : XcC K C B newId i bmB) (FC : Hy.FunC K C "__init__" qual params body scope file f) (S : InitS params body scope nm xs flds) (hno : ∀ n ∈ ("code" : Str) :: flds.map (·.1), PySem.W.findIn K (.ref C) n = some none)
    (hK : K.In s.heap) (hlim : s.heap.NoLimit) (hg : s.heap.Ns mainGlobals mg) (hmg : mg "super" = none) (hb : s.heap.Ns builtinsNs mb) (hbb : ∀ x : Str, x ≠ "__name__" → mb x = bootBuiltins x) (hfile : P.main.file = file) (htop : (P.main.scope.names.lookup ("super" : Str)).isSome = false)
    (hroom : A.depth < recursionLimit) (he : s.heap.get? e = some (exc C t0 none)) (hke : K.lookup e = none) (hge : e ≠ mainGlobals) (hbe : e ≠ builtinsNs) (hus : us.length = xs.length)
    (h : ∀ h' t1 dx tk c, (∀ b o, b ≠ e → s.heap.get? b = some o → h'.get? b = some o) → s.heap.objs.size ≤ dx → dx ≠ e → h'.get? e = some (exc C t1 (some dx)) → h'.Ns1 dx (putF (frameM e xs us) (fun y => if y = ("code" : Str) then some (.str nm c) else none) flds) → R (.ok (.ret .none)) ⟨h', s.gens, s.drawn, tk, s.os⟩) :
    codeAny (model P w) A (.call (.ref f) ⟨.ref e :: us, []⟩) R s := by
  obtain ⟨oc, od, doc, pm, an, cda, ct, cc, osl, lk, hcd, hfb, hcb⟩ := FC.ex
  obtain ⟨a1, b1, vs, c1, tf, lc, hv⟩ := Hy.fileB_at hfb
  obtain ⟨a2, b2, c2, lcc⟩ := Hy.cellB_at hcb
  obtain ⟨ar, har, hself⟩ := S.par
  obtain ⟨p0, p1, p2, p3, p4, p5, p6, p7, p8, p9, k, j, tail, hbody, hF, hmc, hsw⟩ := S.body
  subst hfile
  refine PySem.ks_codeAny_call_defAt (fd := PySem.W.ksFn "__init__" qual params body scope .none .none doc pm an (.ref cda) ct cc) (body := body) (binds := (("self" : Str), Value.ref e) :: xs.zip us) hroom (hK _ _ lk) rfl hlim (PySem.W.codeRec_of hK hcd) rfl (BindsTo.of_eq (S.bind _ _ _ _ _ _ _ _ _ hus)) S.nocell (fun y hy => ?_) (fun h₀ hns hk₀ => ?_) S.co S.gen S.kind
  · rcases List.mem_cons.mp hy with rfl | hy
    · exact S.loc _ List.mem_cons_self
    · exact S.loc _ (List.mem_cons_of_mem _ (List.of_mem_zip hy).1)
  · subst hbody
    have ltE := Heap.lt_size he
    have neL : s.heap.objs.size ≠ e := Nat.ne_of_gt ltE
    have hK0 : K.In h₀ := fun b o z => hk₀ b o (hK b o z)
    have hks : (PySem.W.ksEnv qual scope s.heap.objs.size f (.ref cda) cc).kindOf "self" = some .local := S.loc _ List.mem_cons_self
    show PySem.wpAt _ _ (.func _ (PySem.W.ksEnv qual scope s.heap.objs.size f (.ref cda) cc)) (execs _ (PySem.W.ksEnv qual scope s.heap.objs.size f (.ref cda) cc)) _ _ _
    refine PySem.ks_wpAt_execs_cons ?_
    have kg : ∀ {b : Addr} {m : Str → Option Value}, s.heap.Ns b m → h₀.Ns b m := fun ⟨o, es, ep, e1, e2⟩ => ⟨o, es, ep, hk₀ _ _ e1, e2⟩
    refine super_stmt (s := ⟨h₀, s.gens, s.drawn, _, s.os⟩) BF X hK0 (kg hg) hmg (kg hb) hbb hns (by rw [hself]; exact frame_self S.nd) (hk₀ _ _ he) lk lc hv (by simp) lcc htop har S.sup S.cls (by rw [hself]; exact S.loc _ List.mem_cons_self) S.kind (hmc _) (hsw _) fun h1 t1 tk k1 e1 => ?_
    refine wpAt_of_wpAny ?_
    have hK1 : K.In h1 := fun b o z => k1 b o (fun y => by rw [y, hke] at z; cases z) (hK0 b o z)
    have hn1 := ns_keep hns neL k1
    have ltL := ns_lt hn1
    refine wpAny_execs_cons (plainObj_wpAny_Assign_Attribute (PySem.Calls.Constant_str ?_) (by rfl))
    refine wpAny_Name (wpAny_loadName_local S.kind hks hn1 (frame_self S.nd) ?_) (by decide)
    refine set_new BF X hK1 e1 (hno _ List.mem_cons_self) fun h2 dx tk2 k2 g2 ne2 e2 n2 => ?_
    have g2' : h1.objs.size ≤ dx := g2
    have hd : K.lookup dx = none := by
      cases z : K.lookup dx with
      | none => rfl
      | some o => exact absurd (Heap.lt_size (hK1 _ _ z)) (Nat.not_lt.mpr g2')
    have neLd : s.heap.objs.size ≠ dx := Nat.ne_of_lt (Nat.lt_of_lt_of_le ltL g2')
    refine tail_run (env := PySem.W.ksEnv qual scope s.heap.objs.size f (.ref cda) cc) BF X S.kind hks (frame_self S.nd) neLd hF (fun p hp => ⟨hno _ (List.mem_cons_of_mem _ (List.mem_map_of_mem hp)), S.loc _ (List.mem_cons_of_mem _ (S.fp p hp).1), (S.fp p hp).2, frame_at hus (S.fp p hp).1⟩)
      (s := ⟨h2, s.gens, s.drawn, tk2, s.os⟩) (fun b o z => k2 b o (fun y => by rw [y, hke] at z; cases z) (hK1 b o z)) (ns_keep hn1 neL k2) e2 n2 (Within.cons "code" _ Within.nil) (by have := S.few; simp only [List.length_cons, List.length_nil]; omega) hd fun h3 tk3 k3 n3 => ?_
    have lt1 : ∀ b o, s.heap.get? b = some o → b ≠ dx := fun b o z => Nat.ne_of_lt (Nat.lt_of_lt_of_le (Nat.lt_trans (Heap.lt_size z) ltL) g2')
    exact h h3 t1 dx tk3 _ (fun b o hb z => k3 b o (lt1 b o z) (k2 b o hb (k1 b o hb (hk₀ b o z)))) (Nat.le_of_lt (Nat.lt_of_lt_of_le ltL g2')) ne2 (k3 _ _ (fun z => ne2 z.symm) e2) n3
end
end Xm

end PART_NB23
section PART_NB24
set_option Elab.async false
set_option linter.all false
set_option maxRecDepth 100000
set_option maxHeartbeats 4000000
set_option pp.maxSteps 400
/-! NB24: raise C(v, ..) -/
namespace Xm
open PySem PySem.Spec PyProof.Rows L2
open PySem.W (Frag Looks KxsFacts InstAt)
def valOf (xs : List Str) (vs : List V) (x : Str) : V := ((xs.zip vs).reverse.lookup x).getD .non
/-- the dict of such an exception -/
def fsOf (nm : Str) (flds : List (Str × Str)) (val : Str → V) : List (Str × V) := flds.foldl (fun acc p => (p.1, val p.2) :: acc) [("code", .str nm)]
theorem rel_zip : ∀ {xs : List Str} {vs : List V} {us : List Value}, Vals vs us → vs.length = xs.length → ∀ x ∈ xs, ∃ u, (xs.zip us).reverse.lookup x = some u ∧ RelV (valOf xs vs x) u
  | p :: xs, v :: vs, u :: us, .cons r rs, hl, x, hm => by
    unfold valOf
    rw [List.zip_cons_cons, List.zip_cons_cons, List.reverse_cons, List.reverse_cons, List.lookup_append, List.lookup_append]
    by_cases h : x ∈ xs
    · obtain ⟨u', h1, h2⟩ := rel_zip rs (by simpa using hl) x h
      obtain ⟨v', h3⟩ : ∃ v', (xs.zip vs).reverse.lookup x = some v' := by
        cases q : (xs.zip vs).reverse.lookup x with
        | some v' => exact ⟨v', rfl⟩
        | none =>
          exfalso
          have key : ∀ {xs : List Str} {vs : List V}, vs.length = xs.length → x ∈ xs → (xs.zip vs).reverse.lookup x ≠ none := by
            intro xs
            induction xs with
            | nil => intro vs _ h; cases h
            | cons p xs ih =>
              intro vs hl h
              match vs, hl with
              | v :: vs, hl =>
                rw [List.zip_cons_cons, List.reverse_cons, List.lookup_append]
                by_cases h' : x ∈ xs
                · cases q : (xs.zip vs).reverse.lookup x with
                  | none => exact absurd q (ih (by simpa using hl) h')
                  | some _ => simp
                · rcases List.mem_cons.mp h with rfl | h
                  · cases (xs.zip vs).reverse.lookup x <;> simp
                  · exact absurd h h'
          exact key (by simpa using hl) h q
      unfold valOf at h2
      rw [h3] at h2 ⊢
      rw [h1]
      exact ⟨u', rfl, h2⟩
    · rcases List.mem_cons.mp hm with rfl | hm
      · have n1 : (xs.zip us).reverse.lookup x = none := look_no fun w hw => h (List.of_mem_zip (List.mem_reverse.mp hw)).1
        have n2 : (xs.zip vs).reverse.lookup x = none := by
          cases e : (xs.zip vs).reverse.lookup x with
          | none => rfl
          | some w => exact absurd (List.of_mem_zip (List.mem_reverse.mp (PySem.mem_of_lookup e))).1 h
        rw [n1, n2]
        exact ⟨u, by simp, by simpa using r⟩
      · exact absurd hm h
theorem frame_par {e : Addr} {xs : List Str} {us : List Value} {x : Str} {u : Value} (h : (xs.zip us).reverse.lookup x = some u) : frameM e xs us x = some u := by
  unfold frameM
  rw [List.reverse_cons, List.lookup_append, h]
  rfl
theorem rel_put {m : Str → Option Value} {val : Str → V} : ∀ {flds : List (Str × Str)} {fs : List (Str × V)} {m0 : Str → Option Value}, (∀ p ∈ flds, ∃ u, m p.2 = some u ∧ RelV (val p.2) u) → (∀ f, RelO (fs.lookup f) (m0 f)) →
    ∀ f, RelO ((flds.foldl (fun acc p => (p.1, val p.2) :: acc) fs).lookup f) (putF m m0 flds f)
  | [], _, _, _, h => h
  | p :: l, fs, m0, hp, h => by
    obtain ⟨u, h1, h2⟩ := hp p List.mem_cons_self
    have e : putF m m0 (p :: l) = putF m (fun y => if y = p.1 then some u else m0 y) l := by
      unfold putF
      rw [List.foldl_cons, h1]
    rw [e, List.foldl_cons]
    exact rel_put (fun q hq => hp q (List.mem_cons_of_mem _ hq)) (relO_put h2 h)
def tMkX (C : Addr) (nm : Str) (xs : List Str) (flds : List (Str × Str)) (ta : TA) : L2.St → Hp → XK → Prop := fun σ H Q => ta σ H fun vs H1 => vs.length = xs.length ∧ vs.length ≤ 1000 ∧ ∀ d, H1 d = none → Q (.ref C) (some d) (upd H1 d (.xd (fsOf nm flds (valOf xs vs))))
/-- the program's file -/
structure FileOk (P : Program) (file : Str) : Prop where
  file : P.main.file = file
  top : (P.main.scope.names.lookup ("super" : Str)).isSome = false
section
variable {X : Cx} {e : Expr} {es : List Expr} {x : Str} {p pos : Pos} {ta : TA} {C fI : Addr} {B newId i : String} {bmB : List Value} {file qual nm : Str} {params : Arguments} {body : List Stmt} {scope : Scope} {xs : List Str} {flds : List (Str × Str)}
/-- the call of the class, its arguments at hand -/
theorem make_xc {pins : List (Addr × Obj)} {σ : L2.St} {H1 : Hp} {s1 : Shared} {Q : XK} {us : List Value} {vs : List V} (BF : BaseF B newId i bmB) (T : XcC X.K C B newId i bmB) (FC : Hy.FunC X.K C "__init__" qual params body scope file fI) (S : InitS params body scope nm xs flds) (hno : ∀ n ∈ ("code" : Str) :: flds.map (·.1), PySem.W.findIn X.K (.ref C) n = some none)
    (iC : PySem.W.findIn X.K (.ref C) "__init__" = some (some (.ref fI))) (tI : PySem.W.typeIn X.K (.ref fI) = some (.type "function")) (hsup : X.mg "super" = none) (hF : FileOk X.prog file) (hr : Room 1 X.A) (I1 : Inv X pins σ H1 s1) (r1 : Vals vs us) (hl : vs.length = xs.length) (hz : vs.length ≤ 1000)
    (q : ∀ d, H1 d = none → Q (.ref C) (some d) (upd H1 d (.xd (fsOf nm flds (valOf xs vs))))) : wpAny (model X.prog X.w) X.A (call (.ref C) us) (MkP X pins σ Q) X.xe s1 := by
  have hus : us.length = xs.length := by rw [← Paired.length r1]; exact hl
  obtain ⟨hp, g, dr, tk, os⟩ := s1
  obtain ⟨nm', N', qn, bs, bm, hdct, sn, sub, ab, col, dd, k0, k1, k2, k3, k5, hC, hT⟩ := PySem.W.excInit_of I1.kIn T.ini
  have kk : ∀ b o, hp.get? b = some o → ((hp.push (PySem.W.kdv_tup us)).push (PySem.HandSPX.excO C hp.objs.size)).get? b = some o := fun b o e => Heap.get?_push_of_some _ (Heap.get?_push_of_some _ e)
  have hget : ((hp.push (PySem.W.kdv_tup us)).push (PySem.HandSPX.excO C hp.objs.size)).get? (hp.objs.size + 1) = some (PySem.HandSPX.excO C hp.objs.size) := by heap_get
  have I2 : Inv X pins σ H1 { heap := (hp.push (PySem.W.kdv_tup us)).push (PySem.HandSPX.excO C hp.objs.size), gens := g, drawn := dr, toks := tk, os := os } := I1.kept kk
  have hsz : us.length ≤ sizeLine := by rw [hus, ← hl, sizeLine_eq]; omega
  have fresh : ∀ {b : Addr} {o : Obj}, hp.get? b = some o → b ≠ hp.objs.size + 1 := fun z => Nat.ne_of_lt (Nat.lt_succ_of_lt (Heap.lt_size z))
  obtain ⟨mb, hb, hbb⟩ := I2.mod.blt
  refine wpAny_call (PySem.HandSPX.call_own BF.fb hT hC (PySem.W.looks_findIn I1.kIn iC) (fun self => PySem.W.bind_fn I1.kIn self tI) hsz
    (init_call (s := ⟨(hp.push (PySem.W.kdv_tup us)).push (PySem.HandSPX.excO C hp.objs.size), g, dr, tk, os⟩) (mb := mb) BF T FC S hno I2.kIn I2.nolimit (I2.mod.glob.keeps I2.bk) hsup (hb.keeps I2.bk) hbb hF.file hF.top (hr.make C us []).depth hget ?_ ?_ ?_ hus fun h' t1 dx tk' c k' g' ne' e' n' => ?_))
  · cases z : X.K.lookup (hp.objs.size + 1) with
    | none => rfl
    | some o => exact absurd rfl (fresh (I1.kIn _ _ z))
  · obtain ⟨o, es, ep, e1, _⟩ := I1.mod.glob.keeps I1.bk
    exact fun z => fresh e1 z.symm
  · obtain ⟨o, es, ep, e1, _⟩ := hb.keeps I1.bk
    exact fun z => fresh e1 z.symm
  · refine ⟨rfl, ?_⟩
    have sz : hp.objs.size ≤ dx := by
      have : ((hp.push (PySem.W.kdv_tup us)).push (PySem.HandSPX.excO C hp.objs.size)).objs.size ≤ dx := g'
      rw [Heap.size_push, Heap.size_push] at this
      omega
    obtain ⟨G, g1, g2⟩ := restrict h' fun b => decide (b ≠ hp.objs.size + 1)
    have gk : ∀ b, b ≠ hp.objs.size + 1 → G.get? b = h'.get? b := fun b hb => g1 b (decide_eq_true hb)
    have ge : G.get? (hp.objs.size + 1) = none := g2 _ (by simp)
    have kG : ∀ b o, hp.get? b = some o → G.get? b = some o := fun b o z => (gk b (fresh z)).trans (k' b o (fresh z) (kk b o z))
    have hns : G.Ns1 dx _ := n'.at fun o z => (gk dx ne').trans z
    have rel : ∀ f, RelO ((fsOf nm flds (valOf xs vs)).lookup f) (putF (frameM (hp.objs.size + 1) xs us) (fun y => if y = ("code" : Str) then some (.str nm c) else none) flds f) :=
      rel_put (fun p hp => by
        obtain ⟨u, h1, h2⟩ := rel_zip r1 hl p.2 (S.fp p hp).1
        exact ⟨u, frame_par h1, h2⟩) (relO_put (fs := []) ⟨c, rfl⟩ fun _ => True.intro)
    have J : Inv X pins σ (upd H1 dx (.xd (fsOf nm flds (valOf xs vs)))) { heap := G, gens := g, drawn := dr, toks := tk', os := os } := I1.laid (t' := tk') kG sz ⟨_, hns, rel⟩
    have he0 : H1 (hp.objs.size + 1) = none := I1.hok.fresh (Nat.le_succ _)
    have hd0 : H1 dx = none := I1.hok.fresh sz
    refine ⟨hp.objs.size + 1, _, _, _, _, .ref C, some dx, rfl, J, fun b o z => ?_, ge, e', ⟨rfl, rfl⟩, rfl, rfl, ?_, rfl, I1.bare, raises_own T.xf.exC T.tyC, q dx hd0⟩
    · by_cases hb : b = hp.objs.size + 1
      · rw [hb, ge] at z
        cases z
      · exact (gk b hb).symm.trans z
    · rw [upd_ne (fun z => ne' z.symm)]
      exact he0
/-- C(e, ..) -/
theorem pmk_xc (BF : BaseF B newId i bmB) (T : XcC X.K C B newId i bmB) (FC : Hy.FunC X.K C "__init__" qual params body scope file fI) (S : InitS params body scope nm xs flds) (hno : ∀ n ∈ ("code" : Str) :: flds.map (·.1), PySem.W.findIn X.K (.ref C) n = some none)
    (iC : PySem.W.findIn X.K (.ref C) "__init__" = some (some (.ref fI))) (tI : PySem.W.typeIn X.K (.ref fI) = some (.type "function")) (hsup : X.mg "super" = none) (hF : FileOk X.prog file) (hr : Room 1 X.A) (hg : Gl X x) (hm : X.mg x = some (.ref C)) (ha : PA X (e :: es) ta)
    (hdb : (x == ("__debug__" : Str)) = false := by decide) (he : starEach (e :: es) X.env = (false, eval e X.env) :: starEach es X.env := by rfl) (hpl : (backTo pos (starEach es X.env)).any (·.1) = false := by rfl) :
    PMk X (.Call (.Name x p) (e :: es) [] pos) (tMkX C nm xs flds ta) := by
  intro pins s σ H Q I h
  refine wpAny_Call_Name_kw (ld_glob I hg hm ?_ hdb)
  refine PySem.W.callWith_K (h₀ := X.base) I.ok.mod.kin T.kC (thn (ha.run pos pins s σ H _ I h) fun us s1 ⟨vs, H1, I1, r1, hl, hz, q1⟩ => ⟨I1.kIn, ?_⟩) he hpl
  exact make_xc BF T FC S hno iC tI hsup hF hr I1 r1 hl hz q1
/-- C() -/
theorem pmk_xc0 (BF : BaseF B newId i bmB) (T : XcC X.K C B newId i bmB) (FC : Hy.FunC X.K C "__init__" qual params body scope file fI) (S : InitS params body scope nm [] []) (hno : PySem.W.findIn X.K (.ref C) "code" = some none)
    (iC : PySem.W.findIn X.K (.ref C) "__init__" = some (some (.ref fI))) (tI : PySem.W.typeIn X.K (.ref fI) = some (.type "function")) (hsup : X.mg "super" = none) (hF : FileOk X.prog file) (hr : Room 1 X.A) (hg : Gl X x) (hm : X.mg x = some (.ref C))
    (hdb : (x == ("__debug__" : Str)) = false := by decide) :
    PMk X (.Call (.Name x p) [] [] pos) (tMkX C nm [] [] tNil) := by
  intro pins s σ H Q I h
  refine wpAny_Call_Name_kw (ld_glob I hg hm ?_ hdb)
  obtain ⟨hl, hz, q1⟩ := h
  refine PySem.W.callWith_K0 I.kIn T.kC ?_
  exact make_xc BF T FC S (fun n hn => by
    rcases List.mem_cons.mp hn with rfl | hn
    · exact hno
    · cases hn) iC tI hsup hF hr I .nil hl hz q1
end
end Xm

end PART_NB24
section PART_NB25
set_option Elab.async false
set_option linter.all false
set_option maxRecDepth 100000
set_option maxHeartbeats 4000000
set_option pp.maxSteps 400
/-! NB25: defs that raise, over data -/
namespace NB
open PySem PySem.Spec PyProof.Rows L2
theorem same_of {O : List Addr} {H H' : Hp} (l : Le O H H') (t : ∀ a ∈ O, H' a = H a) : Same H H' := fun a o e => by
  by_cases m : a ∈ O
  · rw [t a m]; exact e
  · exact l a o m e
/-- a def that raises, entered at H: O, what its caller owns; R, what may be raised; E, the wish of it -/
structure SX (K : PySem.W.Frag) (E : XK) where
  O : List Addr
  H : Hp
  R : Addr → List (Str × D) → Prop
  live : ∀ a ∈ O, H a ≠ none
  tk : ∀ (C : Addr) (fs : List (Str × D)) (d : Addr) (ws : List (Str × V)) (H' : Hp), Same H H' → H' d = some (.xd ws) → FsIs K (hid O H') ws fs → R C fs → E (.ref C) (some d) H'
def S0X {K : PySem.W.Frag} {E : XK} (x : SX K E) : Sys where
  K := K
  M := x.O
  T := fun H' => ∀ a ∈ x.O, H' a = x.H a
  dep := fun H1 H2 h _ t a ha => (h a ha).trans (t a ha)
  live := fun H' t a ha => by rw [t a ha]; exact x.live a ha
  E := E
  R := x.R
  XH := x.H
  take := fun C fs d ws H' l t e f r => x.tk C fs d ws H' (same_of l t) e f r
theorem xok_start {K : PySem.W.Frag} {E : XK} (x : SX K E) : XOk (S0X x) x.O x.H := ⟨fun _ _ _ e => e, fun l hl n => absurd hl n⟩
structure FnX where
  f : List D → (D → Prop) → (Addr → List (Str × D) → Prop) → Prop
  mono : ∀ ds Q Q' R R', (∀ d, Q d → Q' d) → (∀ C fs, R C fs → R' C fs) → f ds Q R → f ds Q' R'
def spX (K : PySem.W.Frag) (F : FnX) : Sp := fun vs H Q E => ∃ O ds, (∀ a ∈ O, H a ≠ none) ∧ Iss K (hid O H) vs ds ∧
  F.f ds (fun d => ∀ v H', Same H H' → Is K (hid O H') v d → Q v H') (fun C fs => ∀ d ws H', Same H H' → H' d = some (.xd ws) → FsIs K (hid O H') ws fs → E (.ref C) (some d) H')
theorem body_ofX {K : PySem.W.Frag} {F : FnX} {t : TS} {N : List Str} {vs : List V} {H : Hp} {Q : VK} {E : XK} (h : spX K F vs H Q E)
    (hr : ∀ (x : SX K E) ds R, F.f ds R x.R → Run (S0X x) t (startD N ds) ⟨fun _ => R .non, R, fun _ => False, fun _ => False⟩) : t { nx := fun _ H' => Q .non H', rt := Q } (start N vs) H := by
  obtain ⟨O, ds, live, i, f⟩ := h
  let x : SX K E := ⟨O, H, fun C fs => ∀ d ws H', Same H H' → H' d = some (.xd ws) → FsIs K (hid O H') ws fs → E (.ref C) (some d) H', live, fun C fs d ws H' s e k r => r d ws H' s e k⟩
  exact hr x ds _ f ⟨H, O⟩ O _ H (sok_start (S := S0X x) (fun _ _ => rfl) (fun _ h => h) live i (xok_start x)) _ (fun ρ' O' σ' H' I' _ q => q .non H' (same_of I'.le I'.env.t) .non) (fun d v H' l t i _ q => q v H' (same_of l t) i) (fun _ _ _ _ _ _ q => q.elim) (fun _ _ _ _ _ _ q => q.elim)
/-- a def of the module keeps its promise, what it raises told -/
def HasX (P : Program) (w : World) (K : PySem.W.Frag) (mg : Str → Option Value) (base : Heap) (x : Str) (k : Nat) (ps : List Str) (sp : Sp) : Prop :=
  ∃ fd, FnOk P w K mg base (L2.CX P w) k (He.ga K x) fd ps sp ∧ Binds K fd ps [] ∧ mg x = some (.ref (He.ga K x)) ∧ PySem.W.keepIn K (.ref (He.ga K x)) = true ∧ ∃ oc od osl, K.lookup (He.ga K x) = some ⟨oc, od, .func fd, osl⟩
theorem has_ofX {P : Program} {w : World} {K : PySem.W.Frag} {mg : Str → Option Value} {base : Heap} {x : Str} {params : Arguments} {body : List Stmt} {scope : Scope} {N ps : List Str} {k : Nat} {Fx : FnX}
    (F : ∃ fd, FunD K x x params body scope [] [] (He.ga K x) fd) (g : mg x = some (.ref (He.ga K x))) (S : FnScope N ps scope)
    (hb : ∀ (kV doc pm : Value) (an : Option Addr) (cdv ct : Value) (us : List Value), us.length = ps.length → bindArgs (PySem.W.fnOf x x params body scope .none kV doc pm an cdv ct) ⟨us, []⟩ = pure (ps.zip us))
    (len : ∀ ds R Rx, Fx.f ds R Rx → ds.length = ps.length)
    (hbody : ∀ (f : Addr) (cdv : Value) (A : Around) (outer : List PySem.Env) (s : Shared) (H : Hp) (E : XK), Room k (A.deeper (envOfC x scope s.heap.objs.size f cdv)) →
      ∃ t, PSs (cxOf (L2.CX P w) P w K mg base N x scope f cdv A outer s H E) body t ∧ ∀ (y : SX K E) ds R, Fx.f ds R y.R → Run (S0X y) t (startD N ds) ⟨fun _ => R .non, R, fun _ => False, fun _ => False⟩) : HasX P w K mg base x (k + 1) ps (spX K Fx) := by
  obtain ⟨fd, F⟩ := F
  refine ⟨fd, F.ok S (fun vs H Q E ⟨O, ds, _, i, f⟩ => i.length.trans (len ds _ _ f)) fun cdv A outer s H vs Q E hr h => ?_, F.bindsN hb, g, F.kp, F.lk⟩
  obtain ⟨t, h1, h2⟩ := hbody _ cdv A outer s H E hr
  exact ⟨t, h1, body_ofX h h2⟩
section
variable {X : Cx} {x : Str} {k : Nat} {ps : List Str} {sp : Sp} {E : XK} {e : Expr} {es : List Expr} {p pos : Pos} {t : TA}
theorem pe_hasX (h : HasX X.prog X.w X.K X.mg X.base x k ps sp) {j : Nat} (hr : Room j X.A) (hx : Passes (L2.CX X.prog X.w) X E) (ha : PA X (e :: es) t) (hj : k ≤ j := by first | decide | exact Nat.le_refl _ | omega) (hg : Gl X x := by rfl) (hdb : (x == ("__debug__" : Str)) = false := by decide) (he : starEach (e :: es) X.env = (false, eval e X.env) :: starEach es X.env := by rfl)
    (hpl : (backTo pos (starEach es X.env)).any (·.1) = false := by rfl) : PE X (.Call (.Name x p) (e :: es) [] pos) (tCall sp [] E t) := by
  obtain ⟨fd, F, b, g, kp, _⟩ := h
  exact pe_call F (hr.mono hj) hg g kp b .nil hx ha hdb he hpl
end
section
variable {S : Sys} {ρ : DEnv} {P : Post} {t : TA}
theorem EnvOk.xle {O : List Addr} {σ : L2.St} {H : Hp} (I : EnvOk S O ρ σ H) : Le S.M S.XH H := I.xk.1
theorem FsIs.sub {K : PySem.W.Frag} {O O' : List Addr} {H : Hp} {ws : List (Str × V)} {fs : List (Str × D)} (h : FsIs K (hid O H) ws fs) (s : ∀ a ∈ O', a ∈ O) : FsIs K (hid O' H) ws fs := ⟨h.1, h.2.ex (hid_sub s)⟩
/-- a call of a def that may raise -/
theorem ev_callX {F : FnX} {Q : D → Prop} (h : EvA S t ρ fun ds => F.f ds Q S.R) : Ev S (tCall (spX S.K F) [] S.E t) ρ Q := fun O σ H I Qv k => by
  refine h O σ H I _ fun ds vs H1 l1 t1 i1 q => ?_
  rw [List.append_nil]
  have I1 := I.le l1 t1
  refine ⟨O, ds, I1.live, i1, F.mono _ _ _ _ _ (fun d c v H' l i => ?_) (fun C fs r d ws H' l e f => ?_) q⟩
  · exact k d v H' (l1.trans (Le.same l)) (S.same _ _ l t1) i c
  · exact S.take C fs d ws H' (I1.xle.trans (Le.same l)) (S.same _ _ l t1) e (f.sub I.sub) r
def valD' (xs : List Str) (ds : List D) (x : Str) : D := ((xs.zip ds).reverse.lookup x).getD .non
def fsD (nm : Str) (flds : List (Str × Str)) (val : Str → D) : List (Str × D) := flds.foldl (fun acc p => (p.1, val p.2) :: acc) [("code", .str nm)]
theorem lookup_is {K : PySem.W.Frag} {H : Hp} {x : Str} : ∀ {xs : List Str} {vs : List V} {ds : List D}, Iss K H vs ds → Is K H (Xm.valOf xs vs x) (valD' xs ds x)
  | [], vs, ds, _ => .non
  | p :: xs, _, _, .nil => .non
  | p :: xs, v :: vs, d :: ds, .cons h t => by
    have ih := lookup_is (x := x) (xs := xs) t
    unfold Xm.valOf valD' at ih ⊢
    rw [List.zip_cons_cons, List.zip_cons_cons, List.reverse_cons, List.reverse_cons, List.lookup_append, List.lookup_append]
    have same : ((xs.zip vs).reverse.lookup x).isSome = ((xs.zip ds).reverse.lookup x).isSome := by
      have key : ∀ {α : Type} {xs : List Str} {vs : List α}, vs.length = vs.length → (((xs.zip vs).reverse.lookup x).isSome = true ↔ x ∈ xs.take vs.length) := by
        intro α xs
        induction xs with
        | nil => intro vs _; simp
        | cons q xs ih =>
          intro vs _
          cases vs with
          | nil => simp
          | cons a vs =>
            rw [List.zip_cons_cons, List.reverse_cons, List.lookup_append, List.length_cons, List.take_succ_cons, List.mem_cons, ← ih (vs := vs) rfl]
            cases (xs.zip vs).reverse.lookup x with
            | some _ => simp
            | none =>
              by_cases e : x = q
              · subst e
                simp
              · have e2 : (x == q) = false := beq_eq_false_iff_ne.mpr e
                simp [List.lookup, e, e2]
      have hl := t.length
      have k1 := key (α := V) (xs := xs) (vs := vs) rfl
      have k2 := key (α := D) (xs := xs) (vs := ds) rfl
      rw [Bool.eq_iff_iff, k1, k2, hl]
    cases h1 : (xs.zip vs).reverse.lookup x with
    | some a =>
      rw [h1] at same ih
      cases h2 : (xs.zip ds).reverse.lookup x with
      | some b =>
        rw [h2] at ih
        exact ih
      | none => rw [h2] at same; cases same
    | none =>
      rw [h1] at same
      cases h2 : (xs.zip ds).reverse.lookup x with
      | some b => rw [h2] at same; cases same
      | none =>
        by_cases e : x = p
        · subst e
          simpa using h
        · simp only [Option.none_or, List.lookup, beq_eq_false_iff_ne.mpr e]
          exact .non
theorem fs_is {K : PySem.W.Frag} {H : Hp} {xs : List Str} {vs : List V} {ds : List D} (i : Iss K H vs ds) : ∀ {flds : List (Str × Str)} {ws : List (Str × V)} {fs : List (Str × D)}, FsIs K H ws fs →
    FsIs K H (flds.foldl (fun acc p => (p.1, Xm.valOf xs vs p.2) :: acc) ws) (flds.foldl (fun acc p => (p.1, valD' xs ds p.2) :: acc) fs)
  | [], _, _, h => h
  | p :: l, ws, fs, h => fs_is i (flds := l) ⟨by rw [List.map_cons, List.map_cons, h.1], .cons (lookup_is i) h.2⟩
def tRaiseX (E : XK) (tm : L2.St → Hp → XK → Prop) : TS := fun _ σ H => tm σ H fun cls d H' => E cls d H'
theorem run_raise {C : Addr} {nm : Str} {xs : List Str} {flds : List (Str × Str)} (h : EvA S t ρ fun ds => ds.length = xs.length ∧ ds.length ≤ 1000 ∧ S.R C (fsD nm flds (valD' xs ds))) : Run S (tRaiseX S.E (Xm.tMkX C nm xs flds t)) ρ P := fun B O σ H I Dv _ _ _ _ => by
  refine h O σ H I.env _ fun ds vs H1 l1 t1 i1 ⟨hl, hz, r⟩ => ?_
  refine ⟨i1.length.trans hl, by rw [i1.length]; exact hz, fun d hd => ?_⟩
  have I1 := I.env.le l1 t1
  have s := Same.upd (o := .xd (Xm.fsOf nm flds (Xm.valOf xs vs))) hd
  refine S.take C _ d _ _ (I1.xle.trans (Le.same s)) (S.same _ _ s t1) upd_same ?_ r
  have i2 : Iss S.K (hid S.M (upd H1 d (.xd (Xm.fsOf nm flds (Xm.valOf xs vs))))) vs ds := i1.ex fun a o e => by
    obtain ⟨n, e⟩ := hid_some e
    rw [hid_out fun m => n (I.env.sub a m)]
    exact s a o e
  exact fs_is i2 ⟨rfl, .cons (.str _) .nil⟩
end
end NB

end PART_NB25
section PART_NB26
set_option Elab.async false
set_option linter.all false
set_option maxRecDepth 100000
set_option maxHeartbeats 4000000
set_option pp.maxSteps 400
/-! NB26: try .. except (A, B, C) as n, where whatever is raised is one of them -/
namespace Xm
open PySem PySem.Spec PyProof.Rows L2
open PySem.W (Frag Looks)
theorem fly_keeps {B h h' : Heap} {l : List PySem.Env} {a : Addr} {Z : Obj → Prop} (x : HandSPX.FlyingZ B l a Z h) (k : ∀ b o, h.get? b = some o → h'.get? b = some o) : HandSPX.FlyingZ B l a Z h' := by
  obtain ⟨f1, f2, f3, oe, vs, T, oT, ts, he, hz, hd, h1, hn, hne, hT, hdT, h3⟩ := x
  exact ⟨fun b o e => k b o (f1 b o e), f2, Heap.FunFrames.of_keeps (fun b o e _ => ⟨o, k b o e, rfl⟩) f3, oe, vs, T, oT, ts, k _ _ he, hz, hd, h1, hn, hne, k _ _ hT, hdT, h3⟩
/-- what such a clause wishes of an exception of the body: slot i is n's -/
def wTup (K : Frag) (cs : List Value) (i : Nat) (ts : Addr → Value → Option Addr → TS) (D : Ends) : WX := fun cls d σ H =>
  PySem.W.exmAny K cls cs = some true ∧ ∀ a, H a = none → i < σ.length → ts a cls d { nx := fun σ' H' => D.nx (σ'.set i none) H', rt := D.rt, bk := fun σ' H' => D.bk (σ'.set i none) H', ct := fun σ' H' => D.ct (σ'.set i none) H' } (σ.set i (some (.ref a))) H
section
variable {X : Cx} {n x1 x2 x3 : Str} {C1 C2 C3 : Addr} {i k : Nat} {body suite : List Stmt} {b₀ : Stmt} {q1 q2 q3 tp pos pos' : Pos} {tb : WX → TS} {ts : Addr → Value → Option Addr → TS}
theorem ps_try_tup (hs : X.stack = X.env :: X.outer) (hf : X.env.frame = some X.env.locals) (hN : X.N.Nodup) (hi : X.N[i]? = some n) (hln : X.env.kindOf n = some .local)
    (g1 : Gl X x1) (m1 : X.mg x1 = some (.ref C1)) (g2 : Gl X x2) (m2 : X.mg x2 = some (.ref C2)) (g3 : Gl X x3) (m3 : X.mg x3 = some (.ref C3))
    (d1 : (x1 == ("__debug__" : Str)) = false) (d2 : (x2 == ("__debug__" : Str)) = false) (d3 : (x3 == ("__debug__" : Str)) = false)
    (hb : ∀ (W : WX) (pn : List (Addr × Obj)) (xe : Value → Shared → Prop), Takes (X.tr pn xe) W → PassesOwn (model X.prog X.w) X.A X.env xe → PSs (X.tr pn xe) body (tb W))
    (hsu : ∀ (a : Addr) (oe : Obj) (cls : Value) (d : Option Addr) (pn : List (Addr × Obj)), Zc cls d oe → (∃ vs, oe.data = .fields vs) → X.base.get? a = none → PSs (X.suite a ((a, oe) :: pn)) (b₀ :: suite) (ts a cls d)) :
    PS X (.Try body [.ExceptHandler (some (.Tuple [.Name x1 q1, .Name x2 q2, .Name x3 q3] k tp)) (some n) (b₀ :: suite) pos'] [] [] pos) (fun D σ H => tb (wTup X.K [.ref C1, .ref C2, .ref C3] i ts D) D σ H) := by
  refine ⟨fun pins s σ H D I h => ?_⟩
  have ok := I.ok
  have hfr : X.A.frames = some (X.env :: X.outer) := by rw [ok.frames, hs]
  -- what is behind the body
  let XE' : Value → Shared → Prop := fun e s₁ => wpAny (model X.prog X.w) X.A (noteFrame e X.env) (fun _ s₂ => wpAny (model X.prog X.w) X.A (setFlight e none) (fun _ s₃ =>
    wpAny (model X.prog X.w) X.A (handleBy e X.env [.ExceptHandler (some (.Tuple [.Name x1 q1, .Name x2 q2, .Name x3 q3] k tp)) (some n) (b₀ :: suite) pos']) (SP X pins D) X.xe s₃) X.xe s₂) X.xe s₁
  have caught : ∀ u s', XE (X.tr (X.pn ++ pins) XE') (wTup X.K [.ref C1, .ref C2, .ref C3] i ts D) u s' → XE' u s' := by
    rintro u s' ⟨a, B, sI, pins', σ', H', cls, d, rfl, J', nb, up, sky, na, os, ag, he, hyes⟩
    have J : Inv X pins σ' H' sI := J'.ofTry ok
    have land : ∀ h4, HandSPX.FlyingZ B (X.env :: X.outer) a (Zc cls d) h4 → sI.heap.UpToSlots h4 → Inv X pins σ' H' { s' with heap := h4 } := fun h4 fl up4 => J.landed nb fl.1 up4 os ag
    have apart : ∀ {h4 : Heap}, HandSPX.FlyingZ B (X.env :: X.outer) a (Zc cls d) h4 → a ≠ X.env.locals ∧ a ∉ X.fs := fun {h4} fl => by
      obtain ⟨oe, vs, e1, _, e3⟩ := fl.there
      have nfr : a ∉ frs (X.env :: X.outer) := fun hm => by
        obtain ⟨_, o', e', hnf⟩ := fl.2.2.1.mem hm
        rw [e1] at e'
        cases e'
        exact hnf _ e3
      exact ⟨fun z => nfr (List.mem_filterMap.mpr ⟨X.env, List.mem_cons_self, by rw [hf, z]⟩), fun hm => by
        obtain ⟨e, h1, h2⟩ := List.mem_filterMap.mp hm
        exact nfr (List.mem_filterMap.mpr ⟨e, List.mem_cons_of_mem _ h1, h2⟩)⟩
    show wpAny (model X.prog X.w) X.A (noteFrame (.ref a) X.env) _ _ _
    have noB : B.get? a = none → X.base.get? a = none := fun hB => by
      cases q : X.base.get? a with
      | none => rfl
      | some o =>
        have z := nb a o (J.bk a o q) fun hm => by
          have w := (J.stack.mem hm).1
          rw [q] at w
          cases w
        rw [hB] at z
        cases z
    refine Sky.land Zc.steady hfr hf (by rw [← hs]; exact sky) fun h3 fl3 up3 => ?_
    obtain ⟨nL, nF⟩ := apart fl3
    obtain ⟨oe3, vs3, he3, hz3, hd3⟩ := fl3.there
    have J3 := land h3 fl3 (up.trans up3)
    have S3 := J3.suite he3 hd3 na nL nF
    refine wpAny_handleBy_cons (codeAny_handlers_test ?_) (by intro q; cases q)
    refine wpAny_Tuple ?_
    refine wpAny_items_cons (ld_glob (X := X.suite a ((a, oe3) :: (X.pn ++ pins))) S3 g1 m1 ?_ d1)
    refine wpAny_items_cons (ld_glob (X := X.suite a ((a, oe3) :: (X.pn ++ pins))) S3 g2 m2 ?_ d2)
    refine wpAny_items_cons (ld_glob (X := X.suite a ((a, oe3) :: (X.pn ++ pins))) S3 g3 m3 ?_ d3)
    refine wpAny_items_nil ⟨by size_fits, ?_⟩
    have kp : ∀ q o, h3.get? q = some o → (h3.push { cls := .type "tuple", data := .seq [Value.ref C1, Value.ref C2, Value.ref C3].toArray }).get? q = some o := fun _ _ z => Heap.get?_push_of_some _ z
    have LT : Looks (model X.prog X.w) h3 (typeOf (.ref a)) cls := fun A Q E s k q => wpAny_typeOf_ref (k _ _ he3) (by rw [hz3.1]; exact q)
    refine (PySem.W.exm_tup3 (X := J3.kIn.keeps kp) (LT.keeps kp) (Heap.get?_push_size h3 rfl) he).here ?_
    have fl3' := fly_keeps fl3 kp
    refine codeAny_handlers_suite_as ?_
    refine HandSPX.lands_againZ fl3' fun h4 fl4 up4 => ?_
    have J4 := land h4 fl4 (((up.trans up3).trans (Heap.UpToSlots.of_keeps kp)).trans up4)
    obtain ⟨oe4, vs4, he4, hz4, hd4⟩ := fl4.there
    have S4 := J4.suite he4 hd4 na nL nF
    refine store_ok (X := X.suite a ((a, oe4) :: (X.pn ++ pins))) (v := .ref a) S4 hN hi (.inl hln) rfl (fun s5 S5 => ?_) (.inr hln)
    refine wpAny_mono ((hsu a oe4 cls d (X.pn ++ pins) hz4 ⟨_, hd4⟩ (noB fl4.2.1)).run [] s5 _ H' _ S5 (hyes a na (by rw [J4.len]; exact (List.getElem?_eq_some_iff.mp hi).1))) (fun f s6 hsp => ?_) (fun _ _ z => False.elim z)
    cases f with
    | ret u =>
      obtain ⟨v6, σ6, H6, S6, r6, q6⟩ := hsp
      exact gone_ok (S6.unsuite ok) hN hi hln fun s7 J7 => ⟨_, _, _, J7, r6, q6⟩
    | next =>
      obtain ⟨σ6, H6, S6, q6⟩ := hsp
      exact gone_ok (S6.unsuite ok) hN hi hln fun s7 J7 => ⟨_, _, J7, q6⟩
    | brk =>
      obtain ⟨σ6, H6, S6, q6⟩ := hsp
      exact gone_ok (S6.unsuite ok) hN hi hln fun s7 J7 => ⟨_, _, J7, q6⟩
    | cont =>
      obtain ⟨σ6, H6, S6, q6⟩ := hsp
      exact gone_ok (S6.unsuite ok) hN hi hln fun s7 J7 => ⟨_, _, J7, q6⟩
  refine wpAny_Try_except (wpAny_mono ((hb _ (X.pn ++ pins) XE' caught PassesOwn.looking).run [] s σ H D (I.toTry _) h) (fun f s1 hsp => ?_) fun e s1 he => he)
  cases f with
  | ret u =>
    obtain ⟨v, σ', H', J', r, q⟩ := hsp
    exact ⟨v, σ', H', J'.ofTry ok, r, q⟩
  | next =>
    obtain ⟨σ', H', J', q⟩ := hsp
    exact wpAny_execs_nil ⟨σ', H', J'.ofTry ok, q⟩
  | brk =>
    obtain ⟨σ', H', J', q⟩ := hsp
    exact ⟨σ', H', J'.ofTry ok, q⟩
  | cont =>
    obtain ⟨σ', H', J', q⟩ := hsp
    exact ⟨σ', H', J'.ofTry ok, q⟩
end
end Xm

end PART_NB26
section PART_NB27
set_option Elab.async false
set_option linter.all false
set_option maxRecDepth 100000
set_option maxHeartbeats 4000000
set_option pp.maxSteps 400
/-! NB27: a def called in an except suite with the caught exception -/
namespace Xm
open PySem PySem.Spec PyProof.Rows L2
open PySem.W (Frag Looks)
open L2H (RoomH)
/-- what a def promises whatever is handled -/
structure FnQ (P : Program) (w : World) (K : Frag) (mg : Str → Option Value) (base : Heap) (CX : CXT) (k : Nat) (f : Addr) (fd : FuncData) (ps : List Str) (sp : Sp) : Prop where
  len : ∀ vs H Q E, sp vs H Q E → vs.length = ps.length
  run : ∀ (A : Around) (outer : List PySem.Env) (s : Shared) (H : Hp) (args : Args) (us : List Value) (vs : List V) (Q : VK) (E : XK), RoomH k A → Env0 P w K mg base A outer s H → BindsTo s fd args (ps.zip us) → Vals vs us → sp vs H Q E →
    codeAny (model P w) A (.call (.ref f) args) (CR CX outer P w H s Q E) s
def cxQ (CX : CXT) (P : Program) (w : World) (K : Frag) (mg : Str → Option Value) (base : Heap) (N : List Str) (qual : Str) (scope : Scope) (f : Addr) (cd : Value) (A : Around) (outer : List PySem.Env) (s : Shared) (H : Hp) (E : XK) : Cx :=
  { cxOf CX P w K mg base N qual scope f cd A outer s H E with calm := false }
section
variable {CX : CXT} {P : Program} {w : World} {K : Frag} {mg : Str → Option Value} {base : Heap} {N ps : List Str} {qual : Str} {scope : Scope} {f : Addr} {cd : Value} {A : Around} {outer : List PySem.Env} {s s1 : Shared} {H : Hp} {E : XK} {us : List Value} {vs : List V}
theorem inv_startQ (S : FnScope N ps scope) (e0 : Env0 P w K mg base A outer s H) (hl : vs.length = ps.length) (r : Vals vs us)
    (x : InCallC s s.heap.objs.size (bindL (envOfC qual scope s.heap.objs.size f cd).kindOf (ps.zip us) fun _ => none) (cellsFrom (s.heap.objs.size + 1) scope.names []) (bindC (envOfC qual scope s.heap.objs.size f cd).kindOf (ps.zip us) fun _ => none) s1) :
    Inv (cxQ CX P w K mg base N qual scope f cd A outer s H E) [] (L2.start N vs) H s1 := by
  have e1 : Env0 P w K mg base { A with handled := none } outer s H := ⟨e0.frames, e0.mod, e0.bs, e0.bsz, e0.funs, e0.frf, e0.hok, e0.bare⟩
  have I := inv_start (CX := CX) (cd := cd) (f := f) (E := E) S rfl e1 hl r x
  exact ⟨⟨I.ok.mod, I.ok.kind, I.ok.glob, I.ok.blt, I.ok.above, I.ok.inj, I.ok.has, I.ok.cab, (fun z => Bool.noConfusion (show false = true from z)), Around.frames_deeper e0.frames, I.ok.stk, I.ok.exf, I.ok.bs, I.ok.bsz, I.ok.noex, I.ok.exfs, I.ok.funs, I.ok.frf⟩,
    I.os, I.bare, I.base, I.loc, I.cell, I.free, I.freeC, I.pin, I.hok, I.len⟩
theorem fn_ofQ {k : Nat} {name : Str} {params : Arguments} {body : List Stmt} {dV kV doc pm cdv ct oc : Value} {an od : Option Addr} {osl : Array (Option Value)} {sp : Sp} (lk : K.lookup f = some ⟨oc, od, .func (PySem.W.fnOf name qual params body scope dV kV doc pm an cdv ct), osl⟩) (hcd : PySem.W.codeIn K cdv qual = true) (S : FnScope N ps scope)
    (len : ∀ vs H Q E, sp vs H Q E → vs.length = ps.length)
    (hbody : ∀ (A : Around) (outer : List PySem.Env) (s : Shared) (H : Hp) (vs : List V) (Q : VK) (E : XK), RoomH k (A.deeper (envOfC qual scope s.heap.objs.size f cdv)) → sp vs H Q E →
      ∃ t, PSs (cxQ CX P w K mg base N qual scope f cdv A outer s H E) body t ∧ t { nx := fun _ H' => Q .non H', rt := Q } (L2.start N vs) H) :
    FnQ P w K mg base CX (k + 1) f (PySem.W.fnOf name qual params body scope dV kV doc pm an cdv ct) ps sp := by
  refine ⟨len, fun A outer s H args us vs Q E hr e0 hb r hsp => ?_⟩
  have hl := len _ _ _ _ hsp
  have KX : K.In s.heap := e0.mod.kin.keeps fun b o e => (e0.bs b o e).1
  have lim : s.heap.NoLimit := e0.mod.nolimit.keeps fun b o e => (e0.bs b o e).1
  have hkind : ∀ y ∈ ps.zip us, scope.names.lookup y.1 = some .local ∨ (scope.names.lookup y.1 = some .cell ∧ ((cellsFrom (s.heap.objs.size + 1) scope.names []).lookup y.1).isSome = true) := fun ⟨n, v⟩ hy =>
    (S.par n (List.of_mem_zip hy).1).imp id fun q => ⟨q, PySem.W.cellsFrom_some _ _ _ (.inl q)⟩
  refine codeAny_call_function hr.depth (KX _ _ lk) rfl S.co S.gen rfl (PySem.W.codeRec_of KX hcd) (hb _ _ _ _ ?_)
  refine wpAny_newFunctionEnv_cells S.kind hkind fun env he s1 x => ?_
  subst he
  refine ⟨lim.keeps x.toInCall.keep, codeAny_func ?_⟩
  obtain ⟨t, ht, hq⟩ := hbody A outer s H vs Q E (hr.deeper _) hsp
  have I : Inv (cxQ CX P w K mg base N qual scope f cdv A outer s H E) [] (L2.start N vs) H s1 := inv_startQ S e0 hl r x
  refine wpAny_mono (ht.run [] s1 (L2.start N vs) H _ I hq) (fun fl s' hs => ?_) fun e s' hs => hs
  cases fl with
  | ret u =>
    obtain ⟨v, σ', H', J, rv, q⟩ := hs
    exact ⟨v, H', J.os, J.bare, J.base, J.hok, rv, q⟩
  | next =>
    obtain ⟨σ', H', J, q⟩ := hs
    exact ⟨V.non, H', J.os, J.bare, J.base, J.hok, rfl, q⟩
  | brk =>
    obtain ⟨_, _, _, q⟩ := hs
    exact False.elim q
  | cont =>
    obtain ⟨_, _, _, q⟩ := hs
    exact False.elim q
end
/-- what stands at a is known -/
abbrev known (oe : Obj) : HO := .frz oe (.ext fun _ => True)
theorem hok_know {P : Program} {w : World} {H : Hp} {h : Heap} {a : Addr} {oe : Obj} (x : HOk P w H h) (e : h.get? a = some oe) (n : H a = none) : HOk P w (upd H a (known oe)) h := fun b o q => by
  by_cases hb : b = a
  · subst hb
    rw [upd_same] at q
    cases q
    exact ⟨e, True.intro, ⟨oe, e⟩, fun _ _ _ _ => True.intro⟩
  · rw [upd_ne hb] at q
    exact (x b o q).stay (fun _ _ _ z => z) (fun c z => by rw [upd_ne (ne_of_none z n)]; exact z) fun c xs z => by rw [upd_ne (ne_of_none z n)]; exact z
/-- .. and forgotten -/
theorem hok_forget {P : Program} {w : World} {H : Hp} {h : Heap} {a : Addr} {oe : Obj} {u : HO} (x : HOk P w H h) (e : H a = some (.frz oe u)) : HOk P w (del H a) h := fun b o q => by
  have hb : b ≠ a := fun z => by rw [z, del_same] at q; cases q
  rw [del_ne hb] at q
  have ne : ∀ {c : Addr} {v : HO}, H c = some v → (∀ o u, v ≠ .frz o u) → c ≠ a := fun {c v} z n y => by
    rw [y, e] at z
    exact n _ _ (Option.some.inj z).symm
  exact (x b o q).stay (fun _ _ _ z => z) (fun c z => by rw [del_ne (ne z fun _ _ y => by cases y)]; exact z) fun c xs z => by rw [del_ne (ne z fun _ _ y => by cases y)]; exact z
/-- f(n), n the caught exception -/
def tCallE (sp : Sp) (i : Nat) (a : Addr) (cls : Value) (d : Option Addr) : TE := fun σ H Q => σ[i]? = some (some (.ref a)) ∧ ∀ oe, Zc cls d oe → (∃ vs, oe.data = .fields vs) → sp [.ref a] (upd H a (known oe)) (fun v H2 => Q v (del H2 a)) fun _ _ _ => False
section
variable {X : Cx} {k i : Nat} {f a : Addr} {fd : FuncData} {x n p1 : Str} {sp : Sp} {oe : Obj} {cls : Value} {d : Option Addr} {pn : List (Addr × Obj)} {q pos np : Pos}
theorem pe_callE {y : Str} (F : FnQ X.prog X.w X.K X.mg X.base C8.CX0 k f fd [y] sp) (hr : RoomH k (X.A.mark (some (.ref a)))) (hg : Gl X x) (hm : X.mg x = some (.ref f)) (hk : PySem.W.keepIn X.K (.ref f) = true) (hb : Binds X.K fd [y] []) (hz : Zc cls d oe) (hd : ∃ vs, oe.data = .fields vs) (hbase : X.base.get? a = none)
    (hN : X.N[i]? = some n) (hv : Vis X.env.scope n) (hdb : (x == ("__debug__" : Str)) = false := by decide) (hdn : (n == ("__debug__" : Str)) = false := by decide) (hcn : (n == ("__classdict__" : Str)) = false := by decide)
    (he : starEach [.Name n np] X.env = (false, eval (.Name n np) X.env) :: starEach [] X.env := by rfl) (hpl : (backTo pos (starEach [] X.env)).any (·.1) = false := by rfl) :
    PE (X.suite a ((a, oe) :: pn)) (.Call (.Name x q) [.Name n np] [] pos) (tCallE sp i a cls d) := by
  refine ⟨fun pins s σ H Q I h => ?_⟩
  obtain ⟨h1, h2⟩ := h
  refine wpAny_Call_Name_kw (ld_glob I hg hm ?_ hdb)
  have ha : PA (X.suite a ((a, oe) :: pn)) [.Name n np] (tCons (tVar i) tNil) := pa_cons (pe_var hN hv hdn hcn) pa_nil
  refine PySem.W.callWith_K (h₀ := X.base) I.ok.mod.kin hk (thn (ha.run pos pins s σ H (fun vs H1 => vs = [.ref a] ∧ H1 = H) I ⟨.ref a, h1, rfl, rfl⟩) fun us s1 ⟨vs, H1, I1, r, ev, eH⟩ => ⟨I1.kIn, ?_⟩) he hpl
  subst ev
  subst eH
  obtain ⟨p1, p2, p3, p4, p5⟩ := I1.pin (a, oe) (List.mem_append_left _ List.mem_cons_self)
  have nst : ∀ b ∈ frs X.stack, b ≠ a := fun b hm z => by
    rw [z] at hm
    rcases List.mem_cons.mp (I1.stkSub a hm) with y | y
    · exact p3 y
    · exact p4 y
  have e0 := I1.env0
  have e1 : Env0 X.prog X.w X.K X.mg X.base (X.suite a ((a, oe) :: pn)).A X.stack s1 (upd H1 a (known oe)) :=
    ⟨e0.frames, e0.mod, fun b o z => ⟨(e0.bs b o z).1, by rw [upd_ne fun y => by rw [y, hbase] at z; cases z]; exact (e0.bs b o z).2⟩, e0.bsz, e0.funs, fun b hm => by rw [upd_ne (nst b hm)]; exact e0.frf b hm, hok_know I1.hok p1 p2, e0.bare⟩
  have b0 := hb s1 us I1.kIn (by rw [List.append_nil, ← r.length]; rfl)
  rw [List.append_nil] at b0
  refine wpAny_call (codeAny_mono (F.run _ X.stack s1 _ ⟨us, []⟩ us _ _ _ hr e1 b0 r (h2 oe hz hd)) fun res s' hq => ?_)
  cases res with
  | error e => exact (show False from hq).elim
  | ok fl =>
    cases fl with
    | ret u =>
      obtain ⟨v, H2, os, bare, un, hok, rv, q⟩ := hq
      have ea : H2 a = some (known oe) := un.frzs a oe _ upd_same
      have ga : s'.heap.get? a = some oe := (hok a _ ea).1
      have up : ∀ {b : Addr}, b ≠ a → H1 b = none → upd H1 a (known oe) b = none := fun hb z => by rw [upd_ne hb]; exact z
      have neT : ∀ {b : Addr} {v : HO}, H1 b = some v → b ≠ a := fun z => ne_of_none z p2
      refine I1.after ⟨v, del H2 a, os, bare, ⟨fun b o e n hb hx => ?_, fun b o e n hb hx => ?_, fun b o e n hx => ?_, fun b o e hx => un.there b o e hx, fun b xs e => ?_, fun b o u e => ?_, fun b ps e => ?_⟩, hok_forget hok ea, rv, q⟩
      · by_cases z : b = a
        · rw [z] at e ⊢
          rw [p1] at e
          cases e
          exact ga
        · exact un.keep b o e (up z n) hb hx
      · exact un.slot b o e (up (nst b hb) n) hb hx
      · by_cases z : b = a
        · rw [z, del_same]
        · rw [del_ne z]
          exact un.free b o e (up z n) hx
      · rw [del_ne (neT e)]
        exact un.tups b xs (by rw [upd_ne (neT e)]; exact e)
      · rw [del_ne (neT e)]
        exact un.frzs b o u (by rw [upd_ne (neT e)]; exact e)
      · obtain ⟨more, z⟩ := un.tbls b ps (by rw [upd_ne (neT e)]; exact e)
        exact ⟨more, by rw [del_ne (neT e)]; exact z⟩
    | next => exact False.elim hq
    | brk => exact False.elim hq
    | cont => exact False.elim hq
end
end Xm

end PART_NB27
section PART_NB28
set_option Elab.async false
set_option linter.all false
set_option maxRecDepth 100000
set_option maxHeartbeats 4000000
set_option pp.maxSteps 400
/-! NB28: what is asked of a caught exception -/
namespace Xm
open PySem PySem.Spec PyProof.Rows L2
open PySem.W (Frag Looks)
open L2H (RoomH)
/-- at a: a known exception of the class at C, its dict at d, the dict's fields ws -/
structure ExcAt (a C d : Addr) (ws : List (Str × V)) (H : Hp) : Prop where
  obj : ∃ oe u, H a = some (.frz oe u) ∧ Zc (.ref C) (some d) oe ∧ ∃ vs, oe.data = .fields vs
  dic : H d = some (.xd ws)
/-- a field of the class's instances may be read -/
def FldC (K : Frag) (C : Addr) (n : Str) : Prop := XfC K C ∧ PySem.W.findIn K (.ref C) n = some none
theorem get_fld {X : Cx} {pins : List (Addr × Obj)} {σ : L2.St} {H : Hp} {s : Shared} {a C d : Addr} {ws : List (Str × V)} {oe : Obj} {n : Str} {v : V} {expr : Bool} {Q : Value → Shared → Prop} (I : Inv X pins σ H s) (ha : s.heap.get? a = some oe) (hz : Zc (.ref C) (some d) oe) (hf : ∃ vs, oe.data = .fields vs)
    (hd : H d = some (.xd ws)) (T : FldC X.K C n) (l : ws.lookup n = some v) (q : ∀ u, RelV v u → Q u { s with toks := s.toks + 1 }) : wpAny (model X.prog X.w) X.A (getAttr (.ref a) n expr) Q X.xe s := by
  obtain ⟨vs, hdat⟩ := hf
  have hx : ObjOk X.prog X.w H s.heap d (.xd ws) := I.hok d _ hd
  obtain ⟨mA, hns, hr⟩ := hx
  obtain ⟨od, ho, hl⟩ := lookIn_ns hns
  obtain ⟨u, hu, ru⟩ := RelO.some_of (v := v) (o := mA n) (by rw [← l]; exact hr n)
  have J : PySem.W.InstAt s.heap a oe C (some od) := ⟨ha, hz.1, by unfold PySem.W.notCls; rw [hdat] <;> rfl, by rw [hz.2]; exact ho⟩
  exact HandSPX.exc_get I.kIn J T.1.ga T.1.gg T.1.exC (PySem.W.findObj_own T.1.hdC T.2 rfl (by rw [hl, hu])) (handed_of ru) (q u ru)
/-- e.n, e a known exception -/
def tFx (K : Frag) (n : Str) (te : TE) : TE := fun σ H Q => te σ H fun x H1 => ∃ a C d ws v, x = .ref a ∧ ExcAt a C d ws H1 ∧ FldC K C n ∧ ws.lookup n = some v ∧ Q v H1
theorem pe_fx {X : Cx} {e : Expr} {te : TE} {pos : Pos} {n : Str} (he : PE X e te) (hb : attributeBase e n X.env (eval e X.env) = eval e X.env := by rfl) : PE X (.Attribute e n pos) (tFx X.K n te) := by
  refine ⟨fun pins s σ H Q I h => ?_⟩
  refine attr_of hb (thn (he.run pins s σ H _ I h) fun u s1 ⟨x, H1, I1, rx, a, C, d, ws, v, ex, ⟨⟨oe, uo, ha, hz, hf⟩, hd⟩, T, l, q⟩ => ?_)
  subst ex
  obtain rfl : u = Value.ref a := rx
  exact get_fld I1 (I1.hok a _ ha).1 hz hf hd T l fun u ru => ⟨v, H1, I1.tok _, ru, q⟩
/-- e.n, e the caught exception, in its suite -/
def tFs (K : Frag) (a : Addr) (cls : Value) (d : Option Addr) (n : Str) (te : TE) : TE := fun σ H Q => te σ H fun x H1 => x = .ref a ∧ ∃ C dd ws v, cls = .ref C ∧ d = some dd ∧ H1 dd = some (.xd ws) ∧ FldC K C n ∧ ws.lookup n = some v ∧ Q v H1
theorem pe_fs {X : Cx} {a : Addr} {oe : Obj} {cls : Value} {d : Option Addr} {pn : List (Addr × Obj)} {e : Expr} {te : TE} {pos : Pos} {n : Str} (hz : Zc cls d oe) (hf : ∃ vs, oe.data = .fields vs) (he : PE (X.suite a ((a, oe) :: pn)) e te)
    (hb : attributeBase e n X.env (eval e X.env) = eval e X.env := by rfl) : PE (X.suite a ((a, oe) :: pn)) (.Attribute e n pos) (tFs X.K a cls d n te) := by
  refine ⟨fun pins s σ H Q I h => ?_⟩
  refine attr_of hb (thn (he.run pins s σ H _ I h) fun u s1 ⟨x, H1, I1, rx, ex, C, dd, ws, v, ec, ed, hd, T, l, q⟩ => ?_)
  subst ex
  subst ec
  subst ed
  obtain rfl : u = Value.ref a := rx
  exact get_fld I1 (I1.pin (a, oe) (List.mem_append_left _ List.mem_cons_self)).1 hz hf hd T l fun u ru => ⟨v, H1, I1.tok _, ru, q⟩
end Xm
namespace NB
open PySem PySem.Spec PyProof.Rows L2 Xm
/-- a value told as data, nothing read -/
def rawD : V → D
  | .non => .non
  | .bl b => .bl b
  | .int i => .int i
  | .str x => .str x
  | .ref a => .loc a
  | .ty n => .ty n
  | _ => .non
def rawB : V → Bool
  | .byt _ => false
  | .flt _ => false
  | _ => true
theorem raw_is {K : PySem.W.Frag} {H : Hp} {v : V} (h : rawB v = true) : Is K H v (rawD v) := by
  cases v with
  | non => exact .non
  | bl b => exact .bl b
  | int i => exact .int i
  | str x => exact .str x
  | ref a => exact .loc a
  | ty n => exact .ty n
  | byt b => cases h
  | flt b => cases h
theorem is_raw {K : PySem.W.Frag} {H : Hp} {v w : V} (h : Is K H w (rawD v)) (hb : rawB v = true) : w = v := by
  cases v with
  | byt b => cases hb
  | flt b => cases hb
  | _ => cases h; rfl
/-- the law of change where an exception is known: its place, class, dict, fields -/
structure XI where
  a : Addr
  C : Addr
  d : Addr
  ws : List (Str × V)
def SE (K : PySem.W.Frag) (i : XI) : Sys where
  K := K
  M := [i.a, i.d]
  T := ExcAt i.a i.C i.d i.ws
  dep := fun H H' h _ t => ⟨by rw [h i.a (by simp)]; exact t.obj, by rw [h i.d (by simp)]; exact t.dic⟩
  live := fun H t x hx => by
    simp only [List.mem_cons, List.not_mem_nil, or_false] at hx
    rcases hx with rfl | rfl
    · obtain ⟨oe, u, e, _⟩ := t.obj
      rw [e]
      exact fun z => by cases z
    · rw [t.dic]
      exact fun z => by cases z
theorem ev_fx {K : PySem.W.Frag} {i : XI} {ρ : DEnv} {te : TE} {n : Str} {v : V} {Q : D → Prop} (T : FldC K i.C n) (l : i.ws.lookup n = some v) (hb : rawB v = true) (h : Ev (SE K i) te ρ fun d => d = .loc i.a ∧ Q (rawD v)) : Ev (SE K i) (tFx K n te) ρ Q := fun O σ H I Qv k => by
  refine h O σ H I _ fun x u H1 l1 t1 i1 ⟨e, q⟩ => ?_
  subst e
  cases i1
  exact ⟨i.a, i.C, i.d, i.ws, v, rfl, t1, T, l, k _ v H1 l1 t1 (raw_is hb) q⟩
end NB

end PART_NB28
section PART_NB29
set_option Elab.async false
set_option linter.all false
set_option maxRecDepth 100000
set_option maxHeartbeats 4000000
set_option pp.maxSteps 400
/-! NB29: _law_try(lambda: e) -/
namespace Xm
open PySem PySem.Spec PyProof.Rows L2 LamX
open PySem.W (Frag Looks)
open L2H (RoomH)
/-- all but the table at P stays -/
def ExtP (P : Addr) (H H' : Hp) : Prop := ∀ b o, b ≠ P → H b = some o → H' b = some o
section
variable {X : Cx} {pins : List (Addr × Obj)} {σ : L2.St} {H : Hp} {s : Shared}
/-- a lambda is made; nothing that is tracked changes but its maker's table -/
theorem lam_make3 {c P : Addr} {params : Arguments} {body : Expr} {scope : Scope} {pos : Pos} {E : Value → Shared → Prop} {Q : Value → Shared → Prop} (I : Inv X pins σ H s) (TB : TabB X.base X.mg c P) (hcode : X.env.code = .ref c)
    (hT : TabS H P (X.env.qual ++ "<lambda>")) (hdef : defaultsOf params X.env = ([], [])) (hfree : ∀ y ∈ scope.names, y.2 = .free → ∃ c, X.env.cells.lookup y.1 = some c)
    (h : ∀ (f c' : Addr) (pm ctv : Value) (H1 : Hp) (s' : Shared), Inv X pins σ H1 s' → ExtP P H H1 → TabS H1 P (X.env.qual ++ "<lambda>") →
      s'.heap.get? f = some (PySem.W.kla_obj "<lambda>" (X.env.qual ++ "<lambda>") params body scope (cloFrom X.env.cells scope.names []) pm c' ctv) → H1 f = none → f ∉ frs X.stack → H1 c' = some (CodeO c' (X.env.qual ++ "<lambda>")) → Q (.ref f) s') :
    wpAny (model X.prog X.w) X.A (eval (.Lambda params body scope pos) X.env) Q E s := by
  obtain ⟨ps, hP, ht, ha⟩ := hT
  have bP : s.heap.BuiltinsAt X.mg P := TB.bm.keeps I.bk
  have hP' : s.heap.get? P = some { cls := .none, data := .fields ps } := I.hok P _ hP
  have nofr : ∀ f, s.heap.objs.size ≤ f → f ∉ frs X.stack := fun f hf z => by
    rcases List.mem_cons.mp (I.stkSub _ z) with e | e
    · have := I.lt
      rw [← e] at this
      exact Nat.lt_irrefl _ (Nat.lt_of_lt_of_le this hf)
    · exact I.nofs hf e
  refine PySem.W.kla_eval hdef ?_
  cases hc : codeAmong pos ps.toList with
  | some cv =>
    obtain ⟨c', rfl, hco⟩ := ha pos cv hc
    refine PySem.W.kla_makeFunctionHit (mg := X.mg) (c := c) (P := P) (ps := ps) (closure_ok hfree) I.ok.glob (I.mod.glob.keeps I.bk) hcode (TB.code.keeps I.bk) hP' ht hc bP fun ctv h' tk hx hsz => ?_
    exact h h'.objs.size c' ((X.mg "__name__").getD .none) ctv H _ (I.kept (t' := tk) fun b o e => Heap.get?_push_of_some _ (hx b o e)) (fun _ _ _ e => e) ⟨ps, hP, ht, ha⟩ (Heap.get?_push_size _ rfl) (I.hok.fresh hsz) (nofr _ hsz) hco
  | none =>
    refine PySem.W.kla_makeFunction (mg := X.mg) (c := c) (P := P) (ps := ps) (closure_ok hfree) I.ok.glob (I.mod.glob.keeps I.bk) hcode (TB.code.keeps I.bk) hP' ht hc TB.gP bP fun c' ctv h' tk hx hge hlt hrec htb => ?_
    obtain ⟨c2, oc, vs, t, e2, hoc, hd, hv⟩ := hrec
    cases e2
    have nC : H c' = none := I.hok.fresh hge
    have hsz : s.heap.objs.size ≤ h'.objs.size := by omega
    have I1 := inv_table (t' := tk) (more := #[rawInt pos.line, rawInt pos.col, .ref c']) (q := X.env.qual ++ "<lambda>") (h' := h'.push (PySem.W.kla_obj "<lambda>" (X.env.qual ++ "<lambda>") params body scope (cloFrom X.env.cells scope.names []) ((X.mg "__name__").getD .none) c' ctv)) I hP
      (fun b o hb e => Heap.get?_push_of_some _ (hx b o hb e)) (Heap.get?_push_of_some _ htb) hge ⟨oc, vs, t, Heap.get?_push_of_some _ hoc, hd, hv⟩
    have eP : ExtP P H (upd (upd H P (.tbl (ps ++ #[rawInt pos.line, rawInt pos.col, .ref c']))) c' (CodeO c' (X.env.qual ++ "<lambda>"))) := fun b o nb e => by
      rw [upd_ne (ne_of_none e nC), upd_ne nb]
      exact e
    have nPT : ∀ {b : Addr} {q : Str}, H b = some (CodeO b q) → b ≠ P := fun z y => by
      rw [y, hP] at z
      exact codeO_ne ps (Option.some.inj z).symm
    have eL : (ps ++ #[rawInt pos.line, rawInt pos.col, .ref c']).toList = ps.toList ++ [rawInt pos.line, rawInt pos.col, .ref c'] := by simp
    refine h h'.objs.size c' ((X.mg "__name__").getD .none) ctv _ _ I1 eP ⟨_, by rw [upd_ne (ne_of_none hP nC), upd_same], by rw [eL]; exact PySem.TriplesOk_snoc _ _ _ _ ht, fun p' cv hcv => ?_⟩ (Heap.get?_push_size _ rfl) ?_ (nofr _ hsz) upd_same
    · rw [eL] at hcv
      rcases among_app _ ht hcv with z | z
      · obtain ⟨c0, e1, e2⟩ := ha p' cv z
        exact ⟨c0, e1, eP _ _ (nPT e2) e2⟩
      · exact ⟨c', z, upd_same⟩
    · rw [upd_ne (Nat.ne_of_gt hlt), upd_ne (Nat.ne_of_gt (Nat.lt_of_lt_of_le (Heap.lt_size hP') hsz))]
      exact I.hok.fresh hsz
end
/-- the reading of x(lambda: e) -/
def tLam3 (P : Addr) (q : Str) (TT : (XK → Hp → VK → Prop) → Hp → VK → Prop) (t : XK → TE) : TE := fun σ H Q => TabS H P q ∧ ∀ H1, ExtP P H H1 → TabS H1 P q → TT (fun E H' Q' => t E σ H' Q') H1 Q
section
variable {X : Cx}
theorem pe_lam3 {TT : (XK → Hp → VK → Prop) → Hp → VK → Prop} {x a : Str} {g c P : Addr} {k : Nat} {pg : Arguments} {bg : List Stmt} {sg : Scope} {dV kV doc pm cdv ct oc : Value} {an od : Option Addr} {osl : Array (Option Value)} {Ng : List Str}
    {params : Arguments} {body : Expr} {scope : Scope} {t : XK → TE} {p lpos pos : Pos} (hg : Gl X x) (hm : X.mg x = some (.ref g)) (hk : PySem.W.keepIn X.K (.ref g) = true)
    (lk : X.K.lookup g = some ⟨oc, od, .func (PySem.W.fnOf x x pg bg sg dV kV doc pm an cdv ct), osl⟩) (hcg : PySem.W.codeIn X.K cdv x = true) (hb : L2.Binds X.K (PySem.W.fnOf x x pg bg sg dV kV doc pm an cdv ct) [a] []) (Sg : FnScope Ng [a] sg) (hNg : Ng[0]? = some a) (hva : Vis sg a)
    (hG : GivesTo X Ng x sg g cdv bg a (X.env.qual ++ "<lambda>") TT)
    (TB : TabB X.base X.mg c P) (hcode : X.env.code = .ref c) (hr : Room (k + 2) X.A) (L : LamS X.env.scope scope) (hdef : defaultsOf params X.env = ([], []))
    (hbind : ∀ (q : Str) (cl : List (Str × Addr)) (pm cv ctv : Value), bindArgs (PySem.W.kla_fn "<lambda>" q params body scope cl pm cv ctv) ⟨[], []⟩ = pure [])
    (hbody : ∀ (A : Around) (outer : List PySem.Env) (s : Shared) (H : Hp) (E : XK) (f c' : Addr), Room k (A.deeper (lamEnv X scope s.heap.objs.size f c')) → PE (lamCx X A outer s H E scope f c') body (t E))
    (hdb : (x == ("__debug__" : Str)) = false := by decide) (hd : (a == ("__debug__" : Str)) = false := by decide) (hcd : (a == ("__classdict__" : Str)) = false := by decide) :
    PE X (.Call (.Name x p) [.Lambda params body scope lpos] [] pos) (tLam3 P (X.env.qual ++ "<lambda>") TT t) := by
  refine ⟨fun pins s σ H Q I ⟨hT, h⟩ => ?_⟩
  refine wpAny_Call_Name_kw (ld_glob I hg hm ?_ hdb)
  refine PySem.W.callWith_K (h₀ := X.base) I.ok.mod.kin hk ?_ (by rfl) (by rfl)
  show wpAny _ _ (spliced ((false, eval (.Lambda params body scope lpos) X.env) :: backTo pos (starEach [] X.env))) _ _ s
  refine Calls.spliced_cons (lam_make3 I TB hcode hT hdef (L.has I.ok) fun f c' pm' ctv H1 s' I1 eN T1 hf hfn hfr hco => Calls.spliced_nil ⟨I1.kIn, ?_⟩)
  have rc : codeAny (model X.prog X.w) X.A (.call (.ref g) ⟨[.ref f], []⟩) (CR C8.CX0 X.stack X.prog X.w H1 s' Q C8.E0) s' := by
    refine run_ofS (N := Ng) (ps := [a]) (us := [.ref f]) (vs := [.ref f]) lk hcg Sg hr I1.env0 (hb s' [.ref f] I1.kIn rfl) (.cons rfl .nil) rfl fun hr' => ?_
    obtain ⟨t', ht', hq'⟩ := hG f c' s' H1 Q (fun E H' Q' => t E σ H' Q') (fun W pn xe E p1 p2 tk hW => pe_act (i := 0) I1 L hf hfn hfr (hbind _ _ _ _ _) tk hW hr' (fun A outer s H hr2 => hbody A outer s H E f c' hr2) hNg hva hd hcd) hco (h H1 eN T1)
    exact ⟨t', ht'.nox, hq'⟩
  refine wpAny_call (codeAny_mono rc fun r s2 hq => ?_)
  cases r with
  | error e => exact (show False from hq).elim
  | ok fl =>
    cases fl with
    | ret u => exact I1.after hq
    | next => exact False.elim hq
    | brk => exact False.elim hq
    | cont => exact False.elim hq
/-- what is told of a raised exception: (e.code, _law_field(e)) -/
def told (K : Frag) (cs : List Value) (sp : Sp) (Q : VK) : XK := fun cls d H' => PySem.W.exmAny K cls cs = some true ∧ ∀ a, H' a = none → ∃ C dd ws v, cls = .ref C ∧ d = some dd ∧ H' dd = some (.xd ws) ∧ FldC K C "code" ∧ ws.lookup ("code" : Str) = some v ∧
  ∀ oe, Zc cls d oe → (∃ vs, oe.data = .fields vs) → sp [.ref a] (upd H' a (known oe)) (fun r H2 => [v, r].length ≤ sizeLine ∧ ∀ p, del H2 a p = none → Q (.ref p) (upd (del H2 a) p (.tup [v, r]))) fun _ _ _ => False
def TTry (K : Frag) (cs : List Value) (sp : Sp) : (XK → Hp → VK → Prop) → Hp → VK → Prop := fun tl H Q => tl (told K cs sp Q) H fun v H' => [V.str "value", v].length ≤ sizeLine ∧ ∀ p, H' p = none → Q (.ref p) (upd H' p (.tup [.str "value", v]))
theorem try_gives {Ng : List Str} {x a e q y : Str} {sg : Scope} {g fF C1 C2 C3 : Addr} {cdg : Value} {i j k k1 k2 k3 : Nat} {fd : FuncData} {sp : Sp} {x1 x2 x3 xf : Str} {p0 p1 p2 p3 p4 q1 q2 q3 tp r1 r2 r3 r4 r5 r6 r7 r8 r9 : Pos}
    (hN : Ng.Nodup) (hi : Ng[i]? = some e) (hi0 : 0 ≠ i) (hln : sg.names.lookup e = some .local) (hNl : ∀ f : Addr, i < (L2.start Ng [V.ref f]).length)
    (l1 : sg.names.lookup x1 = some .globalImplicit) (m1 : X.mg x1 = some (.ref C1)) (l2 : sg.names.lookup x2 = some .globalImplicit) (m2 : X.mg x2 = some (.ref C2)) (l3 : sg.names.lookup x3 = some .globalImplicit) (m3 : X.mg x3 = some (.ref C3))
    (d1 : (x1 == ("__debug__" : Str)) = false) (d2 : (x2 == ("__debug__" : Str)) = false) (d3 : (x3 == ("__debug__" : Str)) = false)
    (F : FnQ X.prog X.w X.K X.mg X.base C8.CX0 k fF fd [y] sp) (hr : Room (k + 1) X.A) (lf : sg.names.lookup xf = some .globalImplicit) (mf : X.mg xf = some (.ref fF)) (kf : PySem.W.keepIn X.K (.ref fF) = true) (bf : Binds X.K fd [y] []) (df : (xf == ("__debug__" : Str)) = false)
    (dn : (e == ("__debug__" : Str)) = false) (cn : (e == ("__classdict__" : Str)) = false) (h0 : ∀ f : Addr, (L2.start Ng [V.ref f])[0]? = some (some (V.ref f))) :
    GivesTo X Ng x sg g cdg [.Try [.Return (some (.Tuple [.Constant (.str "value") j p0, .Call (.Name a p1) [] [] p2] k1 p3)) p4] [.ExceptHandler (some (.Tuple [.Name x1 q1, .Name x2 q2, .Name x3 q3] k2 tp)) (some e) [.Return (some (.Tuple [.Attribute (.Name e r1) "code" r2, .Call (.Name xf r3) [.Name e r4] [] r5] k3 r6)) r7] r8] [] [] r9] a q
      (TTry X.K [.ref C1, .ref C2, .ref C3] sp) := by
  intro f c' s H Q tl act hc h
  have hrm : RoomH k (X.A.deeper (envOfC x sg s.heap.objs.size g cdg)) := by
    have := hr.deeper (envOfC x sg s.heap.objs.size g cdg)
    exact ⟨this.dp, this.un⟩
  refine ⟨_, pss_one (ps_try_tup (X := (cxOf C8.CX0 X.prog X.w X.K X.mg X.base Ng x sg g cdg X.A X.stack s H C8.E0).nox) (i := i)
      (tb := fun W D σ H => ∃ Ech : XK, (∀ (cls : Value) (d : Option Addr) (σ' : L2.St) (H' : Hp), Ech cls d H' → W cls d σ' H') ∧ σ[0]? = some (some (.ref f)) ∧ H c' = some (CodeO c' q) ∧ tl Ech H fun v H' => [V.str "value", v].length ≤ sizeLine ∧ ∀ p, H' p = none → D.rt (.ref p) (upd H' p (.tup [.str "value", v])))
      (ts := fun a cls d => tRet (tTup (tCons (tFs X.K a cls d "code" (tVar i)) (tCons (tCallE sp i a cls d) tNil)))) rfl rfl hN hi hln l1 m1 l2 m2 l3 m3 d1 d2 d3 (fun W pn xe tk _ => ?_) (fun a oe cls d pn hz hf hbase => pss_one (ps_ret (pe_tup (pa_cons (pe_fs hz hf (pe_var hi (.inl hln) dn cn)) (pa_cons (pe_callE F ⟨hrm.dp, hrm.un⟩ lf mf kf bf hz hf hbase hi (.inl hln) df dn cn) pa_nil)))))), ?_⟩
  · refine ⟨fun pins s' σ H' D I ⟨Ech, hW, h1, h2, h3⟩ => ?_⟩
    have hp := act W pn xe Ech p1 p2 tk hW
    exact (pss_one (ps_ret (pe_tup (pa_cons pe_str (pa_cons hp pa_nil))))).run pins s' σ H' D I ⟨h1, h2, h3⟩
  · refine ⟨_, fun cls d σ' H' ⟨e1, e2⟩ => ⟨e1, fun a na hl => ?_⟩, h0 f, hc, h⟩
    obtain ⟨C, dd, ws, v, ec, ed, hd, T, l, q⟩ := e2 a na
    have hv : (σ'.set i (some (V.ref a)))[i]? = some (some (V.ref a)) := List.getElem?_set_self hl
    exact ⟨_, hv, rfl, C, dd, ws, v, ec, ed, hd, T, l, hv, fun oe hz hf => q oe hz hf⟩
end
end Xm

end PART_NB29
section PART_NB30
set_option Elab.async false
set_option linter.all false
set_option maxRecDepth 100000
set_option maxHeartbeats 4000000
set_option pp.maxSteps 400
/-! NB30: laws that make lambdas, over data -/
namespace NB
open PySem PySem.Spec PyProof.Rows L2 Xm LamX
open L2H (RoomH)
theorem is_rawB {K : PySem.W.Frag} {H : Hp} {v : V} {d : D} (h : Is K H v d) : rawB v = true := by cases h <;> rfl
/-- the law's tape, and the table of its own code -/
structure LI where
  p : Addr
  c : Addr
  P : Addr
  q : Str
def SL (K : PySem.W.Frag) (i : LI) : Sys where
  K := K
  M := [i.p, i.c, i.P]
  T := fun H => TapeAt i.p i.c H ∧ TabS H i.P i.q
  dep := fun H H' h x ⟨t, ps, e1, e2, e3⟩ => ⟨(ST K (i.p, i.c)).dep H H' (fun a ha => h a (by
      have ha' : a ∈ [i.p, i.c] := ha
      simp only [List.mem_cons, List.not_mem_nil, or_false] at ha'
      rcases ha' with rfl | rfl <;> simp)) x t, ps, by rw [h i.P (by simp)]; exact e1, e2, fun pos cv hc => by
        obtain ⟨c0, z1, z2⟩ := e3 pos cv hc
        exact ⟨c0, z1, x _ _ z2⟩⟩
  live := fun H ⟨t, ps, e1, _⟩ a ha => by
    simp only [List.mem_cons, List.not_mem_nil, or_false] at ha
    rcases ha with rfl | rfl | rfl
    · exact (ST K (i.p, i.c)).live H t _ (by show i.p ∈ [i.p, i.c]; simp)
    · exact (ST K (i.p, i.c)).live H t _ (by show i.c ∈ [i.p, i.c]; simp)
    · rw [e1]; exact fun z => by cases z
/-- a def under the tape's law, called by the law -/
theorem ev_callTL {K : PySem.W.Frag} {i : LI} {ρ : DEnv} {F : Addr × Addr → Fn} {t : TA} {E : XK} {Q : D → Prop} (h : EvA (SL K i) t ρ fun ds => (F (i.p, i.c)).f ds Q) : Ev (SL K i) (tCall (spT (ST K) F) [] E t) ρ Q := fun O σ H I Qv k => by
  refine h O σ H I _ fun ds vs H1 l1 t1 i1 q => ?_
  rw [List.append_nil]
  have I1 := I.le l1 t1
  obtain ⟨tp, ps, e1, e2, e3⟩ := t1
  have sub : ∀ a ∈ (ST K (i.p, i.c)).M, a ∈ O := fun a ha => by
    have ha' : a ∈ [i.p, i.c] := ha
    simp only [List.mem_cons, List.not_mem_nil, or_false] at ha'
    rcases ha' with rfl | rfl
    · exact I.sub _ (by show i.p ∈ [i.p, i.c, i.P]; simp)
    · exact I.sub _ (by show i.c ∈ [i.p, i.c, i.P]; simp)
  refine ⟨(i.p, i.c), O, ds, tp, sub, I1.live, i1, (F (i.p, i.c)).mono _ _ _ (fun d c v H' l t' is => ?_) q⟩
  have out : ∀ {a : Addr} {o : HO}, H1 a = some o → (∀ xs, o ≠ .lst xs) → a ∉ [i.p, i.c] := fun {a o} e n m => by
    obtain ⟨cells, x, r, s, h1, h2, _⟩ := tp.ok
    simp only [List.mem_cons, List.not_mem_nil, or_false] at m
    rcases m with rfl | rfl
    · rw [h1] at e; exact n _ (Option.some.inj e).symm
    · rw [h2] at e; exact n _ (Option.some.inj e).symm
  have l' : Le (SL K i).M H1 H' := fun a o n e => l a o (fun m => n (by
    have m' : a ∈ [i.p, i.c] := m
    show a ∈ [i.p, i.c, i.P]
    simp only [List.mem_cons, List.not_mem_nil, or_false] at m' ⊢
    rcases m' with h | h
    · exact .inl h
    · exact .inr (.inl h))) e
  refine k d v H' (l1.trans l') ⟨t', ps, l _ _ (out e1 fun _ z => by cases z) e1, e2, fun pos cv hc => ?_⟩ is c
  obtain ⟨c0, z1, z2⟩ := e3 pos cv hc
  exact ⟨c0, z1, l _ _ (out z2 fun _ z => by unfold CodeO at z; cases z) z2⟩
def spLawL (K : PySem.W.Frag) (P : Addr) : Sp := fun vs H Q _ => ∃ (a : Addr) (ns : List Int), vs = [.ref a] ∧ H P = some (.tbl #[]) ∧ SqL K H a (ns.map V.int) ∧ ∀ H', Q (.bl true) H'
theorem law_startL {K : PySem.W.Frag} {a P : Addr} {q : Str} {ns : List Int} {N : List Str} {rest : TS} {E : XK} {H : Hp} {Q : VK} (hP : H P = some (.tbl #[])) (hS : SqL K H a (ns.map V.int)) (q0 : ∀ H', Q (.bl true) H')
    (h : ∀ p c, Run (SL K ⟨p, c, P, q⟩) rest ((startD N [.loc a]).set 1 (some (.dat (.loc p)))) ⟨fun _ => False, fun d => d = .bl true, fun _ => False, fun _ => False⟩) :
    tSeq (tAsg (tCall (spTape K) [] E (tCons (tVar 0) tNil)) (gName 1)) rest { nx := fun _ H' => Q .non H', rt := Q } (L2.start N [.ref a]) H := by
  refine ⟨_, rfl, a, ns, rfl, hS, fun p c H' s T => ?_⟩
  have T' : (SL K ⟨p, c, P, q⟩).T H' := ⟨T, TabS.nil (s _ _ hP)⟩
  have I : SOk (SL K ⟨p, c, P, q⟩) ⟨H', [p, c, P]⟩ [p, c, P] ((startD N [.loc a]).set 1 (some (.dat (.loc p)))) ((L2.start N [.ref a]).set 1 (some (.ref p))) H' :=
    (sok_start (S := SL K ⟨p, c, P, q⟩) (vs := [.ref a]) T' (fun _ h => h) (fun x hx => (SL K ⟨p, c, P, q⟩).live H' T' x hx) (.cons (.loc a) .nil) ⟨fun _ _ _ e => (by cases e), fun _ _ _ => rfl⟩).set (.loc p)
  exact h p c ⟨H', [p, c, P]⟩ [p, c, P] _ H' I _ (fun _ _ _ _ _ _ z => z.elim) (fun d v H' _ _ i _ e => by subst e; rw [is_bl i]; exact q0 H') (fun _ _ _ _ _ _ z => z.elim) (fun _ _ _ _ _ _ z => z.elim)
/-! ### _law_field -/
def FldAll (K : PySem.W.Frag) (C : Addr) : Prop := ∀ n ∈ fldNames, FldC K C n
theorem fldAllB_ok {K : PySem.W.Frag} {C : Addr} (h : fldAllB K C = true) : FldAll K C := by
  obtain ⟨h1, h2⟩ := Bool.and_eq_true_iff.mp h
  exact fun n hn => ⟨xfB_ok h1, of_decide_eq_true (List.all_eq_true.mp h2 n hn)⟩
/-- what such an error has beside its code -/
def fieldF {α : Type} (tup : α → α → α) (non : α) (get : Str → Option α) (nm : Str) : Option α :=
  if nm ∈ (["InvalidRule", "InvalidTriple", "InvalidText", "InvalidTree", "InvalidMarking", "InvalidRow"] : List Str) then get "at"
  else if nm ∈ (["TooDeep", "TooLarge", "TooFar", "TooMany"] : List Str) then get "most"
  else if nm ∈ (["NoLeaf", "NoFork"] : List Str) then get "node"
  else if nm = "Tangled" then (get "one").bind fun a => (get "other").map fun b => tup a b
  else if nm ∈ (["InvalidEntry", "WrongKind"] : List Str) then get "name"
  else if nm = "InvalidCommand" then get "word"
  else if nm = "InvalidPage" then get "line"
  else if nm ∈ (["Unlike", "NotNear", "NotFar", "NothingLeft"] : List Str) then some non else get "value"
def fieldD (get : Str → Option D) (nm : Str) : Option D := fieldF (fun a b => .tup [a, b]) .non get nm
def F_field (K : PySem.W.Frag) (i : XI) : Fn := ⟨fun ds Q => ds = [.loc i.a] ∧ FldAll K i.C ∧ (∀ p ∈ i.ws, rawB p.2 = true) ∧ ∃ nm r, i.ws.lookup ("code" : Str) = some (.str nm) ∧ fieldD (fun n => (i.ws.lookup n).map rawD) nm = some r ∧ Q r,
  fun _ _ _ h ⟨e, f, b, nm, r, c, z, q⟩ => ⟨e, f, b, nm, r, c, z, h _ q⟩⟩
def HasQ (P : Program) (w : World) (K : PySem.W.Frag) (mg : Str → Option Value) (base : Heap) (x : Str) (k : Nat) (ps : List Str) (sp : Sp) : Prop :=
  ∃ fd, FnQ P w K mg base CX0 k (He.ga K x) fd ps sp ∧ Binds K fd ps [] ∧ mg x = some (.ref (He.ga K x)) ∧ PySem.W.keepIn K (.ref (He.ga K x)) = true
theorem has_ofTQ {ι : Type} {P : Program} {w : World} {K : PySem.W.Frag} {mg : Str → Option Value} {base : Heap} {x : Str} {params : Arguments} {body : List Stmt} {scope : Scope} {N ps : List Str} {k : Nat} {Sx : ι → Sys} {Fx : ι → Fn}
    (F : ∃ fd, FunD K x x params body scope [] [] (He.ga K x) fd) (g : mg x = some (.ref (He.ga K x))) (S : FnScope N ps scope)
    (hb : ∀ (kV doc pm : Value) (an : Option Addr) (cdv ct : Value) (us : List Value), us.length = ps.length → bindArgs (PySem.W.fnOf x x params body scope .none kV doc pm an cdv ct) ⟨us, []⟩ = pure (ps.zip us))
    (len : ∀ p ds R, (Fx p).f ds R → ds.length = ps.length)
    (hbody : ∀ (f : Addr) (cdv : Value) (A : Around) (outer : List PySem.Env) (s : Shared) (H : Hp) (E : XK), RoomH k (A.deeper (envOfC x scope s.heap.objs.size f cdv)) →
      ∃ t, PSs (cxQ CX0 P w K mg base N x scope f cdv A outer s H E) body t ∧ ∀ p ds R, (Fx p).f ds R → Run (Sx p) t (startD N ds) ⟨fun _ => R .non, R, fun _ => False, fun _ => False⟩)
    (hx : ∀ p O H, XOk (Sx p) O H := by exact fun _ _ _ => ⟨fun _ _ _ e => (by cases e), fun _ _ _ => rfl⟩) : HasQ P w K mg base x (k + 1) ps (spT Sx Fx) := by
  obtain ⟨fd, F⟩ := F
  have bb := F.bindsN hb
  obtain ⟨oc, od, dV, kV, doc, pm, an, cdv, ct, osl, e, lk, hcd, _, _⟩ := F.ex
  subst e
  refine ⟨_, fn_ofQ lk hcd S (fun vs H Q E ⟨p, O, ds, _, _, _, i, f⟩ => i.length.trans (len p ds _ f)) fun A outer s H vs Q E hr h => ?_, bb, g, F.kp⟩
  obtain ⟨t, h1, h2⟩ := hbody _ cdv A outer s H E hr
  obtain ⟨p, h⟩ := h
  exact ⟨t, h1, body_of h (h2 p) (hx p)⟩
end NB

end PART_NB30
section PART_NB31
set_option Elab.async false
set_option linter.all false
set_option maxRecDepth 100000
set_option maxHeartbeats 4000000
set_option pp.maxSteps 400
/-! NB31: _law_try(lambda: f(..)), over data -/
namespace NB
open PySem PySem.Spec PyProof.Rows L2 Xm LamX
theorem fieldF_rel {α β : Type} {Rel : α → β → Prop} {ta : α → α → α} {tb : β → β → β} {na : α} {nb : β} {ga : Str → Option α} {gb : Str → Option β} (ht : ∀ a a' b b', Rel a b → Rel a' b' → Rel (ta a a') (tb b b')) (hn : Rel na nb)
    (hg : ∀ n b, gb n = some b → ∃ a, ga n = some a ∧ Rel a b) {nm : Str} {b : β} (h : fieldF tb nb gb nm = some b) : ∃ a, fieldF ta na ga nm = some a ∧ Rel a b := by
  unfold fieldF at h ⊢
  split at h
  · rename_i c; rw [if_pos c]; exact hg _ _ h
  rename_i c1; rw [if_neg c1]
  split at h
  · rename_i c; rw [if_pos c]; exact hg _ _ h
  rename_i c2; rw [if_neg c2]
  split at h
  · rename_i c; rw [if_pos c]; exact hg _ _ h
  rename_i c3; rw [if_neg c3]
  split at h
  · rename_i c
    rw [if_pos c]
    cases e1 : gb "one" with
    | none => rw [e1] at h; cases h
    | some b1 =>
      rw [e1] at h
      cases e2 : gb "other" with
      | none => rw [e2] at h; cases h
      | some b2 =>
        rw [e2] at h
        obtain ⟨a1, z1, r1⟩ := hg _ _ e1
        obtain ⟨a2, z2, r2⟩ := hg _ _ e2
        rw [z1, z2]
        have hb : tb b1 b2 = b := Option.some.inj h
        exact ⟨_, rfl, hb ▸ ht _ _ _ _ r1 r2⟩
  rename_i c4; rw [if_neg c4]
  split at h
  · rename_i c; rw [if_pos c]; exact hg _ _ h
  rename_i c5; rw [if_neg c5]
  split at h
  · rename_i c; rw [if_pos c]; exact hg _ _ h
  rename_i c6; rw [if_neg c6]
  split at h
  · rename_i c; rw [if_pos c]; exact hg _ _ h
  rename_i c7; rw [if_neg c7]
  split at h
  · rename_i c
    rw [if_pos c]
    cases h
    exact ⟨_, rfl, hn⟩
  rename_i c8; rw [if_neg c8]
  exact hg _ _ h
theorem fs_look {K : PySem.W.Frag} {H : Hp} {ws : List (Str × V)} {fs : List (Str × D)} (f : FsIs K H ws fs) {n : Str} {d : D} (h : fs.lookup n = some d) : ∃ w, ws.lookup n = some w ∧ Is K H w d := by
  rcases (kv_of f.1 f.2).mapL (k := n) with ⟨w, d', e1, e2, i⟩ | ⟨_, e2⟩
  · rw [h] at e2
    cases e2
    exact ⟨w, e1, i⟩
  · rw [h] at e2
    cases e2
theorem kv_raw {K : PySem.W.Frag} {H : Hp} : ∀ {ws : List (Str × V)} {fs : List (Str × D)}, Kv K H ws fs → ∀ p ∈ ws, rawB p.2 = true
  | _, _, .nil, p, hp => by cases hp
  | _, _, .cons h t, p, hp => by
    rcases List.mem_cons.mp hp with rfl | hp
    · exact is_rawB h
    · exact kv_raw t p hp
/-- what is raised is told as (code, field) -/
def Rout (K : PySem.W.Frag) (cs : List Value) (Q : D → Prop) (C : Addr) (fs : List (Str × D)) : Prop :=
  PySem.W.exmAny K (.ref C) cs = some true ∧ FldAll K C ∧ ∃ nm r, fs.lookup ("code" : Str) = some (.str nm) ∧ fieldD (fun n => fs.lookup n) nm = some r ∧ Q (.tup [.str nm, r])
theorem told_of {K : PySem.W.Frag} {cs : List Value} {Q : D → Prop} {Qv : VK} {C dd : Addr} {fs : List (Str × D)} {ws : List (Str × V)} {O : List Addr} {H : Hp} (r : Rout K cs Q C fs) (hd : H dd = some (.xd ws)) (f : FsIs K (hid O H) ws fs) (live : ∀ a ∈ O, H a ≠ none)
    (k : ∀ d v H', Same H H' → Is K (hid O H') v d → Q d → Qv v H') : told K cs (spT (SE K) (F_field K)) Qv (.ref C) (some dd) H := by
  obtain ⟨hx, hf, nm, r0, hc, hr, hq⟩ := r
  obtain ⟨wc, lc, ic⟩ := fs_look f hc
  cases ic
  refine ⟨hx, fun a na => ⟨C, dd, ws, .str nm, rfl, rfl, hd, hf _ (by decide), lc, fun oe hz hdat => ?_⟩⟩
  have nda : dd ≠ a := ne_of_none hd na
  have T : ExcAt a C dd ws (upd H a (known oe)) := ⟨⟨oe, _, upd_same, hz, hdat⟩, by rw [upd_ne nda]; exact hd⟩
  have sH : Same H (upd H a (known oe)) := NB.Same.upd na
  -- a value told raw is the value told
  let Rel : D → D → Prop := fun r' d => ∀ (v : V) (H4 : Hp), (∀ b o, b ≠ a → upd H a (known oe) b = some o → H4 b = some o) → Is K (hid (a :: dd :: O) H4) v r' → Is K (hid O (del H4 a)) v d
  have up : ∀ {H4 : Hp}, (∀ b o, b ≠ a → upd H a (known oe) b = some o → H4 b = some o) → ∀ b o, hid O H b = some o → hid O (del H4 a) b = some o := fun {H4} s b o e => by
    obtain ⟨n, e⟩ := hid_some e
    have nb : b ≠ a := ne_of_none e na
    rw [hid_out n, del_ne nb]
    exact s b o nb (by rw [upd_ne nb]; exact e)
  obtain ⟨r1, hr1, rel⟩ := fieldF_rel (Rel := Rel) (ta := fun a b => D.tup [a, b]) (na := .non) (ga := fun n => (ws.lookup n).map rawD) (fun x x' y y' h1 h2 v H4 s i => by
      cases i with
      | tup e is =>
        obtain ⟨n, e⟩ := hid_some e
        obtain ⟨v1, v2, rfl, i1, i2⟩ := iss2 is
        have nO : _ ∉ O := fun m => n (List.mem_cons_of_mem _ (List.mem_cons_of_mem _ m))
        exact .tup (by rw [hid_out nO, del_ne fun z => n (by rw [z]; exact List.mem_cons_self)]; exact e) (.cons (h1 _ _ s i1) (.cons (h2 _ _ s i2) .nil)))
    (fun v H4 s i => by cases i; exact .non)
    (fun n d e => by
      obtain ⟨w, lw, iw⟩ := fs_look f e
      exact ⟨rawD w, by rw [lw]; rfl, fun v H4 s i => by
        rw [is_raw i (is_rawB iw)]
        exact iw.ex (up s)⟩) hr
  refine ⟨⟨a, C, dd, ws⟩, a :: dd :: O, [.loc a], T, fun b hb => ?_, fun b hb => ?_, .cons (.loc a) .nil, rfl, hf, kv_raw (kv_of f.1 f.2), nm, r1, lc, hr1, fun v H4 l t i => ⟨szr rfl, fun p np => ?_⟩⟩
  · have hb' : b ∈ [a, dd] := hb
    simp only [List.mem_cons, List.not_mem_nil, or_false] at hb'
    rcases hb' with rfl | rfl <;> simp
  · rcases List.mem_cons.mp hb with rfl | hb
    · rw [upd_same]; exact fun z => by cases z
    · rcases List.mem_cons.mp hb with rfl | hb
      · rw [T.dic]; exact fun z => by cases z
      · intro z
        cases e : H b with
        | none => exact live b hb e
        | some o => rw [sH b o e] at z; cases z
  · have s4 : ∀ b o, b ≠ a → upd H a (known oe) b = some o → H4 b = some o := fun b o nb e => by
      by_cases m : b = dd
      · subst m
        rw [T.dic] at e
        cases e
        exact t.dic
      · exact l b o (fun y => by
          have y' : b ∈ [a, dd] := y
          simp only [List.mem_cons, List.not_mem_nil, or_false] at y'
          exact y'.elim nb m) e
    have old : ∀ b o, H b = some o → del H4 a b = some o := fun b o e => by
      have nb : b ≠ a := ne_of_none e na
      rw [del_ne nb]
      exact s4 b o nb (by rw [upd_ne nb]; exact e)
    have pO : p ∉ O := fun m => by
      cases e : H p with
      | none => exact live p m e
      | some o => rw [old p o e] at np; cases np
    have s5 : Same (del H4 a) (upd (del H4 a) p (.tup [.str nm, v])) := NB.Same.upd np
    refine k (.tup [.str nm, r0]) (.ref p) _ (fun b o e => s5 b o (old b o e)) ?_ hq
    refine .tup (by rw [hid_out pO]; exact upd_same) (.cons (.str _) (.cons ?_ .nil))
    exact (rel v H4 s4 i).ex fun b o e => by
      obtain ⟨n, e⟩ := hid_some e
      rw [hid_out n]
      exact s5 b o e
theorem ev_tryCall {K : PySem.W.Frag} {i : LI} {cs : List Value} {ρ : DEnv} {F : FnX} {t : TA} {Q : D → Prop} (h : EvA (SL K i) t ρ fun ds => F.f ds (fun d => Q (.tup [.str "value", d])) (Rout K cs Q)) :
    Ev (SL K i) (tLam3 i.P i.q (TTry K cs (spT (SE K) (F_field K))) fun E => tCall (spX K F) [] E t) ρ Q := fun O σ H I Qv k => by
  obtain ⟨tp, tb⟩ := I.t
  refine ⟨tb, fun H1 eP tb1 => ?_⟩
  have ml : ∀ {a : Addr}, a ∉ (SL K i).M → a ≠ i.P := fun n z => n (by rw [z]; show i.P ∈ [i.p, i.c, i.P]; simp)
  have l1 : Le (SL K i).M H H1 := fun a o n e => eP a o (ml n) e
  have tp1 : TapeAt i.p i.c H1 := by
    obtain ⟨ps, hP, _⟩ := tb
    obtain ⟨cells, x, r, s, h1, h2, h3⟩ := tp.ok
    have n1 : i.p ≠ i.P := fun z => by rw [z, hP] at h1; cases h1
    have n2 : i.c ≠ i.P := fun z => by rw [z, hP] at h2; cases h2
    exact ⟨cells, x, r, s, eP _ _ n1 h1, eP _ _ n2 h2, h3⟩
  have I1 := I.le l1 (⟨tp1, tb1⟩ : (SL K i).T H1)
  refine h O σ H1 I1 _ fun ds vs H2 l2 t2 i2 q => ?_
  rw [List.append_nil]
  have I2 := I1.le l2 t2
  have k' : ∀ d v H', Same H2 H' → Is K (hid O H') v d → Q d → Qv v H' := fun d v H' s is qd => k d v H' ((l1.trans l2).trans (Le.same s)) ((SL K i).same _ _ s t2) is qd
  refine ⟨O, ds, I2.live, i2, F.mono _ _ _ _ _ (fun d qd v H' s is => ⟨szr rfl, fun p np => ?_⟩) (fun C fs r dd ws H' s e f => ?_) q⟩
  · have pO : p ∉ O := fun m => by
      cases e : H2 p with
      | none => exact I2.live p m e
      | some o => rw [s p o e] at np; cases np
    have s5 : Same H' (upd H' p (.tup [.str "value", v])) := NB.Same.upd np
    refine k' (.tup [.str "value", d]) (.ref p) _ (s.trans s5) (.tup (by rw [hid_out pO]; exact upd_same) (.cons (.str _) (.cons ?_ .nil))) qd
    exact is.ex fun b o e => by
      obtain ⟨n, e⟩ := hid_some e
      rw [hid_out n]
      exact s5 b o e
  · exact told_of r e f (fun a ha z => by
      cases y : H2 a with
      | none => exact I2.live a ha y
      | some o => rw [s a o y] at z; cases z) fun d v H'' s' is qd => k' d v H'' (s.trans s') is qd
end NB

end PART_NB31
section PART_NB32
set_option Elab.async false
set_option linter.all false
set_option maxRecDepth 100000
set_option maxHeartbeats 4000000
set_option pp.maxSteps 400
/-! NB32: _law_try(lambda: e) for any e; a law that makes lambdas; slots that own dict(..) -/
namespace NB
open PySem PySem.Spec PyProof.Rows L2 Xm LamX
/-- the slots that hold data -/
def datD (ρ : DEnv) : DEnv := ρ.map fun | some (.dat d) => some (.dat d) | _ => none
theorem datD_get {ρ : DEnv} {i : Nat} {s : Sl} (h : (datD ρ)[i]? = some (some s)) : ∃ d, s = .dat d ∧ ρ[i]? = some (some (.dat d)) := by
  unfold datD at h
  rw [List.getElem?_map] at h
  cases e : ρ[i]? with
  | none => rw [e] at h; cases h
  | some o =>
    rw [e] at h
    cases o with
    | none => cases h
    | some s' =>
      cases s' with
      | dat d => cases h; exact ⟨d, rfl, rfl⟩
      | _ => cases h
theorem datD_own {ρ : DEnv} {σ : L2.St} {l : Addr} {i : Nat} (h : OwnAt (datD ρ) σ l i) : False := by
  obtain ⟨s, h1, h2, _⟩ := h
  obtain ⟨d, rfl, _⟩ := datD_get h1
  cases h2
theorem ev_try {K : PySem.W.Frag} {i : LI} {cs : List Value} {ρ : DEnv} {t : XK → TE} {Q : D → Prop} (h : ∀ (E : XK) (y : SX K E), y.R = Rout K cs Q → Ev (S0X y) (t E) (datD ρ) fun d => Q (.tup [.str "value", d])) :
    Ev (SL K i) (tLam3 i.P i.q (TTry K cs (spT (SE K) (F_field K))) t) ρ Q := fun O σ H I Qv k => by
  obtain ⟨tp, tb⟩ := I.t
  refine ⟨tb, fun H1 eP tb1 => ?_⟩
  have ml : ∀ {a : Addr}, a ∉ (SL K i).M → a ≠ i.P := fun n z => n (by rw [z]; show i.P ∈ [i.p, i.c, i.P]; simp)
  have l1 : Le (SL K i).M H H1 := fun a o n e => eP a o (ml n) e
  have tp1 : TapeAt i.p i.c H1 := by
    obtain ⟨ps, hP, _⟩ := tb
    obtain ⟨cells, x, r, s, h1, h2, h3⟩ := tp.ok
    have n1 : i.p ≠ i.P := fun z => by rw [z, hP] at h1; cases h1
    have n2 : i.c ≠ i.P := fun z => by rw [z, hP] at h2; cases h2
    exact ⟨cells, x, r, s, eP _ _ n1 h1, eP _ _ n2 h2, h3⟩
  have T1 : (SL K i).T H1 := ⟨tp1, tb1⟩
  have I1 := I.le l1 T1
  have k' : ∀ d v H', Same H1 H' → Is K (hid O H') v d → Q d → Qv v H' := fun d v H' s is qd => k d v H' (l1.trans (Le.same s)) ((SL K i).same _ _ s T1) is qd
  have lv : ∀ H', Same H1 H' → ∀ a ∈ O, H' a ≠ none := fun H' s a ha z => by
    cases y : H1 a with
    | none => exact I1.live a ha y
    | some o => rw [s a o y] at z; cases z
  let E : XK := told K cs (spT (SE K) (F_field K)) Qv
  let y : SX K E := ⟨O, H1, Rout K cs Q, I1.live, fun C fs d ws H' s e f r => told_of r e f (lv H' s) fun d v H'' s' is qd => k' d v H'' (s.trans s') is qd⟩
  have IX : EnvOk (S0X y) O (datD ρ) σ H1 := {
    len := by rw [show (datD ρ).length = ρ.length from List.length_map ..]; exact I1.len
    t := fun a _ => rfl
    sub := fun a h => h
    live := I1.live
    at_ := fun j s hs => by
      obtain ⟨d, rfl, e⟩ := datD_get hs
      exact I1.at_ j _ e
    dis := fun i j l hi _ => (datD_own hi).elim
    outM := fun i l hi => (datD_own hi).elim
    xk := xok_start y }
  refine h E y rfl O σ H1 IX _ fun d v H' l t is q => ⟨szr rfl, fun p np => ?_⟩
  have s : Same H1 H' := same_of l t
  have pO : p ∉ O := fun m => lv H' s p m np
  have s5 : Same H' (upd H' p (.tup [.str "value", v])) := NB.Same.upd np
  refine k' (.tup [.str "value", d]) (.ref p) _ (s.trans s5) (.tup (by rw [hid_out pO]; exact upd_same) (.cons (.str _) (.cons ?_ .nil))) q
  exact is.ex fun b o e => by
    obtain ⟨n, e⟩ := hid_some e
    rw [hid_out n]
    exact s5 b o e
/-- a law that makes lambdas: its code object is told -/
theorem has_ofL {P : Program} {w : World} {K : PySem.W.Frag} {mg : Str → Option Value} {base : Heap} {x : Str} {params : Arguments} {body : List Stmt} {scope : Scope} {N ps : List Str} {k : Nat} {sp : Sp}
    (F : ∃ fd, FunD K x x params body scope [] [] (He.ga K x) fd) (g : mg x = some (.ref (He.ga K x))) (S : FnScope N ps scope)
    (hb : ∀ (kV doc pm : Value) (an : Option Addr) (cdv ct : Value) (us : List Value), us.length = ps.length → bindArgs (PySem.W.fnOf x x params body scope .none kV doc pm an cdv ct) ⟨us, []⟩ = pure (ps.zip us))
    (len : ∀ vs H Q E, sp vs H Q E → vs.length = ps.length)
    (hbody : ∀ (f : Addr) (A : Around) (outer : List PySem.Env) (s : Shared) (H : Hp) (vs : List V) (Q : VK) (E : XK), Room k (A.deeper (envOfC x scope s.heap.objs.size f (.ref (He.codeOf K (x, none))))) → sp vs H Q E →
      ∃ t, PSs (cxOf CX0 P w K mg base N x scope f (.ref (He.codeOf K (x, none))) A outer s H E).nox body t ∧ t { nx := fun _ H' => Q .non H', rt := Q } (L2.start N vs) H) : Has P w K mg base x (k + 1) ps sp := by
  obtain ⟨fd, F⟩ := F
  have b1 := F.bindsN hb
  have k1 := F.kp
  have l1 := F.lk
  obtain ⟨oc, od, dV, kV, doc, pm, an, cdv, ct, osl, e, lk, hcd, _, _⟩ := F.ex
  subst e
  obtain ⟨c, rfl⟩ := He.codeIn_ref hcd
  have ec : He.codeOf K (x, none) = c := He.codeOf_eq (p := (x, none)) lk rfl
  rw [ec] at hbody
  refine ⟨_, fn_of lk hcd S len fun A outer s H vs Q E hr h => ?_, b1, g, k1, l1⟩
  obtain ⟨t, h1, h2⟩ := hbody _ A outer s H vs Q E hr h
  exact ⟨t, h1.nox, h2⟩
theorem iss_pushE {O : List Addr} {H : Hp} {p : Addr} {o : HO} (hp : H p = none) : ∀ a u, hid O H a = some u → hid (p :: O) (upd H p o) a = some u := fun a u e => by
  obtain ⟨n, e⟩ := hid_some e
  have na : a ≠ p := ne_of_none e hp
  rw [hid_out (by simp only [List.mem_cons, not_or]; exact ⟨na, n⟩), upd_ne na]
  exact e
section
variable {S : Sys} {ρ : DEnv}
/-- dict(pairs), the dict to be changed later -/
theorem evs_dictP {t : TA} {Q : Sl → Prop} (h : EvA S t ρ fun ds => ∃ ps : List (Key × D), ds = [.lst (ps.map fun p => .tup [keyD p.1, p.2])] ∧ Q (.ownK (foldD [] ps))) : EvS S (tCB (rDictP S.K) t) ρ Q := fun O σ H I Qv k => by
  refine h O σ H I _ fun ds vs H1 l1 t1 hi ⟨ps, e, q⟩ => ?_
  have I1 := I.le l1 t1
  rw [e] at hi
  clear e
  obtain ⟨v, ws, rfl, j1, j2⟩ := iss_cons hi
  obtain rfl := iss_nil j2
  obtain ⟨a, us, rfl, hs, is⟩ := is_lst j1
  obtain ⟨as, kvs, rfl, pr, kv⟩ := pairs_dict is
  refine ⟨a, as, kvs, rfl, sqL_hid hs, pr, fun p hp => ?_⟩
  have np : p ∉ O := fun m => I1.live p m hp
  have np0 : H p = none := by
    cases e : H p with
    | none => rfl
    | some o =>
      rw [l1 p o (fun m => np (I.sub p m)) e] at hp
      cases hp
  have kv2 := (kv_merge kv .nil).ex (iss_pushE hp (o := .dK (mergeK [] kvs)) (O := O))
  exact k (.ownK (foldD [] ps)) (.ref p) _ ⟨l1.trans (Le.same (Same.upd hp)), S.same _ _ (Same.upd hp) t1, .inr ⟨rfl, p, rfl, np0, by rw [upd_same]; exact fun z => (by cases z), _, upd_same, kv2.keys, kv2.vals⟩⟩ q
end
end NB

end PART_NB32
section PART_NB33
set_option Elab.async false
set_option linter.all false
set_option maxRecDepth 100000
set_option maxHeartbeats 4000000
set_option pp.maxSteps 400
/-! NB33: lambdas as values: made, called from anywhere -/
namespace Fv
open PySem PySem.Spec PyProof.Rows L2 LamX NB
open Xm (ExtP known)
open PySem.W (Frag)
/-- a lambda as it stands in the text -/
structure Lam where
  params : Arguments
  body : Expr
  scope : Scope
/-- the tuple of its defaults -/
def dtV : Option Addr → Value
  | none => .none
  | some T => .ref T
def LamP1 (f : Addr) (q : Str) (L : Lam) (cl : List (Str × Addr)) (c : Addr) (dt : Option Addr) (h : Heap) : Prop := ∃ doc pm ct : Value, h.get? f = some (PySem.W.kdv_obj "<lambda>" q L.params (.expr L.body) L.scope cl (dtV dt) doc pm c ct)
/-- a function made of it: its closure's cells, its code object, the tuple of its defaults -/
def LamO (f : Addr) (q : Str) (L : Lam) (cl : List (Str × Addr)) (c : Addr) (dt : Option Addr) : HO := .ext (LamP1 f q L cl c dt)
/-- a tuple of one value -/
def TupO (T : Addr) : HO := .ext fun h => ∃ (u : Value) (o : Obj) (n : Nat), h.get? T = some o ∧ o.data = .seq #[u] n
/-! ### objects known for a while -/
def kn (cs : List (Addr × Obj)) (H : Hp) : Hp := cs.foldr (fun p H => upd H p.1 (known p.2)) H
def fg (cs : List (Addr × Obj)) (H : Hp) : Hp := cs.foldr (fun p H => del H p.1) H
theorem kn_out {H : Hp} {a : Addr} : ∀ {cs : List (Addr × Obj)}, a ∉ cs.map (·.1) → kn cs H a = H a
  | [], _ => rfl
  | p :: r, h => by
    have h1 : a ≠ p.1 := fun z => h (by rw [z]; exact List.mem_cons_self)
    show upd (kn r H) p.1 (known p.2) a = H a
    rw [upd_ne h1]
    exact kn_out fun m => h (List.mem_cons_of_mem _ m)
theorem kn_in {H : Hp} {p : Addr × Obj} : ∀ {cs : List (Addr × Obj)}, (cs.map (·.1)).Nodup → p ∈ cs → kn cs H p.1 = some (known p.2)
  | q :: r, n, h => by
    rw [List.map_cons, List.nodup_cons] at n
    rcases List.mem_cons.mp h with rfl | h
    · exact upd_same
    · have h1 : p.1 ≠ q.1 := fun z => n.1 (by rw [← z]; exact List.mem_map.mpr ⟨p, h, rfl⟩)
      show upd (kn r H) q.1 (known q.2) p.1 = _
      rw [upd_ne h1]
      exact kn_in n.2 h
theorem fg_out {H : Hp} {a : Addr} : ∀ {cs : List (Addr × Obj)}, a ∉ cs.map (·.1) → fg cs H a = H a
  | [], _ => rfl
  | p :: r, h => by
    have h1 : a ≠ p.1 := fun z => h (by rw [z]; exact List.mem_cons_self)
    show del (fg r H) p.1 a = H a
    rw [del_ne h1]
    exact fg_out fun m => h (List.mem_cons_of_mem _ m)
theorem fg_in {H : Hp} {a : Addr} : ∀ {cs : List (Addr × Obj)}, a ∈ cs.map (·.1) → fg cs H a = none
  | p :: r, h => by
    show del (fg r H) p.1 a = none
    by_cases e : a = p.1
    · rw [e]; exact del_same
    · rw [del_ne e]
      rcases List.mem_cons.mp h with z | h
      · exact absurd z e
      · exact fg_in h
theorem hok_kn {P : Program} {w : World} {h : Heap} : ∀ {cs : List (Addr × Obj)} {H : Hp}, (cs.map (·.1)).Nodup → HOk P w H h → (∀ p ∈ cs, h.get? p.1 = some p.2 ∧ H p.1 = none) → HOk P w (kn cs H) h
  | [], _, _, x, _ => x
  | p :: r, H, n, x, c => by
    rw [List.map_cons, List.nodup_cons] at n
    have ih := hok_kn n.2 x fun q hq => c q (List.mem_cons_of_mem _ hq)
    obtain ⟨c1, c2⟩ := c p List.mem_cons_self
    have e : kn r H p.1 = none := by rw [kn_out n.1]; exact c2
    exact Xm.hok_know ih c1 e
theorem hok_fg {P : Program} {w : World} {h : Heap} : ∀ {cs : List (Addr × Obj)} {H : Hp}, (cs.map (·.1)).Nodup → HOk P w H h → (∀ p ∈ cs, H p.1 = some (known p.2)) → HOk P w (fg cs H) h
  | [], _, _, x, _ => x
  | p :: r, H, n, x, c => by
    rw [List.map_cons, List.nodup_cons] at n
    have ih := hok_fg n.2 x fun q hq => c q (List.mem_cons_of_mem _ hq)
    have e : fg r H p.1 = some (known p.2) := by rw [fg_out n.1]; exact c p List.mem_cons_self
    exact Xm.hok_forget ih e
theorem cs_or (cs : List (Addr × Obj)) (a : Addr) : (∃ o, (a, o) ∈ cs) ∨ a ∉ cs.map (·.1) := by
  by_cases h : a ∈ cs.map (·.1)
  · obtain ⟨p, hp, e⟩ := List.mem_map.mp h
    exact .inl ⟨p.2, by rw [← e]; exact hp⟩
  · exact .inr h
theorem mem_fst {cs : List (Addr × Obj)} {p : Addr × Obj} (h : p ∈ cs) : p.1 ∈ cs.map (·.1) := List.mem_map.mpr ⟨p, h, rfl⟩
/-- a step beneath, with the objects forgotten, is one where they are known -/
theorem un_kn {fs : List Addr} {cs : List (Addr × Obj)} {HZ H' : Hp} {h h' : Heap} (n : (cs.map (·.1)).Nodup) (u : Un fs [] (fg cs HZ) H' h h') (c : ∀ p ∈ cs, HZ p.1 = some (known p.2)) : Un fs [] HZ (kn cs H') h h' := by
  have out : ∀ {b : Addr}, HZ b = none → b ∉ cs.map (·.1) := fun e m => by
    obtain ⟨p, hp, z⟩ := List.mem_map.mp m
    rw [← z, c p hp] at e
    cases e
  have nk : ∀ {b : Addr} {o : HO}, HZ b = some o → (∀ ob, o ≠ known ob) → b ∉ cs.map (·.1) := fun e q m => by
    obtain ⟨p, hp, z⟩ := List.mem_map.mp m
    rw [← z, c p hp] at e
    exact q _ (Option.some.inj e).symm
  refine ⟨fun b o e z => u.keep b o e (by rw [fg_out (out z)]; exact z), fun b o e z => u.slot b o e (by rw [fg_out (out z)]; exact z), fun b o e z hx => ?_, fun b o e hx => u.there b o e hx, fun b xs e => ?_, fun b o v e => ?_, fun b ps e => ?_⟩
  · rw [kn_out (out z)]
    exact u.free b o e (by rw [fg_out (out z)]; exact z) hx
  · have m := nk e fun _ y => by cases y
    rw [kn_out m]
    exact u.tups b xs (by rw [fg_out m]; exact e)
  · rcases cs_or cs b with ⟨ob, hb⟩ | m
    · have e2 := c _ hb
      rw [e] at e2
      rw [e2]
      exact kn_in n hb
    · rw [kn_out m]
      exact u.frzs b o v (by rw [fg_out m]; exact e)
  · have m := nk e fun _ y => by cases y
    rw [kn_out m]
    exact u.tbls b ps (by rw [fg_out m]; exact e)
theorem ub_kn {fs : List Addr} {cs : List (Addr × Obj)} {HZ H' : Hp} {h B h' : Heap} (n : (cs.map (·.1)).Nodup) (u : UB fs (fg cs HZ) H' h B h') (c : ∀ p ∈ cs, HZ p.1 = some (known p.2)) : UB fs HZ (kn cs H') h B h' := by
  have out : ∀ {b : Addr}, HZ b = none → b ∉ cs.map (·.1) := fun e m => by
    obtain ⟨p, hp, z⟩ := List.mem_map.mp m
    rw [← z, c p hp] at e
    cases e
  have nk : ∀ {b : Addr} {o : HO}, HZ b = some o → (∀ ob, o ≠ known ob) → b ∉ cs.map (·.1) := fun e q m => by
    obtain ⟨p, hp, z⟩ := List.mem_map.mp m
    rw [← z, c p hp] at e
    exact q _ (Option.some.inj e).symm
  refine ⟨fun b o e z => u.keep b o e (by rw [fg_out (out z)]; exact z), u.slot, fun b o e z => ?_, u.there, fun b xs e => ?_, fun b o v e => ?_, fun b ps e => ?_⟩
  · rw [kn_out (out z)]
    exact u.free b o e (by rw [fg_out (out z)]; exact z)
  · have m := nk e fun _ y => by cases y
    rw [kn_out m]
    exact u.tups b xs (by rw [fg_out m]; exact e)
  · rcases cs_or cs b with ⟨ob, hb⟩ | m
    · have e2 := c _ hb
      rw [e] at e2
      rw [e2]
      exact kn_in n hb
    · rw [kn_out m]
      exact u.frzs b o v (by rw [fg_out m]; exact e)
  · have m := nk e fun _ y => by cases y
    rw [kn_out m]
    exact u.tbls b ps (by rw [fg_out m]; exact e)
/-- a step beneath, with the objects known, is one where they are untracked -/
theorem un_fg {fs : List Addr} {cs : List (Addr × Obj)} {H H' : Hp} {h h' : Heap} (n : (cs.map (·.1)).Nodup) (u : Un fs [] (kn cs H) H' h h') (hok : ∀ p ∈ cs, h'.get? p.1 = some p.2) (c : ∀ p ∈ cs, h.get? p.1 = some p.2 ∧ H p.1 = none) : Un fs [] H (fg cs H') h h' := by
  have nk : ∀ {b : Addr} {o : HO}, H b = some o → b ∉ cs.map (·.1) := fun e m => by
    obtain ⟨p, hp, z⟩ := List.mem_map.mp m
    rw [← z, (c p hp).2] at e
    cases e
  refine ⟨fun b o e z nf hx => ?_, fun b o e z hf hx => ?_, fun b o e z hx => ?_, fun b o e hx => u.there b o e hx, fun b xs e => ?_, fun b o v e => ?_, fun b ps e => ?_⟩
  · rcases cs_or cs b with ⟨ob, hb⟩ | m
    · have e1 := (c _ hb).1
      rw [e] at e1
      rw [hok _ hb, e1]
    · exact u.keep b o e (by rw [kn_out m]; exact z) nf hx
  · rcases cs_or cs b with ⟨ob, hb⟩ | m
    · have e1 := (c _ hb).1
      rw [e] at e1
      rw [hok _ hb, ← Option.some.inj e1]
      exact ⟨o.slots, rfl⟩
    · exact u.slot b o e (by rw [kn_out m]; exact z) hf hx
  · rcases cs_or cs b with ⟨ob, hb⟩ | m
    · exact fg_in (mem_fst hb)
    · rw [fg_out m]
      exact u.free b o e (by rw [kn_out m]; exact z) hx
  · rw [fg_out (nk e)]
    exact u.tups b xs (by rw [kn_out (nk e)]; exact e)
  · rw [fg_out (nk e)]
    exact u.frzs b o v (by rw [kn_out (nk e)]; exact e)
  · rw [fg_out (nk e)]
    exact u.tbls b ps (by rw [kn_out (nk e)]; exact e)
/-! ### what a lambda's scope is -/
structure LamP (sc : Scope) (L : Lam) (ps : List Str) : Prop where
  kind : L.scope.kind = .function
  co : L.scope.isCoroutine = false
  gen : L.scope.isGenerator = false
  cell : ∀ y ∈ L.scope.names, y.2 ≠ .cell
  own : ∀ y ∈ L.scope.names, y.2 = .local → y.1 ∈ ps
  par : ∀ y ∈ ps, L.scope.names.lookup y = some .local
  free : ∀ y ∈ L.scope.names, y.2 = .free → sc.names.lookup y.1 = some .cell ∨ sc.names.lookup y.1 = some .free
def lamPB (sc : Scope) (L : Lam) (ps : List Str) : Bool :=
  decide (L.scope.kind = .function) && !L.scope.isCoroutine && !L.scope.isGenerator && (L.scope.names.all fun y => !decide (y.2 = .cell) && (!decide (y.2 = .local) || decide (y.1 ∈ ps)) && (!decide (y.2 = .free) || decide (sc.names.lookup y.1 = some .cell) || decide (sc.names.lookup y.1 = some .free))) && ps.all fun y => decide (L.scope.names.lookup y = some .local)
theorem lamP_by {sc : Scope} {L : Lam} {ps : List Str} (h : lamPB sc L ps = true) : LamP sc L ps := by
  unfold lamPB at h
  simp only [Bool.and_eq_true, Bool.or_eq_true, Bool.not_eq_true', decide_eq_true_eq, decide_eq_false_iff_not, List.all_eq_true] at h
  obtain ⟨⟨⟨⟨h1, h2⟩, h3⟩, h4⟩, h5⟩ := h
  refine ⟨h1, h2, h3, fun y hy => (h4 y hy).1.1, fun y hy e => ?_, h5, fun y hy e => ?_⟩
  · rcases (h4 y hy).1.2 with z | z
    · exact absurd e z
    · exact z
  · rcases (h4 y hy).2 with (z | z) | z
    · exact absurd e z
    · exact .inl z
    · exact .inr z
theorem LamP.has {X : Cx} {L : Lam} {ps : List Str} (Lp : LamP X.env.scope L ps) (ok : X.Ok) : ∀ y ∈ L.scope.names, y.2 = .free → ∃ c, X.env.cells.lookup y.1 = some c := fun y hy e => by
  rcases Lp.free y hy e with k | k
  · exact ok.has _ (.inl k)
  · exact ok.has _ (.inr k)
/-- how it binds no argument -/
inductive LamBd (L : Lam) : List Str → Prop
  | no (h0 : L.params.defaults.isEmpty = true) (hb : ∀ (q : Str) (cl : List (Str × Addr)) (doc pm cv ct : Value), bindArgs (PySem.W.kdv_fn "<lambda>" q L.params (.expr L.body) L.scope cl .none doc pm cv ct) ⟨[], []⟩ = pure []) : LamBd L []
  | one (p : Str) (h0 : L.params.defaults.isEmpty = false) (hb : ∀ (q : Str) (cl : List (Str × Addr)) (T : Addr) (doc pm cv ct : Value), ∃ k, bindArgs (PySem.W.kdv_fn "<lambda>" q L.params (.expr L.body) L.scope cl (.ref T) doc pm cv ct) ⟨[], []⟩ = seqItems? (.ref T) >>= k ∧ ∀ u, k (some #[u]) = pure [(p, u)]) : LamBd L [p]
/-- at f stands a function made of L -/
def LamAt (H : Hp) (f : Addr) (q : Str) (L : Lam) (cl : List (Str × Addr)) : Prop := ∃ c dt, H f = some (LamO f q L cl c dt) ∧ H c = some (CodeO c q) ∧ (∀ T, dt = some T → H T = some (TupO T)) ∧ dt.isNone = L.params.defaults.isEmpty
/-! ### made -/
section
variable {X : Cx} {pins : List (Addr × Obj)} {σ : L2.St} {H : Hp} {s : Shared}
theorem inv_lam {q : Str} {L : Lam} {cl : List (Str × Addr)} {c : Addr} {dt : Option Addr} {o : Obj} {t' : Nat} {doc pm ct : Value} (I : Inv X pins σ H s) (ho : o = PySem.W.kdv_obj "<lambda>" q L.params (.expr L.body) L.scope cl (dtV dt) doc pm c ct) :
    Inv X pins σ (upd H s.heap.objs.size (LamO s.heap.objs.size q L cl c dt)) { s with heap := s.heap.push o, toks := t' } := by
  subst ho
  refine I.laid (a := s.heap.objs.size) (fun b u e => Heap.get?_push_of_some _ e) (Nat.le_refl _) ?_
  have e : (s.heap.push (PySem.W.kdv_obj "<lambda>" q L.params (.expr L.body) L.scope cl (dtV dt) doc pm c ct)).get? s.heap.objs.size = some (PySem.W.kdv_obj "<lambda>" q L.params (.expr L.body) L.scope cl (dtV dt) doc pm c ct) := Heap.get?_push_size _ rfl
  exact ⟨⟨doc, pm, ct, e⟩, ⟨_, e⟩, fun h1 h2 ⟨d, p, t, z⟩ st => ⟨d, p, t, st _ z⟩⟩
theorem lam_tail {L : Lam} {c P : Addr} {dt : Option Addr} {pos : Pos} {E : Value → Shared → Prop} {Q : Value → Shared → Prop} (I : Inv X pins σ H s) (TB : TabB X.base X.mg c P) (hcode : X.env.code = .ref c)
    (hT : TabS H P (X.env.qual ++ "<lambda>")) (hfree : ∀ y ∈ L.scope.names, y.2 = .free → ∃ c, X.env.cells.lookup y.1 = some c)
    (h : ∀ (f c' : Addr) (H1 : Hp) (s' : Shared), Inv X pins σ H1 s' → ExtP P H H1 → TabS H1 P (X.env.qual ++ "<lambda>") → H f = none →
      H1 f = some (LamO f (X.env.qual ++ "<lambda>") L (cloFrom X.env.cells L.scope.names []) c' dt) → H1 c' = some (CodeO c' (X.env.qual ++ "<lambda>")) → Q (.ref f) s') :
    wpAny (model X.prog X.w) X.A (makeTail "<lambda>" (X.env.qual ++ "<lambda>") L.params (.expr L.body) L.scope X.env (dtV dt) .none none pos pos.line) Q E s := by
  obtain ⟨ps, hP, ht, ha⟩ := hT
  have bP : s.heap.BuiltinsAt X.mg P := TB.bm.keeps I.bk
  have hP' : s.heap.get? P = some { cls := .none, data := .fields ps } := I.hok P _ hP
  cases hc : codeAmong pos ps.toList with
  | some cv =>
    obtain ⟨c', rfl, hco⟩ := ha pos cv hc
    refine PySem.W.kdv_makeTailHit (mg := X.mg) (c := c) (P := P) (ps := ps) (closure_ok hfree) I.ok.glob (I.mod.glob.keeps I.bk) hcode (TB.code.keeps I.bk) hP' ht hc bP fun ctv doc h' tk hx hsz => ?_
    have I1 : Inv X pins σ H { s with heap := h', toks := tk } := I.kept hx
    have nF : H h'.objs.size = none := I1.hok.fresh (Nat.le_refl _)
    have I2 := inv_lam (q := X.env.qual ++ "<lambda>") (L := L) (cl := cloFrom X.env.cells L.scope.names []) (c := c') (dt := dt) (t' := tk) (doc := doc) (pm := (X.mg "__name__").getD .none) (ct := ctv) I1 rfl
    have keep : ∀ b o, H b = some o → upd H h'.objs.size (LamO h'.objs.size (X.env.qual ++ "<lambda>") L (cloFrom X.env.cells L.scope.names []) c' dt) b = some o := fun b o e => by
      rw [upd_ne (ne_of_none e nF)]
      exact e
    exact h h'.objs.size c' _ _ I2 (fun b o _ e => keep b o e) ⟨ps, keep _ _ hP, ht, fun p' cv' hc' => by
      obtain ⟨c0, e1, e2⟩ := ha p' cv' hc'
      exact ⟨c0, e1, keep _ _ e2⟩⟩ nF upd_same (keep _ _ hco)
  | none =>
    refine PySem.W.kdv_makeTail (mg := X.mg) (c := c) (P := P) (ps := ps) (closure_ok hfree) I.ok.glob (I.mod.glob.keeps I.bk) hcode (TB.code.keeps I.bk) hP' ht hc TB.gP bP fun c' ctv doc h' tk hx hge hlt hrec htb => ?_
    obtain ⟨c2, oc, vs, t, e2, hoc, hd, hv⟩ := hrec
    cases e2
    have nC : H c' = none := I.hok.fresh hge
    have I1 := inv_table (t' := tk) (more := #[rawInt pos.line, rawInt pos.col, .ref c']) (q := X.env.qual ++ "<lambda>") (h' := h') I hP (fun b o hb e => hx b o hb e) htb hge ⟨oc, vs, t, hoc, hd, hv⟩
    have nF1 : upd (upd H P (.tbl (ps ++ #[rawInt pos.line, rawInt pos.col, .ref c']))) c' (CodeO c' (X.env.qual ++ "<lambda>")) h'.objs.size = none := I1.hok.fresh (Nat.le_refl _)
    have up0 : ∀ {H : Hp} {a b : Addr} {o : HO}, upd H a o b = none → H b = none := fun {H a b o} e => by
      unfold upd at e
      split at e
      · cases e
      · exact e
    have nF : H h'.objs.size = none := up0 (up0 nF1)
    have I2 := inv_lam (q := X.env.qual ++ "<lambda>") (L := L) (cl := cloFrom X.env.cells L.scope.names []) (c := c') (dt := dt) (t' := tk) (doc := doc) (pm := (X.mg "__name__").getD .none) (ct := ctv) I1 rfl
    have nPT : ∀ {b : Addr} {q : Str}, H b = some (CodeO b q) → b ≠ P := fun z y => by
      rw [y, hP] at z
      exact codeO_ne ps (Option.some.inj z).symm
    have eL : (ps ++ #[rawInt pos.line, rawInt pos.col, .ref c']).toList = ps.toList ++ [rawInt pos.line, rawInt pos.col, .ref c'] := by simp
    have k1 : ∀ {b : Addr} {o : HO}, upd (upd H P (.tbl (ps ++ #[rawInt pos.line, rawInt pos.col, .ref c']))) c' (CodeO c' (X.env.qual ++ "<lambda>")) b = some o → upd (upd (upd H P (.tbl (ps ++ #[rawInt pos.line, rawInt pos.col, .ref c']))) c' (CodeO c' (X.env.qual ++ "<lambda>"))) h'.objs.size (LamO h'.objs.size (X.env.qual ++ "<lambda>") L (cloFrom X.env.cells L.scope.names []) c' dt) b = some o := fun {b o} e => by
      rw [upd_ne (ne_of_none e nF1)]
      exact e
    have k0 : ∀ {b : Addr} {o : HO}, b ≠ P → H b = some o → upd (upd H P (.tbl (ps ++ #[rawInt pos.line, rawInt pos.col, .ref c']))) c' (CodeO c' (X.env.qual ++ "<lambda>")) b = some o := fun {b o} nb e => by
      rw [upd_ne (ne_of_none e nC), upd_ne nb]
      exact e
    refine h h'.objs.size c' _ _ I2 (fun b o nb e => k1 (k0 nb e)) ⟨_, k1 (by rw [upd_ne (ne_of_none hP nC), upd_same]), by rw [eL]; exact PySem.TriplesOk_snoc _ _ _ _ ht, fun p' cv hcv => ?_⟩ nF upd_same (k1 upd_same)
    rw [eL] at hcv
    rcases among_app _ ht hcv with z | z
    · obtain ⟨c0, e1, e2⟩ := ha p' cv z
      exact ⟨c0, e1, k1 (k0 (nPT e2) e2)⟩
    · exact ⟨c', z, k1 upd_same⟩
end
/-- the reading of a lambda as a value -/
def tLamV (P : Addr) (q : Str) (L : Lam) (cl : List (Str × Addr)) : TE := fun _ H Q => TabS H P q ∧ ∀ (f : Addr) (H2 : Hp), ExtP P H H2 → TabS H2 P q → H f = none → LamAt H2 f q L cl → Q (.ref f) H2
theorem pe_lamV {X : Cx} {L : Lam} {ps : List Str} {c P : Addr} {pos : Pos} (TB : TabB X.base X.mg c P) (hcode : X.env.code = .ref c) (Lp : LamP X.env.scope L ps) (hd : L.params.defaults = [] ∨ ∃ j p0, L.params.defaults = [.Constant (.int 0) j p0]) (hk0 : L.params.kw_defaults = []) :
    PE X (.Lambda L.params L.body L.scope pos) (tLamV P (X.env.qual ++ "<lambda>") L (cloFrom X.env.cells L.scope.names [])) := by
  refine ⟨fun pins s σ H Q I ⟨hT, h⟩ => ?_⟩
  rcases hd with hd | ⟨j, p0, hd⟩
  · refine PySem.W.kla_eval (by rw [defaultsOf_eq, hd, hk0]; rfl) ?_
    rw [makeFunction_eq]
    simp only [List.zip_nil_right, List.filterMap_nil, List.isEmpty_nil, if_true, pure_bind]
    exact lam_tail (dt := none) I TB hcode hT (Lp.has I.ok) fun f c' H1 s' I1 ex T1 nf hf hc => ⟨.ref f, H1, I1, rfl, h f H1 ex T1 nf ⟨c', none, hf, hc, fun _ z => (by cases z), by rw [hd]; rfl⟩⟩
  · refine PySem.W.kdv_lam (by rw [hd]; rfl) hk0 ?_
    rw [hd]
    refine PySem.W.kdv_all1 (thn ((pe_int (X := X)).run pins s σ H (fun v H1 => v = .int 0 ∧ H1 = H) I ⟨rfl, rfl⟩) fun u s1 ⟨v, H1, I1, r, ev, eH⟩ => PySem.W.kdv_all0 ?_)
    subst ev
    subst eH
    rw [makeFunction_eq]
    simp only [List.zip_nil_right, List.filterMap_nil, List.isEmpty_nil, if_true, pure_bind, List.isEmpty_cons, Bool.false_eq_true, if_false]
    refine wpAny_bind (wpAny_newTextTuple ?_)
    have nT : H1 s1.heap.objs.size = none := I1.hok.fresh (Nat.le_refl _)
    have I2 : Inv X pins σ (upd H1 s1.heap.objs.size (TupO s1.heap.objs.size)) { s1 with heap := s1.heap.push { cls := .type "tuple", data := .seq [u].toArray } } := I1.laid (t' := s1.toks) (fun b u e => Heap.get?_push_of_some _ e) (Nat.le_refl _) ⟨⟨u, _, _, Heap.get?_push_size _ rfl, rfl⟩, ⟨_, Heap.get?_push_size _ rfl⟩, fun h1 h2 ⟨u, o, n, e1, e2⟩ st => ⟨u, o, n, st _ e1, e2⟩⟩
    have up : ∀ b o, H1 b = some o → upd H1 s1.heap.objs.size (TupO s1.heap.objs.size) b = some o := fun b o e => by
      rw [upd_ne (ne_of_none e nT)]
      exact e
    obtain ⟨tb, hP, ht, ha⟩ := hT
    have nTP : s1.heap.objs.size ≠ P := fun z => by rw [z, hP] at nT; cases nT
    refine lam_tail (dt := some s1.heap.objs.size) I2 TB hcode ⟨tb, up _ _ hP, ht, fun p' cv hc => ?_⟩ (Lp.has I1.ok) fun f c' H2 s' I3 ex T1 nf hf hc => ⟨.ref f, H2, I3, rfl, h f H2 (fun b o nb e => ex b o nb (up b o e)) T1 ?_ ⟨c', _, hf, hc, fun T z => ?_, by rw [hd]; rfl⟩⟩
    · obtain ⟨c0, e1, e2⟩ := ha p' cv hc
      exact ⟨c0, e1, up _ _ e2⟩
    · cases e : H1 f with
      | none => rfl
      | some o => rw [up _ _ e] at nf; cases nf
    · cases z
      exact ex _ _ nTP upd_same
end Fv

end PART_NB33
section PART_NB34
set_option Elab.async false
set_option linter.all false
set_option maxRecDepth 100000
set_option maxHeartbeats 4000000
set_option pp.maxSteps 400
/-! NB34: a lambda's body, run from anywhere; _law_tries -/
namespace Fv
open PySem PySem.Spec PyProof.Rows L2 LamX NB
open Xm (ExtP known)
open PySem.W (Frag)
/-- the cells of X, as they stand where the slots hold σ -/
structure Clo (X : Cx) (σ : L2.St) (cs : List (Addr × Obj)) : Prop where
  ok : X.Ok
  len : σ.length = X.N.length
  nd : (cs.map (·.1)).Nodup
  cell : ∀ y c, X.env.cells.lookup y = some c → ∃ o v, (c, o) ∈ cs ∧ o.data = .cell v
  val : ∀ (i : Nat) (y : Str) (v : V) (c : Addr), X.N[i]? = some y → σ[i]? = some (some v) → X.env.cells.lookup y = some c → (X.env.scope.names.lookup y = some .cell ∨ X.env.scope.names.lookup y = some .free) → ∃ o u, (c, o) ∈ cs ∧ o.data = .cell (some u) ∧ RelV v u
  base : ∀ p ∈ cs, X.base.get? p.1 = none
theorem nodup_val {cs : List (Addr × Obj)} (n : (cs.map (·.1)).Nodup) {a : Addr} {o o' : Obj} (h : (a, o) ∈ cs) (h' : (a, o') ∈ cs) : o = o' := by
  induction cs with
  | nil => cases h
  | cons p r ih =>
    rw [List.map_cons, List.nodup_cons] at n
    have key : ∀ {x : Obj}, (a, x) ∈ r → a ∈ r.map (·.1) := fun hx => List.mem_map.mpr ⟨_, hx, rfl⟩
    rcases List.mem_cons.mp h with e | h
    · rcases List.mem_cons.mp h' with e' | h'
      · rw [← e] at e'
        exact (Prod.mk.inj e').2.symm
      · have z := key h'
        have e0 : p.1 = a := by rw [← e]
        rw [← e0] at z
        exact absurd z n.1
    · rcases List.mem_cons.mp h' with e' | h'
      · have z := key h
        have e0 : p.1 = a := by rw [← e']
        rw [← e0] at z
        exact absurd z n.1
      · exact ih n.2 h h'
section
variable {X : Cx} {σ σ' : L2.St} {cs : List (Addr × Obj)} {L : Lam} {ps : List Str}
theorem lam_startP {A : Around} {outer : List Env} {E : XK} {f c' : Addr} {h₁ : Heap} {tk : Nat} {HZ : Hp} {s1 : Shared} {bs : List (Str × Value)} (C : Clo X σ cs) (Lp : LamP X.env.scope L ps) (hl : σ'.length = σ.length) (hw : ∀ (i : Nat) (v : V), σ'[i]? = some (some v) → σ[i]? = some (some v) ∧ ∀ y, X.N[i]? = some y → y ∉ ps)
    (e0 : Env0 X.prog X.w X.K X.mg X.base A outer s1 HZ) (hd : A.handled = none) (hcs : ∀ p ∈ cs, s1.heap.get? p.1 = some p.2 ∧ HZ p.1 = none)
    (hns : h₁.Ns s1.heap.objs.size fun y => bs.reverse.lookup y) (kp : ∀ b o, s1.heap.get? b = some o → h₁.get? b = some o) :
    Inv (lamCx X A outer s1 HZ E L.scope f c') [] σ' HZ { s1 with heap := h₁, toks := tk } := by
  have hfree := Lp.has C.ok
  have cm : ∀ {y c}, (cloFrom X.env.cells L.scope.names []).lookup y = some c → X.env.cells.lookup y = some c := fun {y c} e => by
    rcases cloFrom_mem (PySem.mem_of_lookup e) with hm | ⟨h1, h2⟩
    · cases hm
    · obtain ⟨c1, hc⟩ := hfree _ h1 rfl
      have hc : X.env.cells.lookup y = some c1 := hc
      have e2 : c = c1 := by
        rw [h2, hc] <;> rfl
      rw [e2]
      exact hc
  have look : ∀ {y}, L.scope.names.lookup y = some .free → ∃ c, (cloFrom X.env.cells L.scope.names []).lookup y = some c := fun {y} hl => by
    have hy : (y, NameKind.free) ∈ L.scope.names := PySem.mem_of_lookup hl
    exact mem_lookup (cloFrom_has (cells := X.env.cells) (acc := []) hy)
  have noA : ∀ b : Addr, b ∉ (lamCx X A outer s1 HZ E L.scope f c').ex := fun b z => absurd (show b ∈ ([] : List Addr) from z) (by simp)
  refine ⟨⟨e0.mod, Lp.kind, rfl, rfl, Nat.le_refl _, fun y z c e1 e2 => C.ok.inj y z c (cm e1) (cm e2), fun y hy => ?_, fun y c z _ => ?_, fun _ => hd, Around.frames_deeper e0.frames, .inr ⟨rfl, rfl⟩, fun b z => absurd z (noA b), e0.bs, e0.bsz, fun b _ _ => noA b,
      fun b z => absurd z (noA b), e0.funs, e0.frf⟩,
    rfl, e0.bare, Un.kept kp, ⟨_, hns, fun i y v e1 e2 e3 => ?_⟩, fun y c e => ?_, e0.hok.fresh (Nat.le_refl _), fun y c e => ?_, fun q hq => absurd (show q ∈ ([] : List (Addr × Obj)) ++ [] from hq) (by simp), e0.hok.kept kp, hl.trans C.len⟩
  · have hy : L.scope.names.lookup y = some .cell ∨ L.scope.names.lookup y = some .free := hy
    rcases hy with hy | hy
    · exact absurd rfl (Lp.cell _ (PySem.mem_of_lookup hy))
    · exact look hy
  · have z : false = true := z
    cases z
  · have e3 : Vis L.scope y := e3
    obtain ⟨e2, np⟩ := hw i v e2
    rcases e3 with k | k | k
    · exact absurd (Lp.own _ (PySem.mem_of_lookup k) rfl) (np y e1)
    · exact absurd rfl (Lp.cell _ (PySem.mem_of_lookup k))
    · obtain ⟨c2, h2⟩ := look k
      have c1 := cm h2
      obtain ⟨o, u, ho, hd, r⟩ := C.val i y v c2 e1 e2 c1 (Lp.free _ (PySem.mem_of_lookup k) rfl)
      exact ⟨u, r, .inr ⟨.inr k, c2, h2, o, kp _ _ (hcs _ ho).1, hd⟩⟩
  · obtain ⟨o, v, ho, hd⟩ := C.cell y c (cm e)
    exact ⟨v, o, kp _ _ (hcs _ ho).1, hd⟩
  · obtain ⟨o, v, ho, hd⟩ := C.cell y c (cm e)
    exact (hcs _ ho).2
/-- what the known cells are, in a state -/
theorem run_lam {A : Around} {outer : List Env} {s1 : Shared} {HZ : Hp} {f : Addr} {k : Nat} {Q : VK} {E : XK} {t : TE} (C : Clo X σ cs) (Lp : LamP X.env.scope L ps) (Lb : LamBd L ps) (hl : σ'.length = σ.length) (hw : ∀ (i : Nat) (v : V), σ'[i]? = some (some v) → σ[i]? = some (some v) ∧ ∀ y, X.N[i]? = some y → y ∉ ps)
    (hr : Room (k + 1) A) (e0 : Env0 X.prog X.w X.K X.mg X.base A outer s1 HZ) (hk : ∀ p ∈ cs, HZ p.1 = some (known p.2)) (hf : LamAt HZ f (X.env.qual ++ "<lambda>") L (cloFrom X.env.cells L.scope.names []))
    (hbody : ∀ (A : Around) (outer : List Env) (s : Shared) (H : Hp) (f c' : Addr), Room k (A.deeper (lamEnv X L.scope s.heap.objs.size f c')) → PE (lamCx X A outer s H (fun cls d H' => (∀ p ∈ cs, H' p.1 = none) → E cls d (kn cs H')) L.scope f c') L.body t)
    (ht : t σ' (fg cs HZ) fun v H' => (∀ p ∈ cs, H' p.1 = none) → Q v (kn cs H')) : codeAny (model X.prog X.w) A (.call (.ref f) ⟨[], []⟩) (CR (L2.CX X.prog X.w) outer X.prog X.w HZ s1 Q E) s1 := by
  obtain ⟨c, dt, h1, h2, h3, h4⟩ := hf
  obtain ⟨⟨doc, pm, ct, of1⟩, _, _⟩ := e0.hok f _ h1
  obtain ⟨⟨oc, vs, tt, hoc, hdc, hvc⟩, _, _⟩ := e0.hok c _ h2
  have binds : ∃ bs : List (Str × Value), BindsTo s1 (PySem.W.kdv_fn "<lambda>" (X.env.qual ++ "<lambda>") L.params (.expr L.body) L.scope (cloFrom X.env.cells L.scope.names []) (dtV dt) doc pm (.ref c) ct) ⟨[], []⟩ bs ∧ bs.map (·.1) = ps := by
    cases Lb with
    | no h0 hb =>
      rw [h0] at h4
      cases dt with
      | none => exact ⟨[], BindsTo.of_eq (hb _ _ _ _ _ _), rfl⟩
      | some T => cases h4
    | one p h0 hb =>
      rw [h0] at h4
      cases dt with
      | none => cases h4
      | some T =>
        obtain ⟨⟨u, o, n, ho, hs⟩, _, _⟩ := e0.hok T _ (h3 T rfl)
        obtain ⟨kk, e1, e2⟩ := hb (X.env.qual ++ "<lambda>") (cloFrom X.env.cells L.scope.names []) T doc pm (.ref c) ct
        exact ⟨[(p, u)], BindsTo.of_defaults rfl ho hs e1 (e2 u), rfl⟩
  obtain ⟨bs, hb, eb⟩ := binds
  have bsz : ∀ p ∈ cs, s1.heap.get? p.1 = some p.2 := fun p hp => (e0.hok p.1 _ (hk p hp)).1
  have nfr : ∀ p ∈ cs, p.1 ∉ frs outer := fun p hp m => by
    have z := e0.frf _ m
    rw [hk p hp] at z
    cases z
  have e1 : Env0 X.prog X.w X.K X.mg X.base A outer s1 (fg cs HZ) := ⟨e0.frames, e0.mod, fun b o z => ⟨(e0.bs b o z).1, by
      rcases cs_or cs b with ⟨ob, hb⟩ | m
      · exact fg_in (mem_fst hb)
      · rw [fg_out m]; exact (e0.bs b o z).2⟩, e0.bsz, e0.funs, fun b hm => by
      rcases cs_or cs b with ⟨ob, hb⟩ | m
      · exact fg_in (mem_fst hb)
      · rw [fg_out m]; exact e0.frf b hm, hok_fg C.nd e0.hok hk, e0.bare⟩
  have fin : ∀ {h' : Heap} {H' : Hp}, Un (frs outer) [] (fg cs HZ) H' s1.heap h' → HOk X.prog X.w H' h' → HOk X.prog X.w (kn cs H') h' := fun {h' H'} u x => hok_kn C.nd x fun p hp => ⟨u.keep _ _ (bsz p hp) (fg_in (mem_fst hp)) (nfr p hp) (by simp), u.free _ _ (bsz p hp) (fg_in (mem_fst hp)) (by simp)⟩
  refine codeAny_mono (R := CR (L2.CX X.prog X.w) outer X.prog X.w (fg cs HZ) s1 (fun v H' => (∀ p ∈ cs, H' p.1 = none) → Q v (kn cs H')) fun cls d H' => (∀ p ∈ cs, H' p.1 = none) → E cls d (kn cs H')) ?_ fun r s' hq => ?_
  · refine PySem.W.kla_callFunE hr.depth of1 rfl Lp.co Lp.gen rfl ⟨c, oc, vs, tt, rfl, hoc, hdc, hvc⟩ (hb _ _ _ _ ?_)
    refine wpAny_newFunctionEnv Lp.cell (fun y hy => Lp.par y.1 (by rw [← eb]; exact List.mem_map.mpr ⟨y, hy, rfl⟩)) (fun h₁ hns hsb => ⟨(e0.mod.nolimit.keeps fun b o e => (e0.bs b o e).1).fresh _ hsb, ?_⟩) Lp.kind
    show codeAny _ _ (.expr L.body (lamEnv X L.scope s1.heap.objs.size f c)) _ _
    have kp : ∀ b o, s1.heap.get? b = some o → h₁.get? b = some o := fun b o e => hsb.extBut b o (Nat.ne_of_lt (Heap.lt_size e)) (Heap.get?_push_of_some _ e)
    have J : Inv (lamCx X A outer s1 (fg cs HZ) (fun cls d H' => (∀ p ∈ cs, H' p.1 = none) → E cls d (kn cs H')) L.scope f c) [] σ' (fg cs HZ) { s1 with heap := h₁, toks := s1.toks + bs.length } := lam_startP C Lp hl hw e1 hr.hd (fun p hp => ⟨bsz p hp, fg_in (mem_fst hp)⟩) hns kp
    refine PySem.W.kla_codeExpr (wpAny_mono ((hbody A outer s1 (fg cs HZ) f c (hr.deeper _)).run [] _ _ (fg cs HZ) _ J ht) (fun v s' hq => ?_) fun e s' hq => hq)
    obtain ⟨w', H', J', rv, q⟩ := hq
    exact ⟨w', H', J'.os, J'.bare, J'.base, J'.hok, rv, q⟩
  · cases r with
    | error e =>
      obtain ⟨a, B, H', cls, d, e2, fl, hok, ub, na, os, ba, q⟩ := hq
      have bB : ∀ p ∈ cs, B.get? p.1 = some p.2 := fun p hp => ub.keep _ _ (bsz p hp) (fg_in (mem_fst hp)) (nfr p hp)
      refine ⟨a, B, kn cs H', cls, d, e2, fl, hok_kn C.nd hok fun p hp => ⟨bB p hp, ub.free _ _ (bsz p hp) (fg_in (mem_fst hp))⟩, ub_kn C.nd ub hk, ?_, os, ba, q fun p hp => ub.free _ _ (bsz p hp) (fg_in (mem_fst hp))⟩
      rcases cs_or cs a with ⟨ob, ho⟩ | m
      · have := bB _ ho
        rw [show B.get? a = none from fl.2.1] at this
        cases this
      · rw [kn_out m]; exact na
    | ok fl =>
      cases fl with
      | ret u =>
        obtain ⟨v, H', os, ba, un, hok, rv, q⟩ := hq
        exact ⟨v, kn cs H', os, ba, un_kn C.nd un hk, fin un hok, rv, q fun p hp => un.free _ _ (bsz p hp) (fg_in (mem_fst hp)) (by simp)⟩
      | next => exact False.elim hq
      | brk => exact False.elim hq
      | cont => exact False.elim hq
end
/-- a lambda, the slots that its parameters hide, its body's reading -/
structure LamR where
  L : Lam
  vs : List Nat
  t : XK → TE
structure LamRok (X : Cx) (k : Nat) (r : LamR) : Prop where
  ok : ∃ ps, LamP X.env.scope r.L ps ∧ LamBd r.L ps ∧ (∀ (i : Nat) (y : Str), X.N[i]? = some y → y ∈ ps → i ∈ r.vs) ∧
    ∀ (A : Around) (outer : List Env) (s : Shared) (H : Hp) (E : XK) (f c' : Addr), Room k (A.deeper (lamEnv X r.L.scope s.heap.objs.size f c')) → PE (lamCx X A outer s H E r.L.scope f c') r.L.body (r.t E)
/-- the reading of the call of what the slot i holds, by _law_try -/
def tTryV (K : Frag) (TT : (XK → Hp → VK → Prop) → Hp → VK → Prop) (q : Str) (cl : Lam → List (Str × Addr)) (cs : List (Addr × Obj)) (ls : List LamR) (σ : L2.St) (i : Nat) : TE := fun σB HB Q => ∃ f, σB[i]? = some (some (.ref f)) ∧ (∀ p ∈ cs, HB p.1 = some (known p.2)) ∧ ∃ r ∈ ls, LamAt HB f q r.L (cl r.L) ∧
  TT (fun E H' Q' => (∀ p ∈ cs, H' p.1 = some (known p.2)) ∧ LamAt H' f q r.L (cl r.L) ∧ r.t (fun cls d H'' => (∀ p ∈ cs, H'' p.1 = none) → E cls d (kn cs H'')) (wipe σ r.vs) (fg cs H') fun v H'' => (∀ p ∈ cs, H'' p.1 = none) → Q' v (kn cs H'')) HB Q
theorem of_ex {Z : Cx} {bg : List Stmt} {D : Ends} {σ : L2.St} {H : Hp} (h : ∃ t, PSs Z.nox bg t ∧ t D σ H) : ∃ t, PSs Z bg t ∧ t D σ H := by
  obtain ⟨t, h1, h2⟩ := h
  exact ⟨t, h1.nox, h2⟩
theorem pe_trycall {X XB : Cx} {σ : L2.St} {cs : List (Addr × Obj)} {ls : List LamR} {k i : Nat} {TT : (XK → Hp → VK → Prop) → Hp → VK → Prop} {x a n : Str} {g : Addr} {pg : Arguments} {bg : List Stmt} {sg : Scope} {dV kV doc pm cdv ct oc : Value} {an od : Option Addr} {osl : Array (Option Value)} {Ng : List Str} {p np pos : Pos}
    (hp : XB.prog = X.prog) (hw : XB.w = X.w) (hK : XB.K = X.K) (hmg : XB.mg = X.mg) (hbs : XB.base = X.base) (C : Clo X σ cs) (hls : ∀ r ∈ ls, LamRok X k r)
    (hg : Gl XB x) (hm : X.mg x = some (.ref g)) (hk : PySem.W.keepIn X.K (.ref g) = true)
    (lk : X.K.lookup g = some ⟨oc, od, .func (PySem.W.fnOf x x pg bg sg dV kV doc pm an cdv ct), osl⟩) (hcg : PySem.W.codeIn X.K cdv x = true) (hb : L2.Binds X.K (PySem.W.fnOf x x pg bg sg dV kV doc pm an cdv ct) [a] []) (Sg : FnScope Ng [a] sg) (hNg : Ng[0]? = some a) (hva : Vis sg a)
    (hG : GivesTo XB Ng x sg g cdv bg a (X.env.qual ++ "<lambda>") TT) (hr : Room (k + 2) XB.A)
    (hN : XB.N[i]? = some n) (hv : Vis XB.env.scope n) (hdb : (x == ("__debug__" : Str)) = false := by decide) (hd : (a == ("__debug__" : Str)) = false := by decide) (hcd : (a == ("__classdict__" : Str)) = false := by decide) (hdn : (n == ("__debug__" : Str)) = false := by decide) (hcn : (n == ("__classdict__" : Str)) = false := by decide)
    (he : starEach [.Name n np] XB.env = (false, eval (.Name n np) XB.env) :: starEach [] XB.env := by rfl) (hpl : (backTo pos (starEach [] XB.env)).any (·.1) = false := by rfl) :
    PE XB (.Call (.Name x p) [.Name n np] [] pos) (tTryV X.K TT (X.env.qual ++ "<lambda>") (fun L => cloFrom X.env.cells L.scope.names []) cs ls σ i) := by
  refine ⟨fun pinsB sB σB HB Q IB h => ?_⟩
  obtain ⟨f, hf, hkc, r, hrm, hat, htt⟩ := h
  refine wpAny_Call_Name_kw (ld_glob IB hg (by rw [hmg]; exact hm) ?_ hdb)
  have ha : PA XB [.Name n np] (tCons (tVar i) tNil) := pa_cons (pe_var hN hv hdn hcn) pa_nil
  have kIn := IB.ok.mod.kin
  rw [hK, hbs] at kIn
  refine PySem.W.callWith_K (h₀ := XB.base) IB.ok.mod.kin (by rw [hK]; exact hk) (thn (ha.run pos pinsB sB σB HB (fun vs H1 => vs = [.ref f] ∧ H1 = HB) IB ⟨.ref f, hf, rfl, rfl⟩) fun us s1 ⟨vs, H1, I1, rr, ev, eH⟩ => ⟨I1.kIn, ?_⟩) he hpl
  subst ev
  subst eH
  have rc : codeAny (model XB.prog XB.w) XB.A (.call (.ref g) ⟨us, []⟩) (CR C8.CX0 XB.stack XB.prog XB.w H1 s1 Q C8.E0) s1 := by
    have b0 := hb s1 us (by rw [← hK]; exact I1.kIn) (by rw [List.append_nil, ← rr.length]; rfl)
    rw [List.append_nil] at b0
    refine run_ofS (N := Ng) (ps := [a]) (us := us) (vs := [.ref f]) (by rw [hK]; exact lk) (by rw [hK]; exact hcg) Sg hr I1.env0 b0 rr rfl fun hr' => ?_
    obtain ⟨c, dt, l1, l2, l3, l4⟩ := hat
    refine of_ex (hG f c s1 H1 Q _ (fun W pn xe E p1 p2 tk hW => ?_) l2 htt)
    · refine ⟨fun pinsZ sZ σZ HZ QZ IZ hz => ?_⟩
      obtain ⟨hs, hc, hkc', hat', ht⟩ := hz
      refine wpAny_Call_Name_kw (thn ((pe_var (pos := p1) (i := 0) hNg hva hd hcd).run pinsZ sZ σZ HZ (fun v H2 => v = .ref f ∧ H2 = HZ) IZ ⟨.ref f, hs, rfl, rfl⟩) fun u s2 ⟨v, H2, I2, r2, ev2, eH2⟩ => ?_)
      subst ev2
      subst eH2
      obtain rfl : u = Value.ref f := r2
      have of1 : PySem.W.FnAt f s2.heap := by
        obtain ⟨c2, dt2, m1, _⟩ := hat'
        obtain ⟨⟨doc, pm, ct, z⟩, _, _⟩ := I2.hok f _ m1
        exact ⟨_, _, _, _, z⟩
      refine PySem.W.callWith_F0 of1 ?_
      obtain ⟨ps, Lp, Lb, hvs, hbody⟩ := (hls r hrm).ok
      have e0 := I2.env0
      have e0' : Env0 X.prog X.w X.K X.mg X.base (XB.A.deeper (envOfC x sg s1.heap.objs.size g cdv)) (envOfC x sg s1.heap.objs.size g cdv :: XB.stack) s2 H2 := by
        rw [← hp, ← hw, ← hK, ← hmg, ← hbs]
        exact e0
      have rl : codeAny (model X.prog X.w) (XB.A.deeper (envOfC x sg s1.heap.objs.size g cdv)) (.call (.ref f) ⟨[], []⟩) (CR (L2.CX X.prog X.w) (envOfC x sg s1.heap.objs.size g cdv :: XB.stack) X.prog X.w H2 s2 QZ E) s2 :=
        run_lam (σ' := wipe σ r.vs) C Lp Lb (wipe_length _ _) (fun i v e => ⟨(wipe_some e).1, fun y hy m => (wipe_some e).2 (hvs i y hy m)⟩) hr' e0' hkc' hat' (fun A outer s H f c' hr2 => hbody A outer s H _ f c' hr2) ht
      rw [← hp, ← hw] at rl
      have hx : Passes (L2.CX XB.prog XB.w) ((cxOf C8.CX0 XB.prog XB.w XB.K XB.mg XB.base Ng x sg g cdv XB.A XB.stack s1 H1 C8.E0).tr pn xe) E := passes_call tk hW
      refine wpAny_call (codeAny_mono rl fun r s' hq => ?_)
      cases r with
      | error e => exact hx pinsZ σZ H2 s2 e s' I2 hq
      | ok fl =>
        cases fl with
        | ret u => exact I2.after hq
        | next => exact False.elim hq
        | brk => exact False.elim hq
        | cont => exact False.elim hq
  refine wpAny_call (codeAny_mono rc fun r s' hq => ?_)
  cases r with
  | error e => exact (show False from hq).elim
  | ok fl =>
    cases fl with
    | ret u => exact I1.after hq
    | next => exact False.elim hq
    | brk => exact False.elim hq
    | cont => exact False.elim hq
end Fv

end PART_NB34
section PART_NB35
set_option Elab.async false
set_option linter.all false
set_option maxRecDepth 100000
set_option maxHeartbeats 4000000
set_option pp.maxSteps 400
/-! NB35: _law_tries at the machine's level: the call; then over data -/
namespace Fv
open PySem PySem.Spec PyProof.Rows L2 LamX NB
open Xm (ExtP known TTry told)
open PySem.W (Frag)
/-- the cells of a def's frame, as they stand -/
theorem clo_of {X : Cx} {pins : List (Addr × Obj)} {σ : L2.St} {H : Hp} {s : Shared} (I : Inv X pins σ H s) (hfn : ∀ x, X.fn x = true) : ∃ cs, Clo X σ cs ∧ ∀ p ∈ cs, s.heap.get? p.1 = some p.2 ∧ H p.1 = none ∧ p.1 ∉ X.fs ∧ p.1 ≠ X.env.locals := by
  have key : ∀ l : List (Str × Addr), ∃ cs : List (Addr × Obj), (cs.map (·.1)).Nodup ∧ (∀ q ∈ l, X.env.cells.lookup q.1 = some q.2 → ∃ o, (q.2, o) ∈ cs) ∧ ∀ p ∈ cs, ∃ y, X.env.cells.lookup y = some p.1 ∧ s.heap.get? p.1 = some p.2 := by
    intro l
    induction l with
    | nil => exact ⟨[], List.nodup_nil, fun _ h => (by cases h), fun _ h => (by cases h)⟩
    | cons q r ih =>
      obtain ⟨cs, n, h1, h2⟩ := ih
      by_cases hl : X.env.cells.lookup q.1 = some q.2
      · rcases cs_or cs q.2 with ⟨o, ho⟩ | m
        · refine ⟨cs, n, fun q' hq' e => ?_, h2⟩
          rcases List.mem_cons.mp hq' with rfl | hq'
          · exact ⟨o, ho⟩
          · exact h1 q' hq' e
        · obtain ⟨v, o, ho, hd⟩ := I.cell _ _ hl
          refine ⟨(q.2, o) :: cs, by rw [List.map_cons, List.nodup_cons]; exact ⟨m, n⟩, fun q' hq' e => ?_, fun p hp => ?_⟩
          · rcases List.mem_cons.mp hq' with rfl | hq'
            · exact ⟨o, List.mem_cons_self⟩
            · obtain ⟨o', z⟩ := h1 q' hq' e
              exact ⟨o', List.mem_cons_of_mem _ z⟩
          · rcases List.mem_cons.mp hp with rfl | hp
            · exact ⟨q.1, hl, ho⟩
            · exact h2 p hp
      · refine ⟨cs, n, fun q' hq' e => ?_, h2⟩
        rcases List.mem_cons.mp hq' with rfl | hq'
        · exact absurd e hl
        · exact h1 q' hq' e
  obtain ⟨cs, n, h1, h2⟩ := key X.env.cells
  have has : ∀ {y c}, X.env.cells.lookup y = some c → ∃ o v, (c, o) ∈ cs ∧ s.heap.get? c = some o ∧ o.data = .cell v := fun {y c} e => by
    obtain ⟨o, ho⟩ := h1 (y, c) (PySem.mem_of_lookup e) e
    obtain ⟨v, o', ho', hd⟩ := I.cell _ _ e
    obtain ⟨_, _, z⟩ := h2 _ ho
    rw [ho'] at z
    cases z
    exact ⟨_, v, ho, ho', hd⟩
  have up : ∀ p ∈ cs, X.s_0.heap.objs.size ≤ p.1 := fun p hp => by
    obtain ⟨y, e, _⟩ := h2 p hp
    exact I.ok.cab y _ (hfn y) e
  refine ⟨cs, ⟨I.ok, I.len, n, fun y c e => ?_, fun i y v c e1 e2 e3 k => ?_, fun p hp => ?_⟩, fun p hp => ?_⟩
  · obtain ⟨o, v, a, _, b⟩ := has e
    exact ⟨o, v, a, b⟩
  · obtain ⟨m, _, hl⟩ := I.loc
    obtain ⟨u, r, q⟩ := hl i y v e1 e2 (k.elim (fun z => .inr (.inl z)) fun z => .inr (.inr z))
    rcases q with ⟨k', _⟩ | ⟨_, c', e', o', ho', hd'⟩
    · have k' : X.env.scope.names.lookup y = some .local := k'
      rcases k with z | z <;> rw [z] at k' <;> cases k'
    · rw [e3] at e'
      cases e'
      obtain ⟨o, v', a, b, d⟩ := has e3
      rw [b] at ho'
      cases ho'
      exact ⟨_, u, a, hd', r⟩
  · cases e : X.base.get? p.1 with
    | none => rfl
    | some o =>
      exact absurd (Nat.lt_of_lt_of_le (Heap.lt_size e) (Nat.le_trans I.ok.bsz (up p hp))) (Nat.lt_irrefl _)
  · obtain ⟨y, e, g⟩ := h2 p hp
    refine ⟨g, I.freeC y _ e, fun m => ?_, fun z => ?_⟩
    · obtain ⟨_, o, ho, _⟩ := I.ok.funs.mem m
      exact absurd (Nat.lt_of_lt_of_le (Heap.lt_size ho) (up p hp)) (Nat.lt_irrefl _)
    · obtain ⟨o, v, _, b, d⟩ := has e
      obtain ⟨mm, ⟨ob, es, ep, q, r, _⟩, _⟩ := I.loc
      rw [← z, b] at q
      cases q
      rw [r] at d
      cases d
def one1 (R : V → Hp → Prop) : List V → Hp → Prop
  | [v], H => R v H
  | _, _ => False
/-- the reading of _law_tries(e) -/
def tTries (te : TE) (N : List Str) (K : Frag) (TT : (XK → Hp → VK → Prop) → Hp → VK → Prop) (q : Str) (cl : Lam → List (Str × Addr)) (ls : List LamR) : TE := fun σ H Q => te σ H fun v H1 => ∀ cs : List (Addr × Obj), (cs.map (·.1)).Nodup → (∀ p ∈ cs, H1 p.1 = none) →
  tRet (tLc (iList K (tVar 0)) (gName 1) tYes (tTryV K TT q cl cs ls σ 1) [1]) { nx := fun _ H' => Q .non (fg cs H'), rt := fun v H' => Q v (fg cs H') } (L2.start N [v]) (kn cs H1)
theorem pe_tries {X : Cx} {TT : (XK → Hp → VK → Prop) → Hp → VK → Prop} {ls : List LamR} {x a : Str} {g : Addr} {k : Nat} {pg : Arguments} {bg : List Stmt} {sg : Scope} {dV kV doc pm cdv ct oc : Value} {an od : Option Addr} {osl : Array (Option Value)} {Ng : List Str} {e : Expr} {te : TE} {p pos : Pos}
    (hfn : ∀ x, X.fn x = true) (hst : X.stack = X.env :: X.outer) (hg : Gl X x) (hm : X.mg x = some (.ref g)) (hk : PySem.W.keepIn X.K (.ref g) = true)
    (lk : X.K.lookup g = some ⟨oc, od, .func (PySem.W.fnOf x x pg bg sg dV kV doc pm an cdv ct), osl⟩) (hcg : PySem.W.codeIn X.K cdv x = true) (hb : L2.Binds X.K (PySem.W.fnOf x x pg bg sg dV kV doc pm an cdv ct) [a] []) (Sg : FnScope Ng [a] sg)
    (hbody : ∀ (s : Shared) (H : Hp) (σ : L2.St) (cs : List (Addr × Obj)), Clo X σ cs → Room k (X.A.deeper (envOfC x sg s.heap.objs.size g cdv)) → PSs (cxOf C8.CX0 X.prog X.w X.K X.mg X.base Ng x sg g cdv X.A X.stack s H C8.E0) bg (tRet (tLc (iList X.K (tVar 0)) (gName 1) tYes (tTryV X.K TT (X.env.qual ++ "<lambda>") (fun L => cloFrom X.env.cells L.scope.names []) cs ls σ 1) [1])))
    (hr : Room (k + 1) X.A) (ha : PE X e te) (hdb : (x == ("__debug__" : Str)) = false := by decide)
    (he : starEach [e] X.env = (false, eval e X.env) :: starEach [] X.env := by rfl) (hpl : (backTo pos (starEach [] X.env)).any (·.1) = false := by rfl) :
    PE X (.Call (.Name x p) [e] [] pos) (tTries te Ng X.K TT (X.env.qual ++ "<lambda>") (fun L => cloFrom X.env.cells L.scope.names []) ls) := by
  refine ⟨fun pins s σ H Q I h => ?_⟩
  refine wpAny_Call_Name_kw (ld_glob I hg hm ?_ hdb)
  have hpa : PA X [e] (tCons te tNil) := pa_cons ha pa_nil (hs := he)
  refine PySem.W.callWith_K (h₀ := X.base) I.ok.mod.kin hk (thn (hpa.run pos pins s σ H (one1 fun v H1 => ∀ cs : List (Addr × Obj), (cs.map (·.1)).Nodup → (∀ p ∈ cs, H1 p.1 = none) →
    tRet (tLc (iList X.K (tVar 0)) (gName 1) tYes (tTryV X.K TT (X.env.qual ++ "<lambda>") (fun L => cloFrom X.env.cells L.scope.names []) cs ls σ 1) [1]) { nx := fun _ H' => Q .non (fg cs H'), rt := fun v H' => Q v (fg cs H') } (L2.start Ng [v]) (kn cs H1)) I h) fun us s1 ⟨vs, H1, I1, rr, hq⟩ => ⟨I1.kIn, ?_⟩) he hpl
  obtain ⟨v, rfl, hq⟩ : ∃ v, vs = [v] ∧ ∀ cs : List (Addr × Obj), (cs.map (·.1)).Nodup → (∀ p ∈ cs, H1 p.1 = none) →
    tRet (tLc (iList X.K (tVar 0)) (gName 1) tYes (tTryV X.K TT (X.env.qual ++ "<lambda>") (fun L => cloFrom X.env.cells L.scope.names []) cs ls σ 1) [1]) { nx := fun _ H' => Q .non (fg cs H'), rt := fun v H' => Q v (fg cs H') } (L2.start Ng [v]) (kn cs H1) := by
    match vs, hq with
    | [v], hq => exact ⟨v, rfl, hq⟩
  obtain ⟨cs, C, hcs⟩ := clo_of I1 hfn
  have frX : ∀ p ∈ cs, p.1 ∉ frs X.stack := fun p hp m => by
    rcases List.mem_cons.mp (I1.stkSub _ m) with z | z
    · exact (hcs p hp).2.2.2 z
    · exact (hcs p hp).2.2.1 z
  have e0 := I1.env0
  have e1 : Env0 X.prog X.w X.K X.mg X.base X.A X.stack s1 (kn cs H1) := ⟨e0.frames, e0.mod, fun b o z => ⟨(e0.bs b o z).1, by
      rcases cs_or cs b with ⟨ob, hb⟩ | m
      · rw [C.base _ hb] at z; cases z
      · rw [kn_out m]; exact (e0.bs b o z).2⟩, e0.bsz, e0.funs, fun b hm => by
      rcases cs_or cs b with ⟨ob, hb⟩ | m
      · exact absurd hm (frX _ hb)
      · rw [kn_out m]; exact e0.frf b hm, hok_kn C.nd e0.hok fun p hp => ⟨(hcs p hp).1, (hcs p hp).2.1⟩, e0.bare⟩
  have b0 := hb s1 us I1.kIn (by rw [List.append_nil, ← rr.length]; rfl)
  rw [List.append_nil] at b0
  have rc : codeAny (model X.prog X.w) X.A (.call (.ref g) ⟨us, []⟩) (CR C8.CX0 X.stack X.prog X.w (kn cs H1) s1 (fun v H' => Q v (fg cs H')) C8.E0) s1 :=
    run_ofS (N := Ng) (ps := [a]) (us := us) (vs := [v]) lk hcg Sg hr e1 b0 rr rfl fun hr' => ⟨_, hbody s1 _ σ cs C hr', hq cs C.nd fun p hp => (hcs p hp).2.1⟩
  refine wpAny_call (codeAny_mono rc fun r s' hq => ?_)
  cases r with
  | error e => exact (show False from hq).elim
  | ok fl =>
    cases fl with
    | ret u =>
      obtain ⟨v, H2, os, bare, un, hok, rv, q⟩ := hq
      have kk : ∀ p ∈ cs, H2 p.1 = some (known p.2) := fun p hp => un.frzs _ _ _ (kn_in C.nd hp)
      exact I1.after ⟨v, fg cs H2, os, bare, un_fg C.nd un (fun p hp => (hok _ _ (kk p hp)).1) fun p hp => ⟨(hcs p hp).1, (hcs p hp).2.1⟩, hok_fg C.nd hok kk, rv, q⟩
    | next => exact False.elim hq
    | brk => exact False.elim hq
    | cont => exact False.elim hq
end Fv

end PART_NB35
section PART_NB36
set_option Elab.async false
set_option linter.all false
set_option maxRecDepth 100000
set_option maxHeartbeats 4000000
set_option pp.maxSteps 400
/-! NB36: lambdas as values, _law_tries, over data -/
namespace NB
open PySem PySem.Spec PyProof.Rows L2 LamX Xm Fv
/-! ### a system where further objects are known -/
def SF (S : Sys) (xs : List (Addr × (Heap → Prop))) : Sys := { S with
  T := fun H => S.T H ∧ ∀ x ∈ xs, H x.1 = some (.ext x.2)
  dep := fun H H' h x ⟨t, f⟩ => ⟨S.dep H H' h x t, fun y hy => x _ _ (f y hy)⟩
  live := fun H t => S.live H t.1
  take := fun C fs d ws H' l t e f r => S.take C fs d ws H' l t.1 e f r }
section
variable {S : Sys} {xs : List (Addr × (Heap → Prop))} {ρ : DEnv}
theorem EnvOk.sf {O : List Addr} {σ : L2.St} {H : Hp} (I : EnvOk (SF S xs) O ρ σ H) : EnvOk S O ρ σ H := ⟨I.len, I.t.1, I.sub, I.live, I.at_, I.dis, I.outM, I.xk⟩
theorem EnvOk.fs {O : List Addr} {σ : L2.St} {H : Hp} (I : EnvOk S O ρ σ H) (f : ∀ x ∈ xs, H x.1 = some (.ext x.2)) : EnvOk (SF S xs) O ρ σ H := ⟨I.len, ⟨I.t, f⟩, I.sub, I.live, I.at_, I.dis, I.outM, I.xk⟩
theorem ev_sf {te : TE} {Q : D → Prop} (hM : ∀ x ∈ xs, x.1 ∉ S.M) (h : Ev S te ρ Q) : Ev (SF S xs) te ρ Q := fun O σ H I Qv k => h O σ H I.sf Qv fun d v H' l t is q => k d v H' l ⟨t, fun x hx => l _ _ (hM x hx) (I.t.2 x hx)⟩ is q
end
/-! ### a list of lambdas -/
section
variable {K : PySem.W.Frag} {i : LI} {ρ : DEnv}
theorem ext_out {H : Hp} {a : Addr} {φ : Heap → Prop} (t : (SL K i).T H) (e : H a = some (.ext φ)) : a ∉ (SL K i).M := fun m => by
  obtain ⟨tp, ps, h3, _⟩ := t
  obtain ⟨cells, x, r, s, h1, h2, _⟩ := tp.ok
  have m : a ∈ [i.p, i.c, i.P] := m
  simp only [List.mem_cons, List.not_mem_nil, or_false] at m
  rcases m with rfl | rfl | rfl
  · rw [h1] at e; cases e
  · rw [h2] at e; cases e
  · rw [h3] at e; cases e
theorem lam_le {H H' : Hp} {f : Addr} {q : Str} {L : Lam} {cl : List (Str × Addr)} (t : (SL K i).T H) (l : Le (SL K i).M H H') (h : LamAt H f q L cl) : LamAt H' f q L cl := by
  obtain ⟨c, dt, h1, h2, h3, h4⟩ := h
  exact ⟨c, dt, l _ _ (ext_out t h1) h1, l _ _ (ext_out t h2) h2, fun T hT => l _ _ (ext_out t (h3 T hT)) (h3 T hT), h4⟩
abbrev LF : Type := Addr × Lam × List (Str × Addr)
def EvAF (K : PySem.W.Frag) (i : LI) (t : TA) (ρ : DEnv) (Q : List LF → Prop) : Prop :=
  ∀ O σ H, EnvOk (SL K i) O ρ σ H → ∀ Qv : List V → Hp → Prop, (∀ xs H', Le (SL K i).M H H' → (SL K i).T H' → (∀ x ∈ xs, LamAt H' x.1 i.q x.2.1 x.2.2) → Q xs → Qv (xs.map fun x => .ref x.1) H') → t σ H Qv
theorem evaf_nil {Q : List LF → Prop} (q : Q []) : EvAF K i tNil ρ Q := fun O σ H I Qv k => k [] H (Le.refl _ _) I.t (fun _ h => by cases h) q
theorem evaf_cons {L : Lam} {cl : List (Str × Addr)} {t : TA} {Q : List LF → Prop} (h : EvAF K i t ρ fun xs => ∀ f, Q ((f, L, cl) :: xs)) : EvAF K i (tCons (tLamV i.P i.q L cl) t) ρ Q := fun O σ H I Qv k => by
  obtain ⟨tp, tb⟩ := I.t
  refine ⟨tb, fun f H2 eP tb2 nf hat => ?_⟩
  have l2 : Le (SL K i).M H H2 := fun a o n e => eP a o (fun z => n (by rw [z]; show i.P ∈ [i.p, i.c, i.P]; simp)) e
  have tp2 : TapeAt i.p i.c H2 := by
    obtain ⟨ps, hP, _⟩ := tb
    obtain ⟨cells, x, r, s, h1, h2, h3⟩ := tp.ok
    have n1 : i.p ≠ i.P := fun z => by rw [z, hP] at h1; cases h1
    have n2 : i.c ≠ i.P := fun z => by rw [z, hP] at h2; cases h2
    exact ⟨cells, x, r, s, eP _ _ n1 h1, eP _ _ n2 h2, h3⟩
  have T2 : (SL K i).T H2 := ⟨tp2, tb2⟩
  refine h O σ H2 (I.le l2 T2) _ fun xs H3 l3 t3 fs q => ?_
  exact k ((f, L, cl) :: xs) H3 (l2.trans l3) t3 (fun x hx => by
    rcases List.mem_cons.mp hx with rfl | hx
    · exact lam_le T2 l3 hat
    · exact fs x hx) (q f)
def CodeP (c : Addr) (q : Str) (h : Heap) : Prop := ∃ (oc : Obj) (vs : Array Value) (t : Tok), h.get? c = some oc ∧ oc.data = .fields vs ∧ vs[1]? = some (.str q t)
def TupP (T : Addr) (h : Heap) : Prop := ∃ (u : Value) (o : Obj) (n : Nat), h.get? T = some o ∧ o.data = .seq #[u] n
/-- what is known of functions, as a list of known objects -/
theorem facts_of {H : Hp} {q : Str} : ∀ {xs : List LF}, (∀ x ∈ xs, LamAt H x.1 q x.2.1 x.2.2) → ∃ ys : List (Addr × (Heap → Prop)), (∀ y ∈ ys, H y.1 = some (.ext y.2)) ∧ ∀ H', (∀ y ∈ ys, H' y.1 = some (.ext y.2)) → ∀ x ∈ xs, LamAt H' x.1 q x.2.1 x.2.2
  | [], _ => ⟨[], fun _ h => (by cases h), fun _ _ _ h => (by cases h)⟩
  | x :: xs, h => by
    obtain ⟨ys, h1, h2⟩ := facts_of (xs := xs) fun z hz => h z (List.mem_cons_of_mem _ hz)
    obtain ⟨c, dt, e1, e2, e3, e4⟩ := h x List.mem_cons_self
    cases dt with
    | none =>
      refine ⟨(x.1, LamP1 x.1 q x.2.1 x.2.2 c none) :: (c, CodeP c q) :: ys, fun y hy => ?_, fun H' hy z hz => ?_⟩
      rotate_left
      · rcases List.mem_cons.mp hz with e | hz
        · rw [e]
          exact ⟨c, none, hy (x.1, _) List.mem_cons_self, hy (c, CodeP c q) (List.mem_cons_of_mem _ List.mem_cons_self), fun _ z => (by cases z), e4⟩
        · exact h2 H' (fun y hy' => hy y (List.mem_cons_of_mem _ (List.mem_cons_of_mem _ hy'))) z hz
      · rcases List.mem_cons.mp hy with rfl | hy
        · exact e1
        · rcases List.mem_cons.mp hy with rfl | hy
          · exact e2
          · exact h1 y hy
    | some T =>
      refine ⟨(x.1, LamP1 x.1 q x.2.1 x.2.2 c (some T)) :: (c, CodeP c q) :: (T, TupP T) :: ys, fun y hy => ?_, fun H' hy z hz => ?_⟩
      rotate_left
      · rcases List.mem_cons.mp hz with e | hz
        · rw [e]
          exact ⟨c, some T, hy (x.1, _) List.mem_cons_self, hy (c, CodeP c q) (List.mem_cons_of_mem _ List.mem_cons_self), fun T' z => (by cases z; exact hy (T, TupP T) (List.mem_cons_of_mem _ (List.mem_cons_of_mem _ List.mem_cons_self))), e4⟩
        · exact h2 H' (fun y hy' => hy y (List.mem_cons_of_mem _ (List.mem_cons_of_mem _ (List.mem_cons_of_mem _ hy')))) z hz
      · rcases List.mem_cons.mp hy with rfl | hy
        · exact e1
        · rcases List.mem_cons.mp hy with rfl | hy
          · exact e2
          · rcases List.mem_cons.mp hy with rfl | hy
            · exact e3 T rfl
            · exact h1 y hy
theorem iss_locs {H : Hp} (K : PySem.W.Frag) : ∀ xs : List Addr, Iss K H (xs.map V.ref) (xs.map D.loc)
  | [] => .nil
  | x :: xs => .cons (.loc x) (iss_locs K xs)
theorem locs_iss {H : Hp} : ∀ {xs : List Addr} {vs : List V}, Iss K H vs (xs.map D.loc) → vs = xs.map V.ref
  | [], _, h => iss_nil h
  | x :: xs, vs, h => by
    obtain ⟨v, ws, rfl, h1, h2⟩ := iss_cons h
    rw [is_loc h1, locs_iss h2]
    rfl
/-- asks = [lambda: .., ..], and what follows -/
theorem run_asks {k : Nat} {t : TA} {rest : TS} {P : Post} (h : EvAF K i t ρ fun xs => xs.length ≤ sizeLine ∧ ∀ ys : List (Addr × (Heap → Prop)), (∀ y ∈ ys, y.1 ∉ (SL K i).M) → (∀ H, (∀ y ∈ ys, H y.1 = some (.ext y.2)) → ∀ x ∈ xs, LamAt H x.1 i.q x.2.1 x.2.2) → Run (SF (SL K i) ys) rest (ρ.set k (some (.dat (.lst ((xs.map (·.1)).map D.loc))))) P) :
    Run (SL K i) (tSeq (tAsg (tLst t) (gName k)) rest) ρ P := fun B O σ H I Dv k1 k2 k3 k4 => by
  refine h O σ H I.env _ fun xs H1 l1 t1 fs ⟨z, q⟩ => ?_
  obtain ⟨I1, s1⟩ := I.go l1 t1
  refine ⟨by rw [List.length_map]; exact z, fun p hp => ?_⟩
  obtain ⟨ys, y1, y2⟩ := facts_of fs
  have e : xs.map (fun x => V.ref x.1) = (xs.map (·.1)).map V.ref := by rw [List.map_map]; rfl
  rw [e]
  have l2 : Le (SL K i).M H1 (upd H1 p (.lst ((xs.map (·.1)).map V.ref))) := Le.same (Same.upd hp)
  have t2 := (SL K i).same _ _ (Same.upd (o := .lst ((xs.map (·.1)).map V.ref)) hp) t1
  obtain ⟨I2, s2⟩ := I1.go l2 t2
  have il : Iss (SL K i).K (hid O H1) ((xs.map (·.1)).map V.ref) ((xs.map (·.1)).map D.loc) := iss_locs K _
  have I3 := I2.set (k := k) (is_new_lst I1.env.live hp il)
  have f2 : ∀ y ∈ ys, upd H1 p (.lst ((xs.map (·.1)).map V.ref)) y.1 = some (.ext y.2) := fun y hy => by
    rw [upd_ne (ne_of_none (y1 y hy) hp)]
    exact y1 y hy
  have st := s1.trans s2
  exact q ys (fun y hy => ext_out t1 (y1 y hy)) y2 B O _ _ ⟨I3.env.fs f2, I3.sub, I3.le, I3.live, I3.own⟩ Dv (fun ρ2 O2 σ2 H2 J s3 => k1 ρ2 O2 σ2 H2 ⟨J.env.sf, J.sub, J.le, J.live, J.own⟩ (st.trans s3)) (fun d v H2 l t => k2 d v H2 l t.1) (fun ρ2 O2 σ2 H2 J s3 => k3 ρ2 O2 σ2 H2 ⟨J.env.sf, J.sub, J.le, J.live, J.own⟩ (st.trans s3)) fun ρ2 O2 σ2 H2 J s3 => k4 ρ2 O2 σ2 H2 ⟨J.env.sf, J.sub, J.le, J.live, J.own⟩ (st.trans s3)
end
/-! ### _law_tries -/
section
variable {K : PySem.W.Frag} {i : LI} {ρ : DEnv}
theorem lcGoal_eq {S : Sys} {ρ : DEnv} {g : TG} {tt : TT} {te : TE} {vs : List Nat} {Q : D → Prop} {xs ys : List D} (e : xs = ys) (h : LcGoal S ρ g tt te vs Q ys) : LcGoal S ρ g tt te vs Q xs := by rw [e]; exact h
abbrev Tz : Type := Addr × LamR × D
theorem ev_tries {ys : List (Addr × (Heap → Prop))} {cs0 : List Value} {n1 n2 : Str} {cl : Lam → List (Str × Addr)} {ls : List LamR} {zs : List Tz} {te : TE} {Q : D → Prop}
    (hM : ∀ y ∈ ys, y.1 ∉ (SL K i).M) (hls : ls = zs.map fun z => z.2.1) (hz : zs.length ≤ sizeLine)
    (hys : ∀ z ∈ zs, ∀ H : Hp, (∀ y ∈ ys, H y.1 = some (.ext y.2)) → LamAt H z.1 i.q z.2.1.L (cl z.2.1.L))
    (hrs : ∀ z ∈ zs, ∀ (E : XK) (y : SX K E), y.R = Rout K cs0 (· = z.2.2) → Ev (S0X y) (z.2.1.t E) (wipeD (datD ρ) z.2.1.vs) fun x => D.tup [.str "value", x] = z.2.2)
    (he : Ev (SF (SL K i) ys) te ρ fun d => d = .lst ((zs.map fun z => z.1).map D.loc)) (q : Q (.lst (zs.map fun z => z.2.2))) :
    Ev (SF (SL K i) ys) (tTries te [n1, n2] K (TTry K cs0 (spT (SE K) (F_field K))) i.q cl ls) ρ Q := fun O σ H I Qv k => by
  refine he O σ H I _ fun d v H1 l1 t1 is e => ?_
  subst e
  intro cs nd hc
  have I1 := I.le l1 t1
  obtain ⟨pl, vs, rfl, hpl, iss⟩ := is_lst is
  obtain ⟨nplO, hpl⟩ := hid_some hpl
  obtain rfl := locs_iss iss
  have ncs : ∀ {a : Addr} {o : HO}, H1 a = some o → a ∉ cs.map (·.1) := fun {a o} e m => by
    obtain ⟨p, hp, z⟩ := List.mem_map.mp m
    rw [← z, hc p hp] at e
    cases e
  have kH : Same H1 (kn cs H1) := fun a o e => by rw [kn_out (ncs e)]; exact e
  let O1 : List Addr := O ++ (cs.map (·.1) ++ ys.map (·.1))
  have inC : ∀ {a : Addr}, a ∈ cs.map (·.1) → a ∈ O1 := fun m => List.mem_append_right _ (List.mem_append_left _ m)
  have inY : ∀ {y : Addr × (Heap → Prop)}, y ∈ ys → y.1 ∈ O1 := fun m => List.mem_append_right _ (List.mem_append_right _ (List.mem_map.mpr ⟨_, m, rfl⟩))
  have live1 : ∀ a ∈ O1, kn cs H1 a ≠ none := fun a ha => by
    rcases cs_or cs a with ⟨o, ho⟩ | m
    · rw [kn_in nd ho]; exact fun z => by cases z
    · rw [kn_out m]
      rcases List.mem_append.mp ha with ha | ha
      · exact I1.live a ha
      · rcases List.mem_append.mp ha with ha | ha
        · exact absurd ha m
        · obtain ⟨y, hy, rfl⟩ := List.mem_map.mp ha
          rw [t1.2 y hy]; exact fun z => by cases z
  let y1 : SX K (fun _ _ _ => False) := ⟨O1, kn cs H1, fun _ _ => False, live1, fun _ _ _ _ _ _ _ _ h => h.elim⟩
  have nplO1 : pl ∉ O1 := fun m => by
    rcases List.mem_append.mp m with m | m
    · exact nplO m
    · rcases List.mem_append.mp m with m | m
      · exact ncs hpl m
      · obtain ⟨y, hy, z⟩ := List.mem_map.mp m
        have := t1.2 y hy
        rw [z, hpl] at this
        cases this
  have d1 : Is K (hid O1 (kn cs H1)) (.ref pl) (.lst ((zs.map fun z => z.1).map D.loc)) := .lst (by rw [hid_out nplO1]; exact kH _ _ hpl) (iss_locs K _)
  have start := sok_start (S := S0X y1) (N := [n1, n2]) (fun _ _ => rfl) (fun _ h => h) live1 (Iss.cons d1 .nil) (xok_start y1)
  have elt : ∀ z ∈ zs, Ev (S0X y1) (tTryV K (TTry K cs0 (spT (SE K) (F_field K))) i.q cl cs ls σ 1) ((wipeD (startD [n1, n2] [.lst ((zs.map fun z => z.1).map D.loc)]) [1]).set 1 (some (.dat (.loc z.1)))) fun y => y = z.2.2 := fun z hzm OB σB HB IB Qb kb => by
    obtain ⟨vf, hvf, ok⟩ := IB.at_ 1 (.dat (.loc z.1)) (by rfl)
    obtain rfl := is_loc ok
    have frz : ∀ a ∈ O1, HB a = kn cs H1 a := IB.t
    have sB : Same (kn cs H1) HB := fun a o e => by
      by_cases m : a ∈ O1
      · rw [frz a m]; exact e
      · exact IB.xk.1 a o m e
    have kB : ∀ p ∈ cs, HB p.1 = some (known p.2) := fun p hp => by rw [frz _ (inC (mem_fst hp))]; exact kn_in nd hp
    have latB : LamAt HB z.1 i.q z.2.1.L (cl z.2.1.L) := hys z hzm HB fun y hy => by
      rw [frz _ (inY hy), kn_out (ncs (t1.2 y hy))]
      exact t1.2 y hy
    refine ⟨z.1, hvf, kB, z.2.1, by rw [hls]; exact List.mem_map.mpr ⟨z, hzm, rfl⟩, latB, kB, latB, ?_⟩
    let OB' : List Addr := OB.filter fun a => decide (a ∉ cs.map (·.1))
    have inB : ∀ {a : Addr}, a ∈ OB' ↔ a ∈ OB ∧ a ∉ cs.map (·.1) := fun {a} => by
      show a ∈ List.filter _ _ ↔ _
      rw [List.mem_filter, decide_eq_true_eq]
    have sk : ∀ {H'' : Hp}, Same (fg cs HB) H'' → Same HB (kn cs H'') := fun {H''} s a o e => by
      rcases cs_or cs a with ⟨ob, ho⟩ | m
      · have := kB _ ho
        rw [e] at this
        rw [this]
        exact kn_in nd ho
      · rw [kn_out m]
        exact s a o (by rw [fg_out m]; exact e)
    have up : ∀ {H'' : Hp}, (∀ p ∈ cs, H'' p.1 = none) → ∀ a o, hid OB' H'' a = some o → hid OB (kn cs H'') a = some o := fun {H''} hn a o e => by
      obtain ⟨na, e⟩ := hid_some e
      have mc : a ∉ cs.map (·.1) := fun m => by
        obtain ⟨p, hp, zz⟩ := List.mem_map.mp m
        rw [← zz, hn p hp] at e
        cases e
      rw [hid_out fun m => na (inB.mpr ⟨m, mc⟩), kn_out mc]
      exact e
    have lvB : ∀ {H'' : Hp}, Same HB H'' → ∀ a ∈ OB, H'' a ≠ none := fun {H''} s a ha n => by
      cases e : HB a with
      | none => exact IB.live a ha e
      | some o => rw [s a o e] at n; cases n
    have fin : ∀ (d : D) (v : V) (H3 : Hp), Same HB H3 → Is K (hid OB H3) v d → d = z.2.2 → Qb v H3 := fun d v H3 s is e => kb d v H3 (Le.same s) ((S0X y1).same _ _ s IB.t) is e
    have live2 : ∀ a ∈ OB', fg cs HB a ≠ none := fun a ha => by
      obtain ⟨h1, h2⟩ := inB.mp ha
      rw [fg_out h2]
      exact IB.live a h1
    let y2 : SX K (fun cls d H'' => (∀ p ∈ cs, H'' p.1 = none) → told K cs0 (spT (SE K) (F_field K)) Qb cls d (kn cs H'')) := ⟨OB', fg cs HB, Rout K cs0 (· = z.2.2), live2, fun C fs d ws H'' s e f r hn => by
      have md : d ∉ cs.map (·.1) := fun m => by
        obtain ⟨p, hp, zz⟩ := List.mem_map.mp m
        rw [← zz, hn p hp] at e
        cases e
      exact told_of r (by rw [kn_out md]; exact e) ⟨f.1, f.2.ex (up hn)⟩ (lvB (sk s)) fun d' v' H3 s3 is3 q3 => fin d' v' H3 ((sk s).trans s3) is3 q3⟩
    have noOwn : ∀ {j : Nat} {l : Addr}, OwnAt (wipeD (datD ρ) z.2.1.vs) (wipe σ z.2.1.vs) l j → False := fun {j l} ⟨s, h1, h2, _⟩ => by
      obtain ⟨e1, _⟩ := wipeD_some h1
      obtain ⟨d, rfl, _⟩ := datD_get e1
      cases h2
    have keep : ∀ {a : Addr} {o : HO}, hid O H1 a = some o → (∀ φ, o ≠ .ext φ) → hid OB' (fg cs HB) a = some o := fun {a o} e ne => by
      obtain ⟨nO, e⟩ := hid_some e
      have mc := ncs e
      have eB := sB a o (kH a o e)
      have nB : a ∉ OB := fun m => by
        by_cases m1 : a ∈ O1
        · rcases List.mem_append.mp m1 with m1 | m1
          · exact nO m1
          · rcases List.mem_append.mp m1 with m1 | m1
            · exact mc m1
            · obtain ⟨y, hy, rfl⟩ := List.mem_map.mp m1
              have := t1.2 y hy
              rw [e] at this
              exact ne _ (Option.some.inj this)
        · have := IB.xk.2 a m m1
          rw [show (S0X y1).XH a = kn cs H1 a from rfl, kH a o e] at this
          cases this
      rw [hid_out fun m => nB (inB.mp m).1, fg_out mc]
      exact eB
    have rd : ∀ {a : Addr} {u : HO}, Rd (hid O H1) a u → (∀ φ, u ≠ .ext φ) → Rd (hid OB' (fg cs HB)) a u := fun {a u} h ne => by
      rcases h with h | ⟨o, h⟩
      · exact .inl (keep h ne)
      · exact .inr ⟨o, keep h fun _ z => by cases z⟩
    have ex : Ex2 (hid O H1) (hid OB' (fg cs HB)) := ⟨fun a vs h => keep h fun _ z => (by cases z), fun a vs h => keep h fun _ z => (by cases z), fun a C dx fs h => keep h fun _ z => (by cases z), fun a kvs h => rd h fun _ z => (by cases z), fun a kvs h => rd h fun _ z => (by cases z), fun a o kvs h => keep h fun _ z => (by cases z), fun a o vs h => keep h fun _ z => (by cases z)⟩
    have IX : EnvOk (S0X y2) OB' (wipeD (datD ρ) z.2.1.vs) (wipe σ z.2.1.vs) (fg cs HB) := {
      len := by rw [wipe_length, wipeD_length, show (datD ρ).length = ρ.length from List.length_map ..]; exact I1.len
      t := fun a _ => rfl
      sub := fun a h => h
      live := live2
      at_ := fun j s hs => by
        obtain ⟨e1, nj⟩ := wipeD_some hs
        obtain ⟨d, rfl, e2⟩ := datD_get e1
        obtain ⟨v, hv, ok⟩ := I1.at_ j _ e2
        have ok : Is K (hid O H1) v d := ok
        exact ⟨v, by rw [wipe_out nj]; exact hv, ok.ex2 ex⟩
      dis := fun i j l hi _ => (noOwn hi).elim
      outM := fun i l hi => (noOwn hi).elim
      xk := xok_start y2 }
    refine hrs z hzm _ y2 rfl OB' _ _ IX _ fun x v H'' l t is e hn => ⟨szr rfl, fun p np => ?_⟩
    have s := sk (same_of l t)
    have pO : p ∉ OB := fun m => lvB s p m np
    have s5 : Same (kn cs H'') (upd (kn cs H'') p (.tup [.str "value", v])) := NB.Same.upd np
    refine fin (.tup [.str "value", x]) (.ref p) _ (s.trans s5) (.tup (by rw [hid_out pO]; exact upd_same) (.cons (.str _) (.cons ?_ .nil))) e
    have is : Is K (hid OB' H'') v x := is
    exact is.ex fun b o e => by
      have e2 := up hn b o e
      obtain ⟨n, e2⟩ := hid_some e2
      rw [hid_out n]
      exact s5 b o e2
  have run : Run (S0X y1) (tRet (tLc (iList K (tVar 0)) (gName 1) tYes (tTryV K (TTry K cs0 (spT (SE K) (F_field K))) i.q cl cs ls σ 1) [1])) (startD [n1, n2] [.lst ((zs.map fun z => z.1).map D.loc)]) ⟨fun _ => False, fun d => d = .lst (zs.map fun z => z.2.2), fun _ => False, fun _ => False⟩ :=
    run_ret (ev_lcG (evi_list (ev_var (by rfl) ⟨_, rfl, lcGoal_eq (show (zs.map fun z => z.1).map D.loc = zs.map fun z => D.loc z.1 by rw [List.map_map]; rfl) (lc_map (l := zs) (fun z => .loc z.1) (fun z => z.2.2) hz (fun z hz => evg_name (by decide) (elt z hz)) (by rfl))⟩)))
  refine run ⟨kn cs H1, O1⟩ O1 _ (kn cs H1) start _ (fun _ _ _ _ _ _ z => z.elim) (fun d v H' l t is _ e => ?_) (fun _ _ _ _ _ _ z => z.elim) (fun _ _ _ _ _ _ z => z.elim)
  have s : Same (kn cs H1) H' := same_of l t
  have s2 : Same H1 (fg cs H') := fun a o e => by
    rw [fg_out (ncs e)]
    exact s a o (kH a o e)
  have is : Is K (hid O1 H') v d := is
  refine k d v (fg cs H') (l1.trans (Le.same s2)) ((SF (SL K i) ys).same _ _ s2 t1) (is.ex fun a o e => ?_) (e ▸ q)
  obtain ⟨n, e⟩ := hid_some e
  rw [hid_out fun m => n (List.mem_append_left _ m), fg_out fun m => n (inC m)]
  exact e
end
end NB

end PART_NB36
section PART_NB37
set_option Elab.async false
set_option linter.all false
set_option maxRecDepth 100000
set_option maxHeartbeats 4000000
set_option pp.maxSteps 400
/-! NB37: where a lambda stands in a def's text; range downwards -/
namespace Fv
open PySem PySem.Spec PyProof.Rows L2 NB
def subs : Stmt → List Stmt
  | .For _ _ b e _ => b ++ e
  | .While _ b e _ => b ++ e
  | .If _ b e _ => b ++ e
  | _ => []
def stAt (l : List Stmt) : List Nat → Stmt
  | [] => .Pass ⟨0, 0, 0, 0⟩
  | [i] => l.getD i (.Pass ⟨0, 0, 0, 0⟩)
  | i :: r => stAt (subs (l.getD i (.Pass ⟨0, 0, 0, 0⟩))) r
def asgE : Stmt → Expr
  | .Assign _ e _ => e
  | .Return (some e) _ => e
  | .Expr e _ => e
  | _ => .Constant .none 0 ⟨0, 0, 0, 0⟩
def elts : Expr → List Expr
  | .List es _ => es
  | .Call _ [.List es _] _ _ => es
  | _ => []
def lamOf : Expr → Lam
  | .Lambda p b s _ => ⟨p, b, s⟩
  | _ => ⟨⟨[], [], none, [], [], none, []⟩, .Constant .none 0 ⟨0, 0, 0, 0⟩, default⟩
def lamI (s : Stmt) (i : Nat) : Lam := lamOf ((elts (asgE s)).getD i (.Constant .none 0 ⟨0, 0, 0, 0⟩))
def hvsB (N : List Str) (ps : List Str) (vs : List Nat) : Bool := (List.range N.length).all fun i => !decide (N.getD i "" ∈ ps) || decide (i ∈ vs)
theorem hvs_by {N : List Str} {ps : List Str} {vs : List Nat} (h : hvsB N ps vs = true) : ∀ (i : Nat) (y : Str), N[i]? = some y → y ∈ ps → i ∈ vs := fun i y e m => by
  unfold hvsB at h
  simp only [List.all_eq_true, List.mem_range, Bool.or_eq_true, Bool.not_eq_true', decide_eq_true_eq, decide_eq_false_iff_not] at h
  have hi : i < N.length := by
    by_cases q : i < N.length
    · exact q
    · rw [List.getElem?_eq_none (by omega)] at e; cases e
  rcases h i hi with z | z
  · rw [List.getD_eq_getElem?_getD, e] at z
    exact absurd m z
  · exact z
end Fv
namespace NB
open PySem PySem.Spec PyProof.Rows L2
def dnD (lo : Int) (n : Nat) : List D := (List.range n).map fun i => .int (lo - (i : Nat))
theorem dnD_length (lo : Int) (n : Nat) : (dnD lo n).length = n := by simp [dnD]
theorem dnD_get {lo : Int} {n i : Nat} (h : i < n) : (dnD lo n)[i]? = some (.int (lo - (i : Nat))) := by simp [dnD, h]
theorem evi_down {S : Sys} {ρ : DEnv} {ta : TA} {Q : List D → Prop} (h : EvA S ta ρ fun ds => ∃ i j : Int, ds = [.int i, .int j, .int (-1)] ∧ (-(2 ^ 62) ≤ i ∧ i < 2 ^ 62 ∧ -(2 ^ 62) ≤ j ∧ j < 2 ^ 62) ∧ Q (dnD i (i - j).toNat)) : EvI S (iRng3 ta) ρ Q := fun O σ H I R k => by
  refine h O σ H I _ fun ds vs H1 l1 t1 i1 ⟨i, j, e, ⟨h1, h2, h3, h4⟩, q⟩ => ?_
  subst e
  obtain ⟨v, ws, rfl, i2, i3⟩ := iss_cons i1
  obtain ⟨v', ws', rfl, i4, i5⟩ := iss_cons i3
  obtain ⟨v2, ws2, rfl, i6, i7⟩ := iss_cons i5
  obtain rfl := iss_nil i7
  refine ⟨i, j, -1, (i - j).toNat, by rw [is_int i2, is_int i4, is_int i6], RgC.neg h1 h2 h3 h4, k _ _ H1 l1 t1 ?_ q⟩
  rw [dnD_length]
  refine walk_rangeC.mono (fun _ _ => trivial) fun m H2 x H3 hi _ y => ?_
  obtain ⟨e3, y⟩ := y
  subst e3
  have e4 : i + (m : Nat) * (-1) = i - (m : Nat) := by omega
  have y : x = .int (i + (m : Nat) * (-1)) := y
  rw [e4] at y
  subst y
  exact ⟨Same.refl _, _, dnD_get hi, fun O' _ _ => .int _⟩
end NB

end PART_NB37
section PART_NB38
set_option Elab.async false
set_option linter.all false
set_option maxRecDepth 100000
set_option maxHeartbeats 4000000
set_option pp.maxSteps 400
/-! NB38: an item of an owned list -/
namespace NB
open PySem PySem.Spec PyProof.Rows L2
theorem ev_ixO {S : Sys} {ρ : DEnv} {tb : TE} {Q : D → Prop} {k : Nat} {xs : List D} (hk : ρ[k]? = some (some (.own xs))) (h : Ev S tb ρ fun y => ∃ i d, y = .int i ∧ atI xs i = some d ∧ Q d) : Ev S (tOp (rIx S.K) (tVar k) tb) ρ Q := fun O σ H I Qv kq => by
  obtain ⟨v, hv, l, rfl, hl, vs, e, is⟩ := I.at_ k _ hk
  refine ⟨.ref l, hv, ?_⟩
  refine h O σ H I _ fun y u H1 l1 t1 i1 ⟨i, d, ey, ha, q⟩ => ?_
  subst ey
  obtain rfl := is_int i1
  have e1 := l1 _ _ (I.outM k l ⟨_, hk, rfl, hv⟩) e
  have is1 : Iss S.K (hid O H1) vs xs := is.ex (hid_le l1 I.sub)
  have : ∃ w, atI vs i = some w ∧ Is S.K (hid O H1) w d := by
    unfold atI at ha ⊢
    rw [is1.length]
    cases e : ixN xs.length i with
    | none => rw [e] at ha; cases ha
    | some j =>
      rw [e] at ha
      exact is1.get ha
  obtain ⟨w, hw, iw⟩ := this
  exact .inl ⟨l, vs, i, w, rfl, rfl, .inl (.inl e1), hw, kq d w H1 l1 t1 iw q⟩
end NB

namespace Fv
open PySem PySem.Spec PyProof.Rows L2 LamX NB
theorem rok {X : Cx} {k : Nat} {L : Lam} {vs : List Nat} {t : XK → TE} (ps : List Str) (h1 : LamP X.env.scope L ps) (h2 : LamBd L ps) (h3 : ∀ (i : Nat) (y : Str), X.N[i]? = some y → y ∈ ps → i ∈ vs)
    (h4 : ∀ (A : Around) (outer : List Env) (s : Shared) (H : Hp) (E : XK) (f c' : Addr), Room k (A.deeper (lamEnv X L.scope s.heap.objs.size f c')) → PE (lamCx X A outer s H E L.scope f c') L.body (t E)) : LamRok X k ⟨L, vs, t⟩ := ⟨⟨ps, h1, h2, h3, h4⟩⟩
end Fv

end PART_NB38
section PART_NB39
set_option Elab.async false
set_option linter.all false
set_option maxRecDepth 100000
set_option maxHeartbeats 4000000
set_option autoImplicit false
set_option pp.maxSteps 400
/-! NB39: len(o), repr(o), the truth of o, o an own instance; f-strings; str(n) -/
namespace NB
open PySem PySem.Spec PyProof.Rows L2
section
variable {X : Cx} {C : Addr} {sp : Sp}
def rLenI (C : Addr) (sp : Sp) : List V → Hp → VK → Prop := fun xs H Q => ∃ a dx fs, xs = [.ref a] ∧ H a = some (.ins C dx fs) ∧ sp [.ref a] H (fun v H' => ∃ n : Int, v = .int n ∧ 0 ≤ n ∧ n < 2 ^ 63 ∧ Q (.int n) H') E0
def rRepI (C : Addr) (sp : Sp) : List V → Hp → VK → Prop := fun xs H Q => ∃ a dx fs, xs = [.ref a] ∧ H a = some (.ins C dx fs) ∧ sp [.ref a] H (fun v H' => ∃ y : Str, v = .str y ∧ Q (.str y) H') E0
theorem call_lenI {j k : Nat} (m : C8.Met X.prog X.w X.K X.mg X.base k C "__len__" sp []) (hr : Room j X.A) (hk : k + 1 ≤ j := by first | decide | exact Nat.le_refl _ | omega) : CallR X (.builtin "len") (rLenI C sp) := by
  intro pins s σ H xs us Q I r ⟨a, dx, fs, ex, ha, h⟩
  subst ex
  obtain ⟨u, rfl, ru⟩ := vals1 r
  cases ru
  obtain ⟨f, fd, ps, ds, hc, hm, Fo, b, d⟩ := m.ex
  cases d
  obtain ⟨mA, J, _⟩ := ins_get I.hok ha
  obtain ⟨od, J, _⟩ := J.look
  obtain ⟨mm, hF⟩ := I.fr
  refine PySem.W.len_K hF I.ok.mod.kin J hm.at_ hm.fn (wpAny_mono (call_sp (Q := fun v H' => ∃ n : Int, v = .int n ∧ 0 ≤ n ∧ n < 2 ^ 63 ∧ Q (.int n) H') (n := k) (Sub.in1 (n := k) ⟨hr.mono hk, rfl⟩) I Fo b (.cons (show RelV (.ref a) (.ref a) from rfl) .nil) h) (fun w s' q => ?_) fun _ _ x => x)
  obtain ⟨z, H', I', rz, n, ez, h0, h1, q⟩ := q
  subst ez
  obtain ⟨t, rfl⟩ := rz
  exact ⟨⟨h0, h1⟩, .int n, H', I'.tok _, ⟨_, rfl⟩, q⟩
theorem call_repI {j k : Nat} (m : C8.Met X.prog X.w X.K X.mg X.base k C "__repr__" sp []) (hr : Room j X.A) (hk : k + 1 ≤ j := by first | decide | exact Nat.le_refl _ | omega) : CallR X (.builtin "repr") (rRepI C sp) := by
  intro pins s σ H xs us Q I r ⟨a, dx, fs, ex, ha, h⟩
  subst ex
  obtain ⟨u, rfl, ru⟩ := vals1 r
  cases ru
  obtain ⟨f, fd, ps, ds, hc, hm, Fo, b, d⟩ := m.ex
  cases d
  obtain ⟨mA, J, _⟩ := ins_get I.hok ha
  obtain ⟨od, J, _⟩ := J.look
  obtain ⟨mm, hF⟩ := I.fr
  refine PySem.W.repr_K (by show X.A.units + 1 < cLine; have := hr.un; omega) hF I.ok.mod.kin J hm.at_ hm.fn (wpAny_mono (call_sp (Q := fun v H' => ∃ y : Str, v = .str y ∧ Q (.str y) H') (n := k) (Sub.in1 (n := k) ⟨hr.mono hk, rfl⟩) I Fo b (.cons (show RelV (.ref a) (.ref a) from rfl) .nil) h) (fun w s' q => ?_) fun _ _ x => x)
  obtain ⟨z, H', I', rz, y, ez, q⟩ := q
  subst ez
  obtain ⟨t, rfl⟩ := rz
  exact ⟨.str y, H', I', ⟨_, rfl⟩, q⟩
/-- the truth of an own instance by its __bool__ -/
def rTruI (C : Addr) (sp : Sp) : V → Hp → (Bool → Hp → Prop) → Prop := fun x H Q => ∃ a dx fs, x = .ref a ∧ H a = some (.ins C dx fs) ∧ sp [.ref a] H (fun v H' => ∃ b, v = .bl b ∧ Q b H') E0
theorem tru_I {j k : Nat} (m : C8.Met X.prog X.w X.K X.mg X.base k C "__bool__" sp []) (hr : Room j X.A) (hk : k ≤ j := by first | decide | exact Nat.le_refl _ | omega) : TruR X (rTruI C sp) := by
  intro pins s σ H x v Q I rx ⟨a, dx, fs, ex, ha, h⟩
  subst ex
  cases rx
  obtain ⟨f, fd, ps, ds, hc, hm, Fo, b, d⟩ := m.ex
  cases d
  obtain ⟨mA, J, _⟩ := ins_get I.hok ha
  obtain ⟨od, J, _⟩ := J.look
  obtain ⟨mm, hF⟩ := I.fr
  refine PySem.W.truthy_K hF I.ok.mod.kin J hm.at_ hm.fn (wpAny_mono (call_sp (Q := fun v H' => ∃ b, v = .bl b ∧ Q b H') (n := k) ⟨hr.mono hk, rfl⟩ I Fo b (.cons (show RelV (.ref a) (.ref a) from rfl) .nil) h) (fun w s' q => ?_) fun _ _ x => x)
  obtain ⟨z, H', I', rz, b, ez, q⟩ := q
  subst ez
  cases rz
  exact ⟨H', I', q⟩
end
/-! ### over data -/
section
variable {K : PySem.W.Frag} {C : Addr} {F : Fn} {fs : List (Str × D)} {Q : D → Prop}
theorem spF_one {O : List Addr} {H : Hp} {v : V} {x : D} {Q2 : VK} (live : ∀ a ∈ O, H a ≠ none) (hv : Is K (hid O H) v x) (h : F.f [x] fun d => ∀ v H', Same H H' → Is K (hid O H') v d → Q2 v H') : spF (S0 K) F [v] H Q2 E0 :=
  ⟨O, [x], trivial, fun a ha => absurd ha (by simp [S0]), live, .cons hv .nil, F.mono _ _ _ (fun d c v H' l _ i => c v H' (fun a o e => l a o (by simp [S0]) e) i) h⟩
theorem rvc_lenO (h : F.f [.obj C fs] fun d => ∃ n : Nat, d = .int (n : Nat) ∧ n ≤ 100000 ∧ Q (.int (n : Nat))) : RvC K (rLenI C (spF (S0 K) F)) [.obj C fs] Q := fun O H vs live hi Qv k => by
  obtain ⟨v, ws, rfl, i1, i2⟩ := iss_cons hi
  obtain rfl := iss_nil i2
  obtain ⟨a, dx, us, rfl, e, _⟩ := is_obj i1
  refine ⟨a, dx, us, rfl, (hid_some e).2, spF_one live i1 (F.mono _ _ _ (fun d ⟨n, ed, hn, q⟩ v H' s i => ?_) h)⟩
  subst ed
  exact ⟨_, is_int i, by omega, by omega, k _ _ H' s (.int _) q⟩
theorem rvc_repO (h : F.f [.obj C fs] fun d => ∃ y, d = .str y ∧ Q (.str y)) : RvC K (rRepI C (spF (S0 K) F)) [.obj C fs] Q := fun O H vs live hi Qv k => by
  obtain ⟨v, ws, rfl, i1, i2⟩ := iss_cons hi
  obtain rfl := iss_nil i2
  obtain ⟨a, dx, us, rfl, e, _⟩ := is_obj i1
  refine ⟨a, dx, us, rfl, (hid_some e).2, spF_one live i1 (F.mono _ _ _ (fun d ⟨y, ed, q⟩ v H' s i => ?_) h)⟩
  subst ed
  exact ⟨_, is_str i, k _ _ H' s (.str _) q⟩
end
/-! ### numbers as texts -/
/-- the text of a number -/
def numS (n : Nat) : Str := toString ((n : Nat) : Int)
theorem log_small {n : Nat} (h : n ≤ 100000) : ((n : Nat) : Int).natAbs.log2 < 1920 := by
  have e : ((n : Nat) : Int).natAbs = n := by omega
  rw [e]
  rcases Nat.eq_zero_or_pos n with z | z
  · rw [z]; decide
  · have : n.log2 < 18 := (Nat.log2_lt (by omega)).mpr (Nat.lt_of_le_of_lt h (show 100000 < 2 ^ 18 by decide))
    omega
def rStr1 : List V → Hp → VK → Prop := fun xs H Q => ∃ i : Int, xs = [.int i] ∧ i.natAbs.log2 < 1920 ∧ Q (.str (toString i)) H
theorem R.cr_str {X : Cx} : CallR X (.type "str") rStr1 := call_str_int
theorem rvc_str {K : PySem.W.Frag} {n : Nat} {Q : D → Prop} (h : n ≤ 100000) (q : Q (.str (numS n))) : RvC K rStr1 [.int (n : Nat)] Q := fun O H vs live hi Qv k => by
  obtain ⟨v, ws, rfl, i1, i2⟩ := iss_cons hi
  obtain rfl := iss_nil i2
  obtain rfl := is_int i1
  exact ⟨_, rfl, log_small h, k _ _ H (Same.refl _) (.str _) q⟩
theorem ev_fmtN {S : Sys} {te : TE} {ρ : DEnv} {Q : D → Prop} (h : Ev S te ρ fun d => ∃ n : Nat, d = .int (n : Nat) ∧ n ≤ 100000 ∧ Q (.str (numS n))) : Ev S (tFmt te) ρ Q := fun O σ H I Qv k => by
  refine h O σ H I _ fun d v H1 l t i ⟨n, e, hn, q⟩ => ?_
  subst e
  exact .inr ⟨_, is_int i, log_small hn, k _ _ H1 l t (.str _) q⟩
theorem ev_fmtS {S : Sys} {te : TE} {ρ : DEnv} {Q : D → Prop} (h : Ev S te ρ fun d => ∃ y : Str, d = .str y ∧ y.length ≤ sizeLine ∧ Q (.str y)) : Ev S (tFmt te) ρ Q := fun O σ H I Qv k => by
  refine h O σ H I _ fun d v H1 l t i ⟨y, e, hn, q⟩ => ?_
  subst e
  exact .inl ⟨y, is_str i, hn, k _ _ H1 l t (.str _) q⟩
/-- the parts of an f-string -/
def EvJ (S : Sys) (ts : List TE) (acc : Str) (ρ : DEnv) (Q : Str → Prop) : Prop :=
  ∀ O σ H, EnvOk S O ρ σ H → ∀ Qv : Str → Hp → Prop, (∀ y H', Le S.M H H' → S.T H' → Q y → Qv y H') → tJs ts acc σ H Qv
theorem evj_nil {S : Sys} {acc : Str} {ρ : DEnv} {Q : Str → Prop} (q : Q acc) : EvJ S [] acc ρ Q := fun O σ H I Qv k => k acc H (Le.refl _ _) I.t q
theorem evj_cons {S : Sys} {t : TE} {ts : List TE} {acc : Str} {ρ : DEnv} {Q : Str → Prop} (h : Ev S t ρ fun d => ∃ y : Str, d = .str y ∧ (acc ++ y).length ≤ 100000 ∧ EvJ S ts (acc ++ y) ρ Q) : EvJ S (t :: ts) acc ρ Q := fun O σ H I Qv k => by
  refine h O σ H I _ fun d v H1 l t i ⟨y, e, hn, q⟩ => ?_
  subst e
  exact ⟨y, is_str i, szs hn, q O σ H1 (I.le l t) _ fun y' H2 l2 t2 q2 => k y' H2 (l.trans l2) t2 q2⟩
def tJoin (ts : List TE) : TE := fun σ H Q => tJs ts Str.empty σ H fun out H1 => Q (.str out) H1
theorem pe_join {X : Cx} {v1 v2 : Expr} {rest : List Expr} {ts : List TE} {pos : Pos} (h : PJ X (v1 :: v2 :: rest) ts) : PE X (.JoinedStr (v1 :: v2 :: rest) pos) (tJoin ts) := pe_joined h
theorem ev_join {S : Sys} {ts : List TE} {ρ : DEnv} {Q : D → Prop} (h : EvJ S ts Str.empty ρ fun y => Q (.str y)) : Ev S (tJoin ts) ρ Q := fun O σ H I Qv k => h O σ H I _ fun y H1 l t q => k (.str y) (.str y) H1 l t (.str _) q
theorem numS_len {n : Nat} (h : n ≤ 1000) : (numS n).length ≤ 4 := (by decide +kernel : ∀ m : Fin 1001, (numS m.val).length ≤ 4) ⟨n, by omega⟩
end NB

end PART_NB39
section PART_NB40
set_option Elab.async false
set_option linter.all false
set_option maxRecDepth 100000
set_option maxHeartbeats 4000000
set_option autoImplicit false
set_option pp.maxSteps 400
/-! NB40: o.m(k = v, ..) and C(k = v, ..) with all parameters named -/
namespace NB
open PySem PySem.Spec PyProof.Rows L2
/-- a method, and what is asked of its record -/
structure MetG (P : Program) (w : World) (K : PySem.W.Frag) (mg : Str → Option Value) (base : Heap) (k : Nat) (C : Addr) (m : Str) (ps : List Str) (sp : Sp) (Φ : FuncData → Prop) : Prop where
  ex : ∃ (f : Addr) (fd : FuncData), Cls K C ∧ Meth K C m f ∧ FnOk P w K mg base CX0 k f fd ps sp ∧ Φ fd
structure MakG (P : Program) (w : World) (K : PySem.W.Frag) (mg : Str → Option Value) (base : Heap) (k : Nat) (x : Str) (C : Addr) (ps : List Str) (sp : Sp) (Φ : FuncData → Prop) : Prop where
  ex : ∃ (f : Addr) (fd : FuncData), Mk K C f ∧ FnOk P w K mg base CX0 k f fd ps sp ∧ mg x = some (.ref C) ∧ Φ fd
/-- the parameters ps are bound by n values and the keywords ks, of which the parameters take those at ix -/
abbrev KwP (K : PySem.W.Frag) (ps : List Str) (n : Nat) (ks : List Str) (ix : List Nat) (fd : FuncData) : Prop := KBn K fd ps n ks (fun us ws => us ++ permL ix ws) (fun vs zs => vs ++ permL ix zs)
section
variable {P : Program} {w : World} {K : PySem.W.Frag} {mg : Str → Option Value} {base : Heap} {k : Nat} {C f0 : Addr} {x m qual : Str} {params : Arguments} {body : List Stmt} {scope : Scope} {N ps : List Str} {sp : Sp} {Φ : FuncData → Prop}
theorem MetG.met (c : MetG P w K mg base k C m ps sp fun fd => Binds K fd ps []) : C8.Met P w K mg base k C m sp [] := by
  obtain ⟨f, fd, h1, h2, h3, h4⟩ := c.ex
  exact ⟨f, fd, ps, [], h1, h2, h3, h4, .nil⟩
theorem MakG.mak {dvs : List V} (c : MakG P w K mg base k x C ps sp fun fd => ∃ ds, Vals dvs ds ∧ Binds K fd ps ds) : C8.Mak P w K mg base k x C sp dvs := by
  obtain ⟨f, fd, h1, h2, h3, ds, h4, h5⟩ := c.ex
  exact ⟨f, fd, ps, ds, h1, h2, h3, h5, h4⟩
theorem metG_of (c : Cls K C) (me : Meth K C m f0) (F : ∃ fd, FunD K m qual params body scope [] [] f0 fd) (S : FnScope N ps scope) (hΦ : ∀ fd, FunD K m qual params body scope [] [] f0 fd → Φ fd)
    (len : ∀ vs H Q E, sp vs H Q E → vs.length = ps.length)
    (hbody : ∀ (f : Addr) (cdv : Value) (A : Around) (outer : List PySem.Env) (s : Shared) (H : Hp) (vs : List V) (Q : VK) (E : XK), Room k (A.deeper (envOfC qual scope s.heap.objs.size f cdv)) → sp vs H Q E →
      ∃ t, PSs (cxOf CX0 P w K mg base N qual scope f cdv A outer s H E).nox body t ∧ t { nx := fun _ H' => Q .non H', rt := Q } (L2.start N vs) H) : MetG P w K mg base (k + 1) C m ps sp Φ := by
  obtain ⟨fd, F⟩ := F
  refine ⟨f0, fd, c, me, F.ok S len fun cdv A outer s H vs Q E hr h => ?_, hΦ fd F⟩
  obtain ⟨t, h1, h2⟩ := hbody _ cdv A outer s H vs Q E hr h
  exact ⟨t, h1.nox, h2⟩
theorem metG_ofD {Fx : Fn} (c : Cls K C) (me : Meth K C m f0) (F : ∃ fd, FunD K m qual params body scope [] [] f0 fd) (S : FnScope N ps scope) (hΦ : ∀ fd, FunD K m qual params body scope [] [] f0 fd → Φ fd)
    (len : ∀ ds R, Fx.f ds R → ds.length = ps.length)
    (hbody : ∀ (f : Addr) (cdv : Value) (A : Around) (outer : List PySem.Env) (s : Shared) (H : Hp) (E : XK), Room k (A.deeper (envOfC qual scope s.heap.objs.size f cdv)) →
      ∃ t, PSs (cxOf CX0 P w K mg base N qual scope f cdv A outer s H E).nox body t ∧ ∀ ds R, Fx.f ds R → Run (S0 K) t (startD N ds) ⟨fun _ => R .non, R, fun _ => False, fun _ => False⟩) : MetG P w K mg base (k + 1) C m ps (spF (S0 K) Fx) Φ :=
  metG_of c me F S hΦ (fun vs H Q E ⟨O, ds, _, _, _, i, f⟩ => i.length.trans (len ds _ f)) fun f cdv A outer s H vs Q E hr h => by
    obtain ⟨t, h1, h2⟩ := hbody f cdv A outer s H E hr
    exact ⟨t, h1, body_of h h2⟩
theorem makG_ofI {Fi : FnI} {dv0 : List V} (M : Mk K C f0) (hm : mg x = some (.ref C)) (F : ∃ fd, FunD K "__init__" qual params body scope dv0 [] f0 fd) (S : FnScope N ps scope)
    (hΦ : ∀ fd, FunD K "__init__" qual params body scope dv0 [] f0 fd → Φ fd) (len : ∀ ds R, Fi.f ds R → ds.length + 1 = ps.length)
    (hbody : ∀ (f : Addr) (cdv : Value) (A : Around) (outer : List PySem.Env) (s : Shared) (H : Hp) (E : XK), Room k (A.deeper (envOfC qual scope s.heap.objs.size f cdv)) →
      ∃ t, PSs (cxOf CX0 P w K mg base N qual scope f cdv A outer s H E).nox body t ∧ ∀ a ds R, Fi.f ds R → Run (S0 K) t (startI N a C ds) ⟨fun ρ' => ∃ fs, ρ'[0]? = some (some (.ownI a C fs)) ∧ R fs, fun _ => False, fun _ => False, fun _ => False⟩) :
    MakG P w K mg base (k + 1) x C ps (spI K C Fi) Φ := by
  obtain ⟨fd, F⟩ := F
  refine ⟨f0, fd, M, F.ok S (fun vs H Q E ⟨O, es, a, dx, ws, e, _, _, _, i, q⟩ => ?_) fun cdv A outer s H vs Q E hr h => ?_, hm, hΦ fd F⟩
  · rw [e, List.length_cons, i.length]
    exact len es _ q
  · obtain ⟨t, h1, h2⟩ := hbody _ cdv A outer s H E hr
    exact ⟨t, h1.nox, body_ofI h h2⟩
theorem kwp_of {dvs : List V} {f : Addr} {fd : FuncData} {n : Nat} {ks : List Str} {ix : List Nat} (F : FunD K x qual params body scope dvs [] f fd)
    (h : ∀ (dV kV doc pm : Value) (an : Option Addr) (cdv ct : Value) (us ws : List Value), us.length = n → ws.length = ks.length → bindArgs (PySem.W.fnOf x qual params body scope dV kV doc pm an cdv ct) ⟨us, ks.zip ws⟩ = pure (ps.zip (us ++ permL ix ws))) : KwP K ps n ks ix fd := by
  obtain ⟨oc, od, dV, kV, doc, pm, an, cdv, ct, osl, rfl, lk, hcd, hD, hK⟩ := F.ex
  exact ⟨fun s us ws X l1 l2 => .of_eq (h dV kV doc pm an cdv ct us ws l1 l2), fun r1 r2 => r1.append (vals_perm r2 ix)⟩
end
def tMethKP (C : Addr) (m : Str) (ix : List Nat) (l : Nat) (sp : Sp) (E : XK) (ta : TE) (tk : TA) : TE := fun σ H Q => ta σ H fun x H1 => ∃ a dx fs, x = .ref a ∧ H1 a = some (.ins C dx fs) ∧ fs.lookup m = none ∧ tk σ H1 fun zs H2 => zs.length = l ∧ sp ([.ref a] ++ permL ix zs) H2 Q E
def tMakeKP (C : Addr) (ix : List Nat) (l : Nat) (sp : Sp) (E : XK) (tk : TA) : TE := tMakeK C 0 l sp (fun vs zs => vs ++ permL ix zs) E tNil tk
section
variable {X : Cx} {k j : Nat} {C : Addr} {x m : Str} {ps ks : List Str} {ix : List Nat} {sp : Sp} {o : Expr} {kws : List Keyword} {p pos apos : Pos} {ta : TE} {tk : TA}
theorem pe_mtK0 {pl : Sem Bool} (ix : List Nat) (c : MetG X.prog X.w X.K X.mg X.base k C m ps sp (KwP X.K ps 1 ks ix)) (hr : Room j X.A) (he : PE X o ta) (hkw : PK X kws tk) (hk : k ≤ j := by first | decide | exact Nat.le_refl _ | omega)
    (hall : (backToKw pos (keywordEach kws X.env)).all (·.1.isSome) = true := by rfl) (hks : (backToKw pos (keywordEach kws X.env)).filterMap (·.1) = ks := by rfl)
    (hpl : ((backTo pos (starEach [] X.env)).any (·.1) || (backToKw pos (keywordEach kws X.env)).any (·.1.isNone)) = false := by rfl)
    (ht : eval (.Call (.Attribute o m apos) [] kws pos) X.env = (do
      let ov ← eval o X.env
      standAt apos.atName
      let (f, first) ← holding [ov] (getMethod ov m pl)
      callWith pos f first (backTo pos (starEach [] X.env)) (backToKw pos (keywordEach kws X.env))) := by rfl) :
    PE X (.Call (.Attribute o m apos) [] kws pos) (tMethKP C m ix ks.length sp E0 ta tk) := by
  obtain ⟨f, fd, hc, hm, Fo, b⟩ := c.ex
  refine ⟨fun pins s σ H Q I h => ?_⟩
  refine PySem.W.methodCall_KW (pl := pl) (thn (he.run pins s σ H _ I h) fun u s1 ⟨x, H1, I1, rx, a, dx, fs, ex, ea, l, q⟩ => ?_) ht
  subst ex
  obtain rfl : u = Value.ref a := rx
  refine getmeth_ok I1 ea hc hm l ?_
  refine PySem.W.callWith_KW0 (first := [.ref a]) (h₀ := X.base) I.ok.mod.kin hm.kp hall ?_ hpl
  refine thn (hkw.run pos pins s1 σ H1 _ I1 q) fun ws s2 ⟨zs, H2, I2, rz, l2, q2⟩ => ⟨I2.kIn, ?_⟩
  rw [hks]
  exact run_fnN (us := [.ref a]) (vs := [.ref a]) Fo (hr.mono hk) b pass0 I2 (.cons rfl .nil) rz rfl l2 q2
theorem pe_mkK0 (ix : List Nat) (c : MakG X.prog X.w X.K X.mg X.base k x C ps sp (KwP X.K ps 1 ks ix)) (hr : Room j X.A) (hkw : PK X kws tk) (hk : k + 1 ≤ j := by first | decide | exact Nat.le_refl _ | omega) (hg : Gl X x := by rfl)
    (hall : (backToKw pos (keywordEach kws X.env)).all (·.1.isSome) = true := by rfl) (hks : (backToKw pos (keywordEach kws X.env)).filterMap (·.1) = ks := by rfl) (hdb : (x == ("__debug__" : Str)) = false := by decide)
    (hpl : ((backTo pos (starEach [] X.env)).any (·.1) || (backToKw pos (keywordEach kws X.env)).any (·.1.isNone)) = false := by rfl) :
    PE X (.Call (.Name x p) [] kws pos) (tMakeKP C ix ks.length sp E0 tk) := by
  obtain ⟨f, fd, M, Fo, hm, b⟩ := c.ex
  exact pe_makeK0 M Fo (hr.mono hk) hg hm b pass0 hkw hall hks hdb hpl
end
section
variable {S : Sys} {ρ : DEnv} {C : Addr} {ix : List Nat} {l : Nat} {ta : TE} {tk : TA} {Q : D → Prop}
theorem ev_methK {m : Str} {F : Fn} {E : XK} (h : Ev S ta ρ fun x => ∃ fs, x = .obj C fs ∧ fs.lookup m = none ∧ EvA S tk ρ fun ds => ds.length = l ∧ F.f ([x] ++ permL ix ds) Q) : Ev S (tMethKP C m ix l (spF (S0 S.K) F) E ta tk) ρ Q := fun O σ H I Qv k => by
  refine h O σ H I _ fun x v H1 l1 t1 i1 ⟨fs, ex, e, h2⟩ => ?_
  subst ex
  obtain ⟨a, dx, us, rfl, ha, ke, is⟩ := is_obj i1
  have e1 : us.lookup m = none := by
    rcases (kv_of ke is).mapL (k := m) with ⟨v, d', e1, e2, i⟩ | ⟨e1, _⟩
    · rw [e] at e2; cases e2
    · exact e1
  refine ⟨a, dx, us, rfl, (hid_some ha).2, e1, ?_⟩
  refine h2 O σ H1 (I.le l1 t1) _ fun ds vs H2 l2 t2 i2 ⟨z, q⟩ => ⟨i2.length.trans z, ?_⟩
  refine ⟨O, [.obj C fs] ++ permL ix ds, trivial, fun a ha => absurd ha (by simp [S0]), (I.le (l1.trans l2) t2).live, Iss.append (show Iss (S0 S.K).K (hid O H2) [.ref a] [.obj C fs] from .cons (i1.ex (hid_le l2 I.sub)) .nil) (iss_perm i2 ix), F.mono _ _ _ (fun d c v H' l _ i => ?_) q⟩
  have l' : Same H2 H' := fun a o e => l a o (by simp [S0]) e
  exact k d v H' ((l1.trans l2).trans (Le.same l')) (S.same _ _ l' t2) i c
theorem ev_makeK {F : FnI} {E : XK} (h : EvA S tk ρ fun ds => ds.length = l ∧ F.f (permL ix ds) fun fs => Q (.obj C fs)) : Ev S (tMakeKP C ix l (spI S.K C F) E tk) ρ Q := fun O σ H I Qv k => by
  show tk σ H _
  refine h O σ H I _ fun ds vs H1 l1 t1 i1 ⟨z, q⟩ => ⟨rfl, i1.length.trans z, ?_⟩
  intro x dx hx hdx nx
  have I1 := I.le l1 t1
  have nO : x ∉ O := fun m => I1.live x m hx
  have nD : dx ∉ O := fun m => I1.live dx m hdx
  have s1 : Same H1 (upd (upd H1 dx (.own x)) x (.ins C dx [])) := fun a o e => by
    rw [upd_ne (ne_of_none e hx), upd_ne (ne_of_none e hdx)]
    exact e
  refine ⟨O, permL ix ds, x, dx, permL ix vs, rfl, upd_same, nO, fun b hb e => ?_, (iss_perm i1 ix).ex fun a o e => ?_, F.mono _ _ _ (fun fs c H' us dx' l' e' kv => ⟨rfl, ?_⟩) q⟩
  · cases q : H1 b with
    | none => exact I1.live b hb q
    | some o => rw [s1 b o q] at e; cases e
  · obtain ⟨n, e⟩ := hid_some e
    have na : a ≠ x := ne_of_none e hx
    rw [hid_out (by simp only [List.mem_cons, not_or]; exact ⟨na, n⟩)]
    exact s1 a o e
  · have ls : Same H1 H' := fun a o e => l' a o (by simp only [List.mem_singleton]; exact ne_of_none e hx) (s1 a o e)
    exact k _ _ H' (l1.trans (Le.same ls)) (S.same _ _ ls t1) (.obj (by rw [hid_out nO]; exact e') (kv.ex (hid_sub fun b hb => List.mem_cons_of_mem _ hb)).keys (kv.ex (hid_sub fun b hb => List.mem_cons_of_mem _ hb)).vals) c
end
end NB

end PART_NB40
section PART_NB41
set_option Elab.async false
set_option linter.all false
set_option maxRecDepth 100000
set_option maxHeartbeats 4000000
set_option autoImplicit false
set_option pp.maxSteps 400
/-! NB41: methods and constructors that raise, over data -/
namespace NB
open PySem PySem.Spec PyProof.Rows L2
/-! ### methods -/
structure MetX (P : Program) (w : World) (K : PySem.W.Frag) (mg : Str → Option Value) (base : Heap) (k : Nat) (C : Addr) (m : Str) (sp : Sp) : Prop where
  ex : ∃ (f : Addr) (fd : FuncData) (ps : List Str), Cls K C ∧ Meth K C m f ∧ FnOk P w K mg base (L2.CX P w) k f fd ps sp ∧ Binds K fd ps []
theorem met_ofX {P : Program} {w : World} {K : PySem.W.Frag} {mg : Str → Option Value} {base : Heap} {m qual : Str} {C f0 : Addr} {params : Arguments} {body : List Stmt} {scope : Scope} {N ps : List Str} {k : Nat} {Fx : FnX}
    (c : Cls K C) (me : Meth K C m f0) (F : ∃ fd, FunD K m qual params body scope [] [] f0 fd) (S : FnScope N ps scope)
    (hb : ∀ (kV doc pm : Value) (an : Option Addr) (cdv ct : Value) (us : List Value), us.length = ps.length → bindArgs (PySem.W.fnOf m qual params body scope .none kV doc pm an cdv ct) ⟨us, []⟩ = pure (ps.zip us))
    (len : ∀ ds R Rx, Fx.f ds R Rx → ds.length = ps.length)
    (hbody : ∀ (f : Addr) (cdv : Value) (A : Around) (outer : List PySem.Env) (s : Shared) (H : Hp) (E : XK), Room k (A.deeper (envOfC qual scope s.heap.objs.size f cdv)) →
      ∃ t, PSs (cxOf (L2.CX P w) P w K mg base N qual scope f cdv A outer s H E) body t ∧ ∀ (y : SX K E) ds R, Fx.f ds R y.R → Run (S0X y) t (startD N ds) ⟨fun _ => R .non, R, fun _ => False, fun _ => False⟩) : MetX P w K mg base (k + 1) C m (spX K Fx) := by
  obtain ⟨fd, F⟩ := F
  refine ⟨f0, fd, ps, c, me, F.ok S (fun vs H Q E ⟨O, ds, _, i, f⟩ => i.length.trans (len ds _ _ f)) fun cdv A outer s H vs Q E hr h => ?_, F.bindsN hb⟩
  obtain ⟨t, h1, h2⟩ := hbody _ cdv A outer s H E hr
  exact ⟨t, h1, body_ofX h h2⟩
section
variable {X : Cx} {k j : Nat} {C : Addr} {x m : Str} {sp : Sp} {E : XK} {o e : Expr} {es : List Expr} {p pos apos : Pos} {ta : TE} {t : TA}
theorem pe_mtX {pl : Sem Bool} (c : MetX X.prog X.w X.K X.mg X.base k C m sp) (hr : Room j X.A) (hx : Passes (L2.CX X.prog X.w) X E) (he : PE X o ta) (ha : PA X (e :: es) t) (hk : k ≤ j := by first | decide | exact Nat.le_refl _ | omega)
    (hst : starEach (e :: es) X.env = (false, eval e X.env) :: starEach es X.env := by rfl) (hpl : (backTo pos (starEach es X.env)).any (·.1) = false := by rfl)
    (ht : eval (.Call (.Attribute o m apos) (e :: es) [] pos) X.env = (do
      let ov ← eval o X.env
      standAt apos.atName
      let (f, first) ← holding [ov] (getMethod ov m pl)
      callWith pos f first (backTo pos (starEach (e :: es) X.env)) (backToKw pos (keywordEach [] X.env))) := by rfl) :
    PE X (.Call (.Attribute o m apos) (e :: es) [] pos) (tMeth C m sp [] E ta t) := by
  obtain ⟨f, fd, ps, hc, hm, F, b⟩ := c.ex
  exact pe_meth (pl := pl) he hc hm F (hr.mono hk) b .nil hx ha hst hpl ht
theorem pe_mtX0 {pl : Sem Bool} (c : MetX X.prog X.w X.K X.mg X.base k C m sp) (hr : Room j X.A) (hx : Passes (L2.CX X.prog X.w) X E) (he : PE X o ta) (hk : k ≤ j := by first | decide | exact Nat.le_refl _ | omega)
    (ht : eval (.Call (.Attribute o m apos) [] [] pos) X.env = (do
      let ov ← eval o X.env
      standAt apos.atName
      let (f, first) ← holding [ov] (getMethod ov m pl)
      callWith pos f first (backTo pos (starEach [] X.env)) (backToKw pos (keywordEach [] X.env))) := by rfl) :
    PE X (.Call (.Attribute o m apos) [] [] pos) (tMeth C m sp [] E ta tNil) := by
  obtain ⟨f, fd, ps, hc, hm, F, b⟩ := c.ex
  exact pe_meth0 (pl := pl) he hc hm F (hr.mono hk) b .nil hx ht
end
section
variable {S : Sys} {ρ : DEnv} {C : Addr} {ta : TE} {t : TA} {Q : D → Prop}
theorem ev_methX {m : Str} {F : FnX} (h : Ev S ta ρ fun x => ∃ fs, x = .obj C fs ∧ fs.lookup m = none ∧ EvA S t ρ fun ds => F.f (x :: ds) Q S.R) : Ev S (tMeth C m (spX S.K F) [] S.E ta t) ρ Q := fun O σ H I Qv k => by
  refine h O σ H I _ fun x v H1 l1 t1 i1 ⟨fs, ex, e, h2⟩ => ?_
  subst ex
  obtain ⟨a, dx, us, rfl, ha, ke, is⟩ := is_obj i1
  have e1 : us.lookup m = none := by
    rcases (kv_of ke is).mapL (k := m) with ⟨v, d', e1, e2, i⟩ | ⟨e1, _⟩
    · rw [e] at e2; cases e2
    · exact e1
  refine ⟨a, dx, us, rfl, (hid_some ha).2, e1, ?_⟩
  refine h2 O σ H1 (I.le l1 t1) _ fun ds vs H2 l2 t2 i2 q => ?_
  rw [List.append_nil]
  have I2 := I.le (l1.trans l2) t2
  have i1' : Is S.K (hid O H2) (.ref a) (.obj C fs) := i1.ex (hid_le l2 I.sub)
  refine ⟨O, .obj C fs :: ds, I2.live, .cons i1' i2, F.mono _ _ _ _ _ (fun d c v H' l i => ?_) (fun C fs r d ws H' l e f => ?_) q⟩
  · exact k d v H' ((l1.trans l2).trans (Le.same l)) (S.same _ _ l t2) i c
  · exact S.take C fs d ws H' (I2.xle.trans (Le.same l)) (S.same _ _ l t2) e (f.sub I.sub) r
end
/-! ### constructors -/
structure FnIX where
  f : List D → (List (Str × D) → Prop) → (Addr → List (Str × D) → Prop) → Prop
  mono : ∀ ds Q Q' R R', (∀ d, Q d → Q' d) → (∀ C fs, R C fs → R' C fs) → f ds Q R → f ds Q' R'
def spIX (K : PySem.W.Frag) (C : Addr) (F : FnIX) : Sp := fun vs H Q E => ∃ O ds a dx ws, vs = .ref a :: ws ∧ H a = some (.ins C dx []) ∧ a ∉ O ∧ (∀ b ∈ O, H b ≠ none) ∧ Iss K (hid (a :: O) H) ws ds ∧
  F.f ds (fun fs => ∀ H' us dx', Le [a] H H' → H' a = some (.ins C dx' us) → Kv K (hid (a :: O) H') us fs → Q .non H')
    (fun Cx fs => ∀ d ws H', Le [a] H H' → H' d = some (.xd ws) → FsIs K (hid O H') ws fs → E (.ref Cx) (some d) H')
theorem body_ofIX {K : PySem.W.Frag} {C : Addr} {F : FnIX} {ts : TS} {N : List Str} {vs : List V} {H : Hp} {Q : VK} {E : XK} (h : spIX K C F vs H Q E)
    (hr : ∀ (y : SX K E) a ds R, F.f ds R y.R → Run (S0X y) ts (startI N a C ds) ⟨fun ρ' => ∃ fs, ρ'[0]? = some (some (.ownI a C fs)) ∧ R fs, fun _ => False, fun _ => False, fun _ => False⟩) :
    ts { nx := fun _ H' => Q .non H', rt := Q } (L2.start N vs) H := by
  obtain ⟨O, ds, a, dx, ws, rfl, ha, na, live, i, q⟩ := h
  have hl : 0 < (startD N (.loc a :: ds)).length := by simp [startD]
  have at_ : ∀ (i : Nat) (s : Sl), (startI N a C ds)[i]? = some (some s) → (i = 0 ∧ s = .ownI a C []) ∨ (∃ d, s = .dat d ∧ (D.loc a :: ds)[i]? = some d ∧ i ≠ 0) := fun i s h => by
    unfold startI at h
    by_cases e : 0 = i
    · subst e
      rw [List.getElem?_set_self hl] at h
      cases h
      exact .inl ⟨rfl, rfl⟩
    · rw [List.getElem?_set_ne e] at h
      unfold startD at h
      by_cases hi : i < (D.loc a :: ds).length
      · rw [List.getElem?_append_left (by simpa using hi), List.getElem?_map] at h
        cases e2 : (D.loc a :: ds)[i]? with
        | none => rw [e2] at h; cases h
        | some d =>
          rw [e2] at h
          exact .inr ⟨d, (Option.some.inj (Option.some.inj h)).symm, rfl, fun z => e z.symm⟩
      · rw [List.getElem?_append_right (by simpa using hi), List.getElem?_replicate] at h
        split at h <;> cases h
  have own : ∀ i l, OwnAt (startI N a C ds) (L2.start N (.ref a :: ws)) l i → i = 0 ∧ l = a := fun i l ⟨s, h1, h2, h3⟩ => by
    rcases at_ i s h1 with ⟨rfl, _⟩ | ⟨d, rfl, _⟩
    · refine ⟨rfl, ?_⟩
      have e : (L2.start N (.ref a :: ws))[0]? = some (some (V.ref a)) := by unfold L2.start; simp
      rw [e] at h3
      cases h3
      rfl
    · cases h2
  have hO : ∀ b ∈ O, hid [a] H b = H b := fun b hb => hid_out (by simp only [List.mem_singleton]; exact fun z => na (by rw [← z]; exact hb))
  have toLe : ∀ {H' : Hp}, Same (hid [a] H) H' → Le [a] H H' := fun s b o nb e => s b o ((hid_out nb).trans e)
  let y : SX K E := ⟨O, hid [a] H, fun Cx fs => ∀ d ws H', Le [a] H H' → H' d = some (.xd ws) → FsIs K (hid O H') ws fs → E (.ref Cx) (some d) H', fun b hb => by rw [hO b hb]; exact live b hb, fun C fs d ws H' s e k r => r d ws H' (toLe s) e k⟩
  have I : SOk (S0X y) ⟨hid [a] H, O⟩ (a :: O) (startI N a C ds) (L2.start N (.ref a :: ws)) H := ⟨{
    len := by unfold startI startD L2.start; simp [i.length]
    t := fun b hb => (hO b hb).symm
    sub := fun b hb => List.mem_cons_of_mem _ hb
    live := fun b hb => by
      rcases List.mem_cons.mp hb with rfl | hb
      · rw [ha]; exact fun z => by cases z
      · exact live b hb
    at_ := fun j s hs => by
      rcases at_ j s hs with ⟨rfl, rfl⟩ | ⟨d, rfl, hd, hj⟩
      · exact ⟨.ref a, by unfold L2.start; simp, a, rfl, List.mem_cons_self, rfl, dx, [], ha, rfl, .nil⟩
      · obtain ⟨j', rfl⟩ : ∃ j', j = j' + 1 := ⟨j - 1, by omega⟩
        have hd' : ds[j']? = some d := by simpa using hd
        obtain ⟨v, hv, iv⟩ := i.get hd'
        refine ⟨v, ?_, iv⟩
        have hj : j' < ws.length := by
          by_cases h : j' < ws.length
          · exact h
          · rw [List.getElem?_eq_none (by simpa using h)] at hv; cases hv
        unfold L2.start
        rw [List.getElem?_append_left (by simpa using hj), List.getElem?_map, List.getElem?_cons_succ, hv] <;> rfl
    dis := fun i j l hi hj => (own i l hi).1.trans (own j l hj).1.symm
    outM := fun i l h => by rw [(own i l h).2]; exact na
    xk := ⟨fun b o _ e => (hid_some e).2, fun l hl n => by
      rcases List.mem_cons.mp hl with rfl | hl
      · exact if_pos List.mem_cons_self
      · exact absurd hl n⟩ }, fun b hb => List.mem_cons_of_mem _ hb, fun b o _ e => (hid_some e).2, fun b hb e => by
      have e' : hid [a] H b = none := e
      rw [hO b hb] at e'
      exact live b hb e', fun i l h => by
      obtain ⟨_, rfl⟩ := own i l h
      exact if_pos List.mem_cons_self⟩
  refine hr y a ds _ q _ _ _ H I _ (fun ρ' O' σ' H' I' _ ⟨fs, h0, r⟩ => ?_) (fun _ _ _ _ _ _ _ z => z.elim) (fun _ _ _ _ _ _ z => z.elim) (fun _ _ _ _ _ _ z => z.elim)
  obtain ⟨v, hv, l, rfl, hl2, rfl, dx', us, e, ke, is⟩ := I'.env.at_ 0 _ h0
  refine r H' us dx' (toLe (same_of I'.le I'.env.t)) e ((kv_of ke is).ex (hid_sub fun b hb => ?_))
  rcases List.mem_cons.mp hb with rfl | hb
  · exact hl2
  · exact I'.sub b hb
structure MakX (P : Program) (w : World) (K : PySem.W.Frag) (mg : Str → Option Value) (base : Heap) (k : Nat) (x : Str) (C : Addr) (sp : Sp) (dvs : List V) : Prop where
  ex : ∃ (f : Addr) (fd : FuncData) (ps : List Str) (ds : List Value), Mk K C f ∧ FnOk P w K mg base (L2.CX P w) k f fd ps sp ∧ mg x = some (.ref C) ∧ Binds K fd ps ds ∧ Vals dvs ds
theorem mak_ofX {P : Program} {w : World} {K : PySem.W.Frag} {mg : Str → Option Value} {base : Heap} {x qual : Str} {C f0 : Addr} {params : Arguments} {body : List Stmt} {scope : Scope} {N ps : List Str} {k : Nat} {Fi : FnIX} {dvs dv0 : List V}
    (M : Mk K C f0) (hm : mg x = some (.ref C)) (F : ∃ fd, FunD K "__init__" qual params body scope dv0 [] f0 fd) (S : FnScope N ps scope)
    (hb : ∀ fd, FunD K "__init__" qual params body scope dv0 [] f0 fd → ∃ ds, Vals dvs ds ∧ Binds K fd ps ds) (len : ∀ ds R Rx, Fi.f ds R Rx → ds.length + 1 = ps.length)
    (hbody : ∀ (f : Addr) (cdv : Value) (A : Around) (outer : List PySem.Env) (s : Shared) (H : Hp) (E : XK), Room k (A.deeper (envOfC qual scope s.heap.objs.size f cdv)) →
      ∃ t, PSs (cxOf (L2.CX P w) P w K mg base N qual scope f cdv A outer s H E) body t ∧ ∀ (y : SX K E) a ds R, Fi.f ds R y.R → Run (S0X y) t (startI N a C ds) ⟨fun ρ' => ∃ fs, ρ'[0]? = some (some (.ownI a C fs)) ∧ R fs, fun _ => False, fun _ => False, fun _ => False⟩) :
    MakX P w K mg base (k + 1) x C (spIX K C Fi) dvs := by
  obtain ⟨fd, F⟩ := F
  obtain ⟨ds, v, b⟩ := hb fd F
  refine ⟨f0, fd, ps, ds, M, F.ok S (fun vs H Q E ⟨O, es, a, dx, ws, e, _, _, _, i, q⟩ => ?_) fun cdv A outer s H vs Q E hr h => ?_, hm, b, v⟩
  · rw [e, List.length_cons, i.length]
    exact len es _ _ q
  · obtain ⟨t, h1, h2⟩ := hbody _ cdv A outer s H E hr
    exact ⟨t, h1, body_ofIX h h2⟩
section
variable {X : Cx} {k j : Nat} {C : Addr} {x : Str} {sp : Sp} {dvs : List V} {E : XK} {e : Expr} {es : List Expr} {p pos : Pos} {t : TA}
theorem pe_mkX (c : MakX X.prog X.w X.K X.mg X.base k x C sp dvs) (hr : Room j X.A) (hx : Passes (L2.CX X.prog X.w) X E) (ha : PA X (e :: es) t) (hk : k + 1 ≤ j := by first | decide | exact Nat.le_refl _ | omega) (hg : Gl X x := by rfl)
    (hdb : (x == ("__debug__" : Str)) = false := by decide) (he : starEach (e :: es) X.env = (false, eval e X.env) :: starEach es X.env := by rfl) (hpl : (backTo pos (starEach es X.env)).any (·.1) = false := by rfl) :
    PE X (.Call (.Name x p) (e :: es) [] pos) (tMake C sp dvs E t) := by
  obtain ⟨f, fd, ps, ds, M, F, hm, b, d⟩ := c.ex
  exact pe_make M F (hr.mono hk) hg hm b d hx ha hdb he hpl
end
section
variable {S : Sys} {ρ : DEnv} {C : Addr} {t : TA} {Q : D → Prop}
theorem ev_makeX {F : FnIX} {dvs : List V} {dds : List D} (hd : ∀ H, Iss S.K H dvs dds) (h : EvA S t ρ fun ds => F.f (ds ++ dds) (fun fs => Q (.obj C fs)) S.R) : Ev S (tMake C (spIX S.K C F) dvs S.E t) ρ Q := fun O σ H I Qv k => by
  refine h O σ H I _ fun ds vs H1 l1 t1 i1 q => ?_
  intro x dx hx hdx nx
  have I1 := I.le l1 t1
  have nO : x ∉ O := fun m => I1.live x m hx
  have nD : dx ∉ O := fun m => I1.live dx m hdx
  have s1 : Same H1 (upd (upd H1 dx (.own x)) x (.ins C dx [])) := fun a o e => by
    rw [upd_ne (ne_of_none e hx), upd_ne (ne_of_none e hdx)]
    exact e
  have s2 : ∀ {H'}, Le [x] (upd (upd H1 dx (.own x)) x (.ins C dx [])) H' → Same H1 H' := fun l a o e => l a o (by simp only [List.mem_singleton]; exact ne_of_none e hx) (s1 a o e)
  refine ⟨O, ds ++ dds, x, dx, vs ++ dvs, rfl, upd_same, nO, fun b hb e => ?_, Iss.append (i1.ex fun a o e => ?_) (hd _), F.mono _ _ _ _ _ (fun fs c H' us dx' l' e' kv => ⟨rfl, ?_⟩) (fun Cx fs r d ws H' l e f => ?_) q⟩
  · cases q : H1 b with
    | none => exact I1.live b hb q
    | some o => rw [s1 b o q] at e; cases e
  · obtain ⟨n, e⟩ := hid_some e
    have na : a ≠ x := ne_of_none e hx
    rw [hid_out (by simp only [List.mem_cons, not_or]; exact ⟨na, n⟩)]
    exact s1 a o e
  · have ls := s2 l'
    exact k _ _ H' (l1.trans (Le.same ls)) (S.same _ _ ls t1) (.obj (by rw [hid_out nO]; exact e') (kv.ex (hid_sub fun b hb => List.mem_cons_of_mem _ hb)).keys (kv.ex (hid_sub fun b hb => List.mem_cons_of_mem _ hb)).vals) c
  · have ls := s2 l
    exact S.take Cx fs d ws H' (I1.xle.trans (Le.same ls)) (S.same _ _ ls t1) e (f.sub I.sub) r
end
end NB

end PART_NB41
section PART_NB42
set_option Elab.async false
set_option linter.all false
set_option maxRecDepth 100000
set_option maxHeartbeats 4000000
set_option autoImplicit false
set_option pp.maxSteps 400
/-! NB42: an __init__ of an own class that begins with super().__init__(..), the class above it an own one too; at the machine's level -/
namespace Ks
open PySem PySem.Spec PyProof.Rows L2 NB
open PySem.W (Frag)
/-- the scope of such a def: no cells, and __class__ alone comes from without -/
structure KScope (N P : List Str) (sc : Scope) : Prop where
  kind : sc.kind = .function
  co : sc.isCoroutine = false
  gen : sc.isGenerator = false
  nd : N.Nodup
  pre : N.take P.length = P
  par : ∀ x ∈ P, sc.names.lookup x = some .local
  nocell : ∀ y ∈ sc.names, y.2 ≠ .cell
  free : ∀ y ∈ sc.names, y.2 = .free → y.1 = "__class__"
  cls : sc.names.lookup ("__class__" : Str) = some .free
  sup : sc.names.lookup ("super" : Str) = some .globalImplicit
  self : P.head? = some "self"
def cxK (CX : CXT) (P : Program) (w : World) (K : Frag) (mg : Str → Option Value) (base : Heap) (N : List Str) (qual : Str) (scope : Scope) (f : Addr) (cd : Value) (cc : Addr) (A : Around) (outer : List Env) (s : Shared) (H : Hp) (E : XK) : Cx where
  prog := P
  w := w
  K := K
  mg := mg
  base := base
  A := A.deeper (PySem.W.ksEnv qual scope s.heap.objs.size f cd cc)
  N := N
  s_0 := s
  H_0 := H
  env := PySem.W.ksEnv qual scope s.heap.objs.size f cd cc
  outer := outer
  stack := PySem.W.ksEnv qual scope s.heap.objs.size f cd cc :: outer
  ex := []
  calm := true
  fn := fun x => !decide (x = "__class__")
  pn := []
  xe := fun e s' => wpAny (model P w) (A.deeper (PySem.W.ksEnv qual scope s.heap.objs.size f cd cc)) (leaving (PySem.W.ksEnv qual scope s.heap.objs.size f cd cc) e) (fun _ s'' => CX outer H s E e s'') (fun e' s'' => CX outer H s E e' s'') s'
theorem rev_at {x : Str} {u : Value} : ∀ {l : List (Str × Value)}, (l.map (·.1)).Nodup → (x, u) ∈ l → l.reverse.lookup x = some u
  | [], _, h => by cases h
  | (y, v) :: l, nd, h => by
    rw [List.map_cons, List.nodup_cons] at nd
    rw [List.reverse_cons, List.lookup_append]
    rcases List.mem_cons.mp h with e | h
    · cases e
      have : l.reverse.lookup x = none := Xm.look_no fun v m => nd.1 (List.mem_map.mpr ⟨(x, v), List.mem_reverse.mp m, rfl⟩)
      rw [this]
      simp
    · rw [rev_at nd.2 h]
      rfl
theorem inv_startK {CX : CXT} {P : Program} {w : World} {K : Frag} {mg : Str → Option Value} {base : Heap} {N ps : List Str} {qual : Str} {scope : Scope} {f cc C : Addr} {cd : Value} {A : Around} {outer : List Env} {s : Shared} {h0 : Heap} {tk : Nat} {H : Hp} {E : XK} {us : List Value} {vs : List V}
    (S : KScope N ps scope) (hd : A.handled = none) (e0 : Env0 P w K mg base A outer s H) (hl : vs.length = ps.length) (r : Vals vs us) (hcc : ∃ a b c, K.lookup cc = some ⟨a, b, .cell (some (.ref C)), c⟩)
    (hns : h0.Ns s.heap.objs.size (fun y => (ps.zip us).reverse.lookup y)) (hk : ∀ b o, s.heap.get? b = some o → h0.get? b = some o) :
    Inv (cxK CX P w K mg base N qual scope f cd cc A outer s H E) [] (L2.start N vs) H { s with heap := h0, toks := tk } := by
  have hpl : ps.length ≤ N.length := by have := congrArg List.length S.pre; rw [List.length_take] at this; omega
  have noA : ∀ b : Addr, b ∉ (cxK CX P w K mg base N qual scope f cd cc A outer s H E).ex := fun b z => absurd (show b ∈ ([] : List Addr) from z) (by simp)
  obtain ⟨ka, kb, kc, hcc⟩ := hcc
  have bcc := e0.bs _ _ (e0.mod.kin _ _ hcc)
  have one : ∀ {y : Str} {c : Addr}, ([(("__class__" : Str), cc)] : List (Str × Addr)).lookup y = some c → y = "__class__" ∧ c = cc := fun {y c} h => by
    by_cases e : y = "__class__"
    · subst e
      simp at h
      exact ⟨rfl, h.symm⟩
    · simp [List.lookup, beq_eq_false_iff_ne.mpr e] at h
  refine ⟨⟨e0.mod, S.kind, rfl, rfl, Nat.le_refl _, fun y z c h1 h2 => (one h1).1.trans (one h2).1.symm, fun y hy => ?_, fun y c hf h => ?_, fun _ => hd, Around.frames_deeper e0.frames, .inr ⟨rfl, rfl⟩, fun b z => absurd z (noA b), e0.bs, e0.bsz, fun b _ _ => noA b, fun b z => absurd z (noA b), e0.funs, e0.frf⟩,
    rfl, e0.bare, Un.kept hk, ⟨_, hns, fun i y v h1 h2 h3 => ?_⟩, fun y c h => ?_, e0.hok.fresh (Nat.le_refl _), fun y c h => ?_, fun p hp => absurd (show p ∈ ([] : List (Addr × Obj)) from hp) (by simp), e0.hok.kept hk, ?_⟩
  · have hy : scope.names.lookup y = some .cell ∨ scope.names.lookup y = some .free := hy
    rcases hy with hy | hy
    · exact absurd rfl (S.nocell _ (PySem.mem_of_lookup hy))
    · have : y = "__class__" := S.free _ (PySem.mem_of_lookup hy) rfl
      subst this
      exact ⟨cc, by show ([(("__class__" : Str), cc)] : List (Str × Addr)).lookup _ = _; simp⟩
  · have e := (one h).1
    subst e
    cases hf
  · have hi : i < vs.length := by
      unfold L2.start at h2
      by_cases hi : i < vs.length
      · exact hi
      · rw [List.getElem?_append_right (by simpa using hi)] at h2
        rw [List.getElem?_replicate] at h2
        split at h2 <;> cases h2
    have ha : vs[i]? = some v := by
      unfold L2.start at h2
      rw [List.getElem?_append_left (by simpa using hi), List.getElem?_map] at h2
      cases e : vs[i]? with
      | none => rw [e] at h2; cases h2
      | some a => rw [e] at h2; cases h2; rfl
    obtain ⟨u, hu, rv⟩ := r.get ha
    have hp : ps[i]? = some y := by
      rw [← S.pre, List.getElem?_take_of_lt (by omega)]; exact h1
    have ndP : ps.Nodup := by rw [← S.pre]; exact S.nd.sublist (List.take_sublist _ _)
    refine ⟨u, rv, .inl ⟨S.par y (List.mem_of_getElem? hp), rev_at ?_ ?_⟩⟩
    · rw [List.map_fst_zip (by rw [← r.length, hl]; exact Nat.le_refl _)]
      exact ndP
    · exact List.mem_of_getElem? (List.getElem?_zip_eq_some.mpr ⟨hp, hu⟩)
  · obtain ⟨_, rfl⟩ := one h
    exact ⟨some (.ref C), _, hk _ _ bcc.1, rfl⟩
  · obtain ⟨_, rfl⟩ := one h
    exact bcc.2
  · unfold L2.start
    show _ = N.length
    rw [List.length_append, List.length_map, List.length_replicate]
    omega
/-- what the text says of the class C below an own class whose __init__ is at g -/
structure SupC (K : Frag) (C g : Addr) : Prop where
  self : PySem.W.mroIn K C (.ref C) = some true
  sup : PySem.W.ks_superIn K C C "__init__" = some (some (.ref g))
  tf : PySem.W.typeIn K (.ref g) = some (.type "function")
  fi : PySem.W.fnIn K g = true
  opq : PySem.W.nsIn K PySem.cStatics "thirdparty.any" = some none
theorem supB_ok {K : Frag} {C g : Addr} (h : supB K C g = true) : SupC K C g := by
  unfold supB at h
  simp only [Bool.and_eq_true, decide_eq_true_eq] at h
  obtain ⟨h1, h2, h3, h4, h5⟩ := h
  exact ⟨h1, h2, h3, h4, h5⟩
section
variable {CX : CXT} {P : Program} {w : World} {K : Frag} {mg : Str → Option Value} {base : Heap} {N ps : List Str} {qual : Str} {scope : Scope} {f cda cc C g : Addr} {A : Around} {outer : List Env} {s0 : Shared} {H0 : Hp} {E0' : XK}
theorem super_step {pins : List (Addr × Obj)} {σ : L2.St} {H : Hp} {s : Shared} {k j : Nat} {sp : Sp} {a dx : Addr} {fs : List (Str × V)} {ta : TA} {e : Expr} {es : List Expr} {p0 p1 p2 p4 p5 : Pos} {pl : Sem Bool} {body : List Stmt} {params : Arguments} {ar : Arg} {oc ct doc pm : Value} {od an : Option Addr} {osl : Array (Option Value)} {a1 : Value} {b1 : Option Addr} {vs : Array Value} {c1 : Array (Option Value)} {file : Str} {tf : Tok} {a2 : Value} {b2 : Option Addr} {c2 : Array (Option Value)} {Q : Hp → Prop}
    (I : Inv (cxK CX P w K mg base N qual scope f (.ref cda) cc A outer s0 H0 E0') pins σ H s) (S : KScope N ps scope) (T : SupC K C g) (hF : Xm.FileOk P file) (hsup : mg "super" = none)
    (lk : K.lookup f = some ⟨oc, od, .func (PySem.W.ksFn "__init__" qual params body scope .none .none doc pm an (.ref cda) ct cc), osl⟩) (lc : K.lookup cda = some ⟨a1, b1, .fields vs, c1⟩) (hv : vs[2]? = some (Value.str file tf))
    (lcc : K.lookup cc = some ⟨a2, b2, .cell (some (.ref C)), c2⟩) (hp : (params.posonlyargs ++ params.args).head? = some ar) (har : ar.arg = "self") (hN : N[0]? = some ("self" : Str))
    (hself : σ[0]? = some (some (.ref a))) (ha : H a = some (.ins C dx fs))
    (F : FnR P w K mg base CX0 k g sp) (hr : Room j (A.deeper (PySem.W.ksEnv qual scope s0.heap.objs.size f (.ref cda) cc))) (hk : k ≤ j)
    (hta : PA (cxK CX P w K mg base N qual scope f (.ref cda) cc A outer s0 H0 E0') (e :: es) ta)
    (h : ta σ H fun ws H1 => sp (.ref a :: ws) H1 (fun _ H2 => Q H2) L2.E0)
    (he : starEach (e :: es) (PySem.W.ksEnv qual scope s0.heap.objs.size f (.ref cda) cc) = (false, eval e (PySem.W.ksEnv qual scope s0.heap.objs.size f (.ref cda) cc)) :: starEach es (PySem.W.ksEnv qual scope s0.heap.objs.size f (.ref cda) cc)) (hpl : (backTo p4 (starEach es (PySem.W.ksEnv qual scope s0.heap.objs.size f (.ref cda) cc))).any (·.1) = false)
    (hmc : eval (.Call (.Attribute (.Call (.Name "super" p0) [] [] p1) "__init__" p2) (e :: es) [] p4) (PySem.W.ksEnv qual scope s0.heap.objs.size f (.ref cda) cc) = (do
      let ov ← attributeBase (.Call (.Name "super" p0) [] [] p1) "__init__" (PySem.W.ksEnv qual scope s0.heap.objs.size f (.ref cda) cc) (eval (.Call (.Name "super" p0) [] [] p1) (PySem.W.ksEnv qual scope s0.heap.objs.size f (.ref cda) cc))
      standAt p2.atName
      let (fx, first) ← holding [ov] (getMethod ov "__init__" pl)
      callWith p4 fx first (backTo p4 (starEach (e :: es) (PySem.W.ksEnv qual scope s0.heap.objs.size f (.ref cda) cc))) []))
    (hsw : swapsWith (.Call (.Attribute (.Call (.Name "super" p0) [] [] p1) "__init__" p2) (e :: es) [] p4) none p5.line (PySem.W.ksEnv qual scope s0.heap.objs.size f (.ref cda) cc) = pure false) :
    PySem.wpAt (model P w) (A.deeper (PySem.W.ksEnv qual scope s0.heap.objs.size f (.ref cda) cc)) (.func body (PySem.W.ksEnv qual scope s0.heap.objs.size f (.ref cda) cc)) (exec (.Expr (.Call (.Attribute (.Call (.Name "super" p0) [] [] p1) "__init__" p2) (e :: es) [] p4) p5) (PySem.W.ksEnv qual scope s0.heap.objs.size f (.ref cda) cc))
      (fun fl s' => fl = .next ∧ ∃ H', Inv (cxK CX P w K mg base N qual scope f (.ref cda) cc A outer s0 H0 E0') pins σ H' s' ∧ Q H') (cxK CX P w K mg base N qual scope f (.ref cda) cc A outer s0 H0 E0').xe s := by
  obtain ⟨mm, hns, hloc⟩ := I.loc
  obtain ⟨u, hu, look⟩ := hloc 0 "self" _ hN hself (.inl (S.par _ (by cases hP : ps with | nil => have := S.self; rw [hP] at this; cases this | cons x r => have := S.self; rw [hP] at this; cases this; exact List.mem_cons_self)))
  obtain rfl : u = Value.ref a := hu
  have hsl : scope.names.lookup ("self" : Str) = some .local := S.par _ (by cases hP : ps with | nil => have := S.self; rw [hP] at this; cases this | cons x r => have := S.self; rw [hP] at this; cases this; exact List.mem_cons_self)
  have hm : mm "self" = some (.ref a) := by
    rcases look with ⟨_, q⟩ | ⟨q | q, _⟩
    · exact q
    · have q : scope.names.lookup ("self" : Str) = some .cell := q
      rw [hsl] at q; cases q
    · have q : scope.names.lookup ("self" : Str) = some .free := q
      rw [hsl] at q; cases q
  have hK : K.In s.heap := I.kIn
  obtain ⟨mA, J, _⟩ := ins_get I.hok ha
  obtain ⟨od', J, _⟩ := J.look
  obtain ⟨mb, hb, hbb⟩ := I.mod.blt
  cases hc : PySem.W.clsIn K C with
  | none => have := T.sup; unfold PySem.W.ks_superIn at this; rw [hc] at this; cases this
  | some cd =>
    obtain ⟨oD, hD1, hD2⟩ := Xm.clsObj hK hc
    have eC : a ≠ C := PySem.W.ks_ne hK J hc
    have hi : interactive (PySem.W.ksEnv qual scope s0.heap.objs.size f (.ref cda) cc) = false := by simp [interactive, S.kind]
    refine PySem.ks_wpAt_Expr_any ?_ hi hsw
    refine PySem.ks_wpAt_MethodCall (pl := pl) ?_ hmc
    refine PySem.ks_wpAt_super_base (env := PySem.W.ksEnv qual scope s0.heap.objs.size f (.ref cda) cc) S.sup S.cls rfl rfl (hK _ _ lk) rfl hp rfl (hK _ _ lc) rfl hv (by rw [hF.file]; simp) hF.top ?_
    refine PySem.W.ks_loadName_global S.kind S.sup (PySem.Calls.loadGlobal_builtin (env := PySem.W.ksEnv qual scope s0.heap.objs.size f (.ref cda) cc) (I.mod.glob.keeps I.bk) hsup (hb.keeps I.bk) ((hbb _ (by decide +kernel)).trans (by first | rfl | kernel_rfl)) ⟨rfl, ?_⟩)
    refine wpAny_loadName_free S.kind S.cls rfl ⟨_, hK _ _ lcc, rfl⟩ ?_
    refine wpAny_loadName_local S.kind (by rw [har]; exact hsl) hns (by rw [har]; exact hm) ?_
    obtain ⟨hp0, g0, d0, t0, os0⟩ := s
    refine PySem.ks_wpAny_isType_cls hD1 hD2 ⟨rfl, ?_⟩
    refine PySem.ks_wpAny_call_super hD1 hD2 J.at_ J.cls (fun c z => ?_) (PySem.W.looks_mroIn hK T.self) (fun h1 e1 k1 => ?_)
    · have := J.no
      unfold PySem.W.notCls at this
      rw [z] at this
      exact Bool.noConfusion this
    · have I1 := ClX.pin_new (t' := t0) I k1 (Nat.le_refl _) e1 (fun v z => by cases z)
      have hK1 : K.In h1 := I1.kIn
      obtain ⟨of, hof, hofc⟩ : ∃ of, h1.get? g = some of ∧ of.cls = .type "function" := by
        have ht' : (K.lookup g).map (·.cls) = some (.type "function") := T.tf
        cases z : K.lookup g with
        | none => rw [z] at ht'; cases ht'
        | some of => rw [z] at ht'; exact ⟨of, hK1 _ _ z, Option.some.inj ht'⟩
      have hm2 : PySem.W.alongIn K "__init__" ((cd.mro.dropWhile (· != .ref C)).drop 1) = some (some (.ref g)) := by
        have := T.sup
        unfold PySem.W.ks_superIn at this
        rw [hc] at this
        exact this
      refine PySem.ks_wpAny_getMethod_super e1 (PySem.W.looks_opaque hK1 T.opq) (l₀ := cd.mro) (fun A Q E s k q => wpAny_bind ((PySem.W.looks_clsIn hK1 hc) A _ E s k (wpAny_pure q))) rfl hK1 hm2 hof hofc eC rfl ?_
      have I2 := ClX.pin_new (o := PySem.W.methodObj (.ref g) (.ref a)) (h' := h1.push (PySem.W.methodObj (.ref g) (.ref a))) (t' := t0 + 1) I1 (fun _ _ z => Heap.get?_push_of_some _ z) (Nat.le_refl _) (Heap.get?_push_size h1 rfl) (fun v z => nomatch z)
      refine ClX.callwith_cm (C := a) I2 (ClX.base_none I1 (Nat.le_refl _)) T.fi (thn (hta.run p4 _ _ σ H _ I2 h) fun us s2 ⟨ws, H1, I3, r, q2⟩ => ⟨⟨ClX.pin_at I3, I3.kIn⟩, ?_⟩) he hpl
      refine thn (ClX.run_cm (C := a) F (hr.mono hk) pass0 I3 r q2) fun v s3 ⟨v', H3, I4, _, q3⟩ => ?_
      exact ⟨rfl, H3, ClX.unpin I4, q3⟩
end
end Ks

end PART_NB42
section PART_NB43
set_option Elab.async false
set_option linter.all false
set_option maxRecDepth 100000
set_option maxHeartbeats 4000000
set_option autoImplicit false
set_option pp.maxSteps 400
/-! NB43: such an __init__ as a promise; over data -/
namespace Ks
open PySem PySem.Spec PyProof.Rows L2 NB
open PySem.W (Frag)
/-- super().__init__(..) -/
def tSup (C : Addr) (sp : Sp) (ta : TA) : TS := fun Dv σ H => ∃ a dx fs, σ[0]? = some (some (.ref a)) ∧ H a = some (.ins C dx fs) ∧ ta σ H fun ws H1 => sp (.ref a :: ws) H1 (fun _ H2 => Dv.nx σ H2) L2.E0
/-- the shape of the def: its first statement is super().__init__(e, ..) -/
def supE : List Stmt → Expr
  | .Expr (.Call _ (e :: _) _ _) _ :: _ => e
  | _ => .Constant .none 0 ⟨0, 0, 0, 0⟩
def supEs : List Stmt → List Expr
  | .Expr (.Call _ (_ :: es) _ _) _ :: _ => es
  | _ => []
structure SupS (qual : Str) (params : Arguments) (body rest : List Stmt) (scope : Scope) (e : Expr) (es : List Expr) : Prop where
  ex : ∃ (ar : Arg) (p0 p1 p2 p4 p5 : Pos) (pl : Sem Bool), body = .Expr (.Call (.Attribute (.Call (.Name "super" p0) [] [] p1) "__init__" p2) (e :: es) [] p4) p5 :: rest ∧ (params.posonlyargs ++ params.args).head? = some ar ∧ ar.arg = "self" ∧
    ∀ (L f : Addr) (cd : Value) (cc : Addr) (env : Env), env = PySem.W.ksEnv qual scope L f cd cc → starEach (e :: es) env = (false, eval e env) :: starEach es env ∧ (backTo p4 (starEach es env)).any (·.1) = false ∧
      eval (.Call (.Attribute (.Call (.Name "super" p0) [] [] p1) "__init__" p2) (e :: es) [] p4) env = (do
        let ov ← attributeBase (.Call (.Name "super" p0) [] [] p1) "__init__" env (eval (.Call (.Name "super" p0) [] [] p1) env)
        standAt p2.atName
        let (fx, first) ← holding [ov] (getMethod ov "__init__" pl)
        callWith p4 fx first (backTo p4 (starEach (e :: es) env)) []) ∧
      swapsWith (.Call (.Attribute (.Call (.Name "super" p0) [] [] p1) "__init__" p2) (e :: es) [] p4) none p5.line env = pure false
section
variable {CX : CXT} {P : Program} {w : World} {K : Frag} {mg : Str → Option Value} {base : Heap} {N ps : List Str} {qual : Str} {params : Arguments} {body rest : List Stmt} {scope : Scope} {e : Expr} {es : List Expr} {f C g : Addr} {file : Str}
theorem fn_ofK {k j : Nat} {sp spB : Sp} {oc doc pm ct : Value} {od an : Option Addr} {cda cc : Addr} {osl : Array (Option Value)} (lk : K.lookup f = some ⟨oc, od, .func (PySem.W.ksFn "__init__" qual params body scope .none .none doc pm an (.ref cda) ct cc), osl⟩) (hcd : PySem.W.codeIn K (.ref cda) qual = true) (hfb : Hy.fileB K cda file = true) (hcb : Hy.cellB K cc C = true)
    (S : KScope N ps scope) (Z : SupS qual params body rest scope e es) (T : SupC K C g) (hF : Xm.FileOk P file) (hsup : mg "super" = none) (F : FnR P w K mg base CX0 j g spB) (hj : j ≤ k) (len : ∀ vs H Q E, sp vs H Q E → vs.length = ps.length)
    (hbody : ∀ (A : Around) (outer : List Env) (s : Shared) (H : Hp) (vs : List V) (Q : VK) (E : XK), Room k (A.deeper (PySem.W.ksEnv qual scope s.heap.objs.size f (.ref cda) cc)) → sp vs H Q E →
      ∃ ta t, PA (cxK CX P w K mg base N qual scope f (.ref cda) cc A outer s H E) (e :: es) ta ∧ PSs (cxK CX P w K mg base N qual scope f (.ref cda) cc A outer s H E) rest t ∧ tSeq (tSup C spB ta) t { nx := fun _ H' => Q .non H', rt := Q } (L2.start N vs) H) :
    FnOk P w K mg base CX (k + 1) f (PySem.W.ksFn "__init__" qual params body scope .none .none doc pm an (.ref cda) ct cc) ps sp := by
  obtain ⟨a1, b1, vs1, c1, tf, lc, hv⟩ := Hy.fileB_at hfb
  obtain ⟨a2, b2, c2, lcc⟩ := Hy.cellB_at hcb
  obtain ⟨ar, p0, p1, p2, p4, p5, pl, hbd, har, hself, hz⟩ := Z.ex
  refine ⟨len, fun A outer s H args us vs Q E hr e0 hb r hsp => ?_⟩
  have hl := len _ _ _ _ hsp
  have KX : K.In s.heap := e0.mod.kin.keeps fun b o e => (e0.bs b o e).1
  have lim : s.heap.NoLimit := e0.mod.nolimit.keeps fun b o e => (e0.bs b o e).1
  have hpos : ∃ r : List Str, ps = ("self" : Str) :: r := by
    cases hP : ps with
    | nil => have := S.self; rw [hP] at this; cases this
    | cons x r => have := S.self; rw [hP] at this; cases this; exact ⟨r, rfl⟩
  have hN : N[0]? = some ("self" : Str) := by
    obtain ⟨r, hP⟩ := hpos
    have := S.pre
    rw [hP] at this
    cases N with
    | nil => cases this
    | cons x l =>
      rw [List.length_cons, List.take_succ_cons] at this
      injection this with h1 _
      rw [h1]
      rfl
  refine PySem.ks_codeAny_call_defAt (fd := PySem.W.ksFn "__init__" qual params body scope .none .none doc pm an (.ref cda) ct cc) (body := body) (binds := ps.zip us) hr.depth (KX _ _ lk) rfl lim (PySem.W.codeRec_of KX hcd) rfl hb S.nocell (fun y hy => S.par _ (List.of_mem_zip (show (y.1, y.2) ∈ ps.zip us from hy)).1) (fun h₀ hns hk₀ => ?_) S.co S.gen S.kind
  obtain ⟨ta, t, hta, ht, hq⟩ := hbody A outer s H vs Q E (hr.deeper _) hsp
  have I : Inv (cxK CX P w K mg base N qual scope f (.ref cda) cc A outer s H E) [] (L2.start N vs) H { s with heap := h₀, toks := s.toks + (ps.zip us).length } := inv_startK (C := C) S hr.hd e0 hl r ⟨_, _, _, lcc⟩ hns hk₀
  obtain ⟨a, dx, fs, h0, ha, hq⟩ := hq
  obtain ⟨z1, z2, z3, z4⟩ := hz _ _ _ _ (PySem.W.ksEnv qual scope s.heap.objs.size f (.ref cda) cc) rfl
  subst hbd
  have fin : ∀ {s' : Shared} {σ' : L2.St} {H' : Hp} {v : V} {u : Value}, Inv (cxK CX P w K mg base N qual scope f (.ref cda) cc A outer s H E) [] σ' H' s' → RelV v u → Q v H' → CE outer P w H s Q u s' :=
    fun {s' σ' H' v u} J rv q => ⟨v, H', J.os, J.bare, J.base, J.hok, rv, q⟩
  show PySem.wpAt _ _ (.func _ (PySem.W.ksEnv qual scope s.heap.objs.size f (.ref cda) cc)) (execs _ (PySem.W.ksEnv qual scope s.heap.objs.size f (.ref cda) cc)) _ _ _
  refine PySem.ks_wpAt_execs_cons ?_
  refine PySem.ks_wpAt_mono (super_step (j := k) I S T hF hsup lk lc hv lcc har hself hN h0 ha F (hr.deeper _) hj hta hq z1 z2 z3 z4) (fun fl s' hs => ?_) fun e s' hs => hs
  obtain ⟨rfl, H', I', q'⟩ := hs
  refine wpAt_of_wpAny (wpAny_mono (ht.run [] s' (L2.start N vs) H' _ I' q') (fun fl s' hs => ?_) fun e s' hs => hs)
  cases fl with
  | ret u =>
    obtain ⟨v, σ', H', J, rv, q⟩ := hs
    exact fin J rv q
  | next =>
    obtain ⟨σ', H', J, q⟩ := hs
    exact fin (v := V.non) (u := Value.none) J rfl q
  | brk =>
    obtain ⟨_, _, _, q⟩ := hs
    exact False.elim q
  | cont =>
    obtain ⟨_, _, _, q⟩ := hs
    exact False.elim q
/-- C(..), its __init__ such a def -/
theorem makG_ofK {k j : Nat} {x : Str} {Fi : FnI} {spB : Sp} {Φ : FuncData → Prop} (M : Mk K C f) (hm : mg x = some (.ref C)) (FC : Hy.FunC K C "__init__" qual params body scope file f)
    (S : KScope N ps scope) (Z : SupS qual params body rest scope e es) (T : SupC K C g) (hF : Xm.FileOk P file) (hsup : mg "super" = none) (F : FnR P w K mg base CX0 j g spB) (hj : j ≤ k)
    (hΦ : ∀ (doc pm : Value) (an : Option Addr) (cdv ct : Value) (cc : Addr), Φ (PySem.W.ksFn "__init__" qual params body scope .none .none doc pm an cdv ct cc)) (len : ∀ ds R, Fi.f ds R → ds.length + 1 = ps.length)
    (hbody : ∀ (cdv : Value) (cc : Addr) (A : Around) (outer : List Env) (s : Shared) (H : Hp) (E : XK), Room k (A.deeper (PySem.W.ksEnv qual scope s.heap.objs.size f cdv cc)) →
      ∃ ta t, PA (cxK CX0 P w K mg base N qual scope f cdv cc A outer s H E) (e :: es) ta ∧ PSs (cxK CX0 P w K mg base N qual scope f cdv cc A outer s H E) rest t ∧
        ∀ a ds R, Fi.f ds R → Run (S0 K) (tSeq (tSup C spB ta) t) (startI N a C ds) ⟨fun ρ' => ∃ fs, ρ'[0]? = some (some (.ownI a C fs)) ∧ R fs, fun _ => False, fun _ => False, fun _ => False⟩) :
    MakG P w K mg base (k + 1) x C ps (spI K C Fi) Φ := by
  obtain ⟨oc, od, doc, pm, an, cda, ct, cc, osl, lk, hcd, hfb, hcb⟩ := FC.ex
  refine ⟨f, _, M, fn_ofK lk hcd hfb hcb S Z T hF hsup F hj (fun vs H Q E ⟨O, es, a, dx, ws, e, _, _, _, i, q⟩ => ?_) fun A outer s H vs Q E hr h => ?_, hm, hΦ _ _ _ _ _ _⟩
  · rw [e, List.length_cons, i.length]
    exact len es _ q
  · obtain ⟨ta, t, h1, h2, h3⟩ := hbody (.ref cda) cc A outer s H E hr
    exact ⟨ta, t, h1, h2, body_ofI h h3⟩
end
section
variable {S : Sys} {ρ : DEnv} {P : Post} {C a : Addr} {t : TA}
theorem run_sup {F : FnI} (hs : ρ[0]? = some (some (.ownI a C []))) (h : EvA S t ρ fun ds => F.f ds fun fs => P.nx (ρ.set 0 (some (.ownI a C fs)))) : Run S (tSup C (spI S.K C F) t) ρ P := fun B O σ H I Dv k1 _ _ _ => by
  obtain ⟨v0, hv, l, rfl, hl, el, dx, us, ha, ke, is⟩ := I.env.at_ 0 _ hs
  obtain rfl : us = [] := by
    cases us with
    | nil => rfl
    | cons x r => cases ke
  refine ⟨l, dx, [], hv, ha, ?_⟩
  refine h O σ H I.env _ fun ds vs H1 l1 t1 i1 q => ?_
  obtain ⟨I1, s1⟩ := I.go l1 t1
  have nM : l ∉ S.M := I.env.outM 0 l ⟨_, hs, rfl, hv⟩
  have e1 := l1 _ _ nM ha
  let O' : List Addr := O.filter fun b => decide (b ≠ l)
  have inO : ∀ {b : Addr}, b ∈ O' ↔ b ∈ O ∧ b ≠ l := fun {b} => by
    show b ∈ List.filter _ _ ↔ _
    rw [List.mem_filter, decide_eq_true_eq]
  have sub1 : ∀ b ∈ l :: O', b ∈ O := fun b hb => by
    rcases List.mem_cons.mp hb with rfl | hb
    · exact hl
    · exact (inO.mp hb).1
  have sub2 : ∀ b ∈ O, b ∈ l :: O' := fun b hb => by
    by_cases e : b = l
    · rw [e]; exact List.mem_cons_self
    · exact List.mem_cons_of_mem _ (inO.mpr ⟨hb, e⟩)
  refine ⟨O', ds, l, dx, vs, rfl, e1, fun m => (inO.mp m).2 rfl, fun b hb => I1.env.live b (inO.mp hb).1, i1.ex (hid_sub sub1), F.mono _ _ _ (fun fs c H' us' dx' le e' kv => ?_) q⟩
  have kv : Kv S.K (hid O H') us' fs := kv.ex (hid_sub sub2)
  let H2 : Hp := upd H' l (.ins C dx [])
  have s2 : Same H1 H2 := fun b o eb => by
    by_cases e : b = l
    · subst e
      rw [e1] at eb
      cases eb
      exact upd_same
    · show upd H' l _ b = _
      rw [upd_ne e]
      exact le b o (by simp only [List.mem_singleton]; exact e) eb
  obtain ⟨I2, st2⟩ := I1.go (Le.same s2) (S.same _ _ s2 t1)
  have eH : upd H2 l (.ins C dx' us') = H' := by
    funext b
    by_cases e : b = l
    · subst e
      rw [upd_same, e']
    · rw [upd_ne e]
      show upd H' l _ b = _
      rw [upd_ne e]
  have ok : OwnOk S.K O (upd H2 l (.ins C dx' us')) l (.ownI a C fs) := by
    rw [eH]
    exact ⟨el, dx', us', e', kv.keys, kv.vals⟩
  obtain ⟨I3, st3⟩ := I2.mut (s' := .ownI a C fs) (o := .ins C dx' us') hs rfl rfl hv hl ok
  rw [eH] at I3 st3
  exact k1 _ _ _ _ I3 ((s1.trans st2).trans st3) c
end
end Ks

end PART_NB43
section PART_NB44
set_option Elab.async false
set_option linter.all false
set_option maxRecDepth 100000
set_option maxHeartbeats 4000000
set_option autoImplicit false
set_option pp.maxSteps 400
/-! NB44: either of two readings; f-strings and str() of None besides; bool(o); properties; constants of a class -/
namespace NB
open PySem PySem.Spec PyProof.Rows L2
/-! ### either of two readings -/
def tAlt (t1 t2 : TE) : TE := fun σ H Q => t1 σ H Q ∨ t2 σ H Q
theorem pe_alt {X : Cx} {e : Expr} {t1 t2 : TE} (h1 : PE X e t1) (h2 : PE X e t2) : PE X e (tAlt t1 t2) := ⟨fun pins s σ H Q I h => h.elim (h1.run pins s σ H Q I) (h2.run pins s σ H Q I)⟩
theorem ev_alt1 {S : Sys} {ρ : DEnv} {t1 t2 : TE} {Q : D → Prop} (h : Ev S t1 ρ Q) : Ev S (tAlt t1 t2) ρ Q := fun O σ H I Qv k => .inl (h O σ H I Qv k)
theorem ev_alt2 {S : Sys} {ρ : DEnv} {t1 t2 : TE} {Q : D → Prop} (h : Ev S t2 ρ Q) : Ev S (tAlt t1 t2) ρ Q := fun O σ H I Qv k => .inr (h O σ H I Qv k)
def rAltC (r1 r2 : List V → Hp → VK → Prop) : List V → Hp → VK → Prop := fun xs H Q => r1 xs H Q ∨ r2 xs H Q
theorem cr_alt {X : Cx} {f : Value} {r1 r2 : List V → Hp → VK → Prop} (h1 : CallR X f r1) (h2 : CallR X f r2) : CallR X f (rAltC r1 r2) := fun pins s σ H xs us Q I r h => h.elim (h1 pins s σ H xs us Q I r) (h2 pins s σ H xs us Q I r)
theorem rvc_alt1 {K : PySem.W.Frag} {r1 r2 : List V → Hp → VK → Prop} {xs : List D} {Q : D → Prop} (h : RvC K r1 xs Q) : RvC K (rAltC r1 r2) xs Q := fun O H vs live hi Qv k => .inl (h O H vs live hi Qv k)
theorem rvc_alt2 {K : PySem.W.Frag} {r1 r2 : List V → Hp → VK → Prop} {xs : List D} {Q : D → Prop} (h : RvC K r2 xs Q) : RvC K (rAltC r1 r2) xs Q := fun O H vs live hi Qv k => .inr (h O H vs live hi Qv k)
/-! ### None as a text -/
def tFmtN (te : TE) : TE := fun σ H Q => te σ H fun x H1 => x = .non ∧ Q (.str "None") H1
theorem pe_fmtN {X : Cx} {e : Expr} {te : TE} {pos : Pos} (he : PE X e te) : PE X (.FormattedValue e (-1) none pos) (tFmtN te) := by
  refine ⟨fun pins s σ H Q I h => ?_⟩
  refine wpAny_FormattedValue_plain (thn (he.run pins s σ H _ I h) fun v s1 hv => ?_)
  obtain ⟨x, H1, I1, r1, rfl, q⟩ := hv
  cases r1
  exact wpAny_formatField_none ⟨.str "None", H1, I1.tok _, ⟨_, rfl⟩, q⟩
theorem ev_fmtNon {S : Sys} {te : TE} {ρ : DEnv} {Q : D → Prop} (h : Ev S te ρ fun d => d = .non ∧ Q (.str "None")) : Ev S (tFmtN te) ρ Q := fun O σ H I Qv k => by
  refine h O σ H I _ fun d v H1 l t i ⟨e, q⟩ => ?_
  subst e
  exact ⟨is_dV i rfl, k _ _ H1 l t (.str _) q⟩
def rStrN : List V → Hp → VK → Prop := fun xs H Q => xs = [.non] ∧ Q (.str "None") H
theorem call_str_none {X : Cx} : CallR X (.type "str") rStrN := by
  intro pins s σ H xs us Q I r ⟨e, q⟩
  subst e
  obtain ⟨u, rfl, ru⟩ := vals1 r
  cases ru
  exact PySem.P.str_of_none ⟨.str "None", H, I.tok _, ⟨_, rfl⟩, q⟩
theorem R.cr_strQ {X : Cx} : CallR X (.type "str") (rAltC rStr1 rStrN) := cr_alt R.cr_str call_str_none
theorem rvc_strN {K : PySem.W.Frag} {Q : D → Prop} (q : Q (.str "None")) : RvC K (rAltC rStr1 rStrN) [.non] Q := rvc_alt2 fun O H vs live hi Qv k => by
  obtain ⟨v, ws, rfl, i1, i2⟩ := iss_cons hi
  obtain rfl := iss_nil i2
  exact ⟨by rw [is_dV i1 rfl]; rfl, k _ _ H (Same.refl _) (.str _) q⟩
/-! ### properties -/
/-- a property of the class at C -/
structure Prp (P : Program) (w : World) (K : PySem.W.Frag) (mg : Str → Option Value) (base : Heap) (k : Nat) (C : Addr) (f : Str) (sp : Sp) : Prop where
  ex : ∃ (p g : Addr) (fd : FuncData) (ps : List Str), Cls K C ∧ PropOf K C f p g ∧ FnOk P w K mg base CX0 k g fd ps sp ∧ Binds K fd ps []
theorem pe_prp {X : Cx} {k j : Nat} {C : Addr} {f : Str} {sp : Sp} {e : Expr} {pos : Pos} {ta : TE} (c : Prp X.prog X.w X.K X.mg X.base k C f sp) (hr : Room j X.A) (he : PE X e ta) (hk : k + 1 ≤ j := by first | decide | exact Nat.le_refl _ | omega)
    (hab : attributeBase e f X.env (eval e X.env) = eval e X.env := by rfl) : PE X (.Attribute e f pos) (tProp C sp [] E0 ta) := by
  obtain ⟨p, g, fd, ps, hc, hp, F, b⟩ := c.ex
  exact pe_prop he hc hp F (hr.mono hk) b .nil pass0 hab
theorem ev_prp {S : Sys} {ρ : DEnv} {ta : TE} {C : Addr} {F : Fn} {E : XK} {Q : D → Prop} (h : Ev S ta ρ fun x => ∃ fs, x = .obj C fs ∧ F.f [x] Q) : Ev S (tProp C (spF (S0 S.K) F) [] E ta) ρ Q := fun O σ H I Qv k => by
  refine h O σ H I _ fun x v H1 l1 t1 i1 ⟨fs, ex, q⟩ => ?_
  subst ex
  obtain ⟨a, dx, us, rfl, ha, ke, is⟩ := is_obj i1
  refine ⟨a, dx, us, rfl, (hid_some ha).2, O, [.obj C fs], trivial, fun a ha => absurd ha (by simp [S0]), (I.le l1 t1).live, .cons i1 .nil, F.mono _ _ _ (fun d c v H' l _ i => ?_) q⟩
  have l' : Same H1 H' := fun a o e => l a o (by simp [S0]) e
  exact k d v H' (l1.trans (Le.same l')) (S.same _ _ l' t1) i c
/-! ### constants of a class, read off an instance -/
theorem is_of_flat {K : PySem.W.Frag} {H : Hp} {d : D} (h : flatD d = true) : Is K H (dV d) d := by
  cases d <;> first | exact .non | exact .bl _ | exact .int _ | exact .str _ | exact .ty _ | exact .loc _ | cases h
theorem ev_con {S : Sys} {ρ : DEnv} {ta : TE} {C : Addr} {f : Str} {d : D} {Q : D → Prop} (c : Cls S.K C) (k : ∃ u, Con S.K C f (dV d) u) (hf : flatD d = true) (h : Ev S ta ρ fun x => ∃ fs, x = .obj C fs ∧ fs.lookup f = none ∧ Q d) : Ev S (tCon S.K ta f) ρ Q := fun O σ H I Qv kk => by
  refine h O σ H I _ fun x v H1 l1 t1 i1 ⟨fs, ex, e, q⟩ => ?_
  subst ex
  obtain ⟨a, dx, us, rfl, ha, ke, is⟩ := is_obj i1
  have e1 : us.lookup f = none := by
    rcases (kv_of ke is).mapL (k := f) with ⟨v, d', e1, e2, i⟩ | ⟨e1, _⟩
    · rw [e] at e2; cases e2
    · exact e1
  obtain ⟨u, k⟩ := k
  exact ⟨a, C, dx, us, _, u, rfl, (hid_some ha).2, c, k, e1, kk d (dV d) H1 l1 t1 (is_of_flat hf) q⟩
end NB
namespace GBL
open PySem PySem.Sem
/-- bool(o), o an own instance -/
theorem call_bool_own {prog : Program} {w : World} {A : Around} {E : Value → Shared → Prop} {s : Shared} {x : Addr} {Q : Value → Shared → Prop} (h : wpAny (model prog w) A.in1.in1 (truthy (.ref x)) (fun b s' => Q (.bool b) s') E s) : wpAny (model prog w) A (call (.type "bool") [.ref x]) Q E s := by
  refine callType_codes (T := "bool") (Bi := Builtin.«object.__init__») (Q₁ := fun r s₁ => ∃ b, r = .bool b ∧ Q r s₁) F.called_bool (F.typeCall_bool_1 _) F.entry_object_init ?_ ?_
  · refine codeAny_of_tree ?_
    show wpAny _ A.in1.in1 (do checkBuiltinCall "bool.__new__" ⟨[.type "bool", .ref x], []⟩; again (.builtin "bool.__new__" ⟨[.type "bool", .ref x], []⟩)) _ _ s
    refine wpAny_bind (wpAny_of_eq (F.newCall_bool_1 _) (wpAny_pure ⟨plainId_quiet (by decide +kernel) _, codeAny_builtin F.entry_bool_new ?_⟩))
    rw [Around.under_plainId (by decide +kernel) _]
    unfold Builtin.«bool.__new__»
    have f1 := F.conv_sub_bool
    obtain ⟨hp, g, d, tk, os⟩ := s
    repeat (first | (with_reducible refine wpAny_bind (m := truthy (.ref x)) (wpAny_mono h (fun b s' q => ?_) fun _ _ y => y)) | wp_step)
    exact ⟨_, rfl, q⟩
  · rintro obj s₁ ⟨b, rfl, hq⟩
    exact ⟨rfl, F.args_object_init_2 _ _, object_init_meets F.called_bool.init.lookup F.called_bool.made (by decide) prog w A.in1 _ s₁ ⟨rfl, rfl, hq⟩⟩
end GBL

end PART_NB44
section PART_NB45
set_option Elab.async false
set_option linter.all false
set_option maxRecDepth 100000
set_option maxHeartbeats 4000000
set_option autoImplicit false
set_option pp.maxSteps 400
/-! NB45: constants off a class, lists backwards, bool(o) -/
namespace NB
open PySem PySem.Spec PyProof.Rows L2
theorem R.pe_cval (K : PySem.W.Frag) {X : Cx} {e : Expr} {f : Str} {pos : Pos} {ta : TE} (he : PE X e ta) (hb : attributeBase e f X.env (eval e X.env) = eval e X.env := by rfl) (h : X.K = K := by rfl) : PE X (.Attribute e f pos) (ClX.tCVal K ta f) := h ▸ ClX.pe_cval he hb
theorem R.pe_con (K : PySem.W.Frag) {X : Cx} {e : Expr} {f : Str} {pos : Pos} {ta : TE} (he : PE X e ta) (hb : attributeBase e f X.env (eval e X.env) = eval e X.env := by rfl) (h : X.K = K := by rfl) : PE X (.Attribute e f pos) (tCon K ta f) := h ▸ L2.pe_con he hb
theorem ev_cval {S : Sys} {ρ : DEnv} {ta : TE} {C : Addr} {f : Str} {d : D} {Q : D → Prop} (hf : flatD d = true) (c : ∃ mc u, ClX.CRead S.K C mc ∧ ClX.CVal S.K C mc f (dV d) u) (h : Ev S ta ρ fun x => x = .loc C ∧ Q d) : Ev S (ClX.tCVal S.K ta f) ρ Q := fun O σ H I Qv kk => by
  refine h O σ H I _ fun x v H1 l1 t1 i1 ⟨ex, q⟩ => ?_
  subst ex
  obtain rfl := is_loc i1
  obtain ⟨mc, u, c1, c2⟩ := c
  exact ⟨C, mc, _, u, rfl, c1, c2, kk d (dV d) H1 l1 t1 (is_of_flat hf) q⟩
def rBoolI (C : Addr) (sp : Sp) : List V → Hp → VK → Prop := fun xs H Q => ∃ a dx fs, xs = [.ref a] ∧ H a = some (.ins C dx fs) ∧ sp [.ref a] H (fun v H' => ∃ b, v = .bl b ∧ Q (.bl b) H') E0
theorem call_boolI {X : Cx} {j k : Nat} {C : Addr} {sp : Sp} (m : C8.Met X.prog X.w X.K X.mg X.base k C "__bool__" sp []) (hr : Room j X.A) (hk : k + 2 ≤ j := by first | decide | exact Nat.le_refl _ | omega) : CallR X (.type "bool") (rBoolI C sp) := by
  intro pins s σ H xs us Q I r ⟨a, dx, fs, ex, ha, h⟩
  subst ex
  obtain ⟨u, rfl, ru⟩ := vals1 r
  cases ru
  obtain ⟨f, fd, ps, ds, hc, hm, Fo, b, d⟩ := m.ex
  cases d
  obtain ⟨mA, J, _⟩ := ins_get I.hok ha
  obtain ⟨od, J, _⟩ := J.look
  obtain ⟨mm, hF⟩ := I.fr
  refine GBL.call_bool_own (PySem.W.truthy_K hF I.ok.mod.kin J hm.at_ hm.fn (wpAny_mono (call_sp (Q := fun v H' => ∃ b, v = .bl b ∧ Q (.bl b) H') (n := k) (Sub.in1 (n := k) (Sub.in1 (n := k + 1) ⟨hr.mono hk, rfl⟩)) I Fo b (.cons (show RelV (.ref a) (.ref a) from rfl) .nil) h) (fun w s' q => ?_) fun _ _ x => x))
  obtain ⟨z, H', I', rz, b, ez, q⟩ := q
  subst ez
  cases rz
  exact ⟨.bl b, H', I', rfl, q⟩
theorem rvc_boolO {K : PySem.W.Frag} {C : Addr} {F : Fn} {fs : List (Str × D)} {Q : D → Prop} (h : F.f [.obj C fs] fun d => ∃ b, d = .bl b ∧ Q (.bl b)) : RvC K (rBoolI C (spF (S0 K) F)) [.obj C fs] Q := fun O H vs live hi Qv k => by
  obtain ⟨v, ws, rfl, i1, i2⟩ := iss_cons hi
  obtain rfl := iss_nil i2
  obtain ⟨a, dx, us, rfl, e, _⟩ := is_obj i1
  refine ⟨a, dx, us, rfl, (hid_some e).2, spF_one live i1 (F.mono _ _ _ (fun d ⟨b, ed, q⟩ v H' s i => ?_) h)⟩
  subst ed
  exact ⟨_, is_bl i, k _ _ H' s (.bl _) q⟩
end NB
namespace NB
open PySem PySem.Spec PyProof.Rows L2
theorem R.pe_revL (K : PySem.W.Frag) {X : Cx} {e : Expr} {te : TE} {k : Nat} {p1 p2 p3 pos : Pos} (he : PE X e te) (h : X.K = K := by rfl) : PE X (.Subscript e (.Slice none none (some (.UnaryOp .USub (.Constant (.int 1) k p1) p2)) p3) pos) (tRevL K te) := h ▸ L2.pe_revL he
theorem prp_ofD {P : Program} {w : World} {K : PySem.W.Frag} {mg : Str → Option Value} {base : Heap} {C : Addr} {f qual : Str} {params : Arguments} {body : List Stmt} {scope : Scope} {N ps : List Str} {k : Nat} {Fx : Fn}
    (c : Cls K C) (p : Hy.PropC K C f qual params body scope) (S : FnScope N ps scope)
    (hb : ∀ (kV doc pm : Value) (an : Option Addr) (cdv ct : Value) (us : List Value), us.length = ps.length → bindArgs (PySem.W.fnOf f qual params body scope .none kV doc pm an cdv ct) ⟨us, []⟩ = pure (ps.zip us))
    (len : ∀ ds R, Fx.f ds R → ds.length = ps.length)
    (hbody : ∀ (f : Addr) (cdv : Value) (A : Around) (outer : List PySem.Env) (s : Shared) (H : Hp) (E : XK), Room k (A.deeper (envOfC qual scope s.heap.objs.size f cdv)) →
      ∃ t, PSs (cxOf CX0 P w K mg base N qual scope f cdv A outer s H E).nox body t ∧ ∀ ds R, Fx.f ds R → Run (S0 K) t (startD N ds) ⟨fun _ => R .non, R, fun _ => False, fun _ => False⟩) : Prp P w K mg base (k + 1) C f (spF (S0 K) Fx) := by
  obtain ⟨oc, od, doc, pm, an, cdv, ct, osl, lk, hcd⟩ := p.ex
  refine ⟨_, _, _, ps, c, p.prp, fn_of lk hcd S (fun vs H Q E ⟨O, ds, _, _, _, i, f⟩ => i.length.trans (len ds _ f)) (fun A outer s H vs Q E hr h => ?_), .all (hb _ _ _ _ _ _)⟩
  obtain ⟨t, h1, h2⟩ := hbody _ cdv A outer s H E hr
  exact ⟨t, h1.nox, body_of h h2⟩
end NB
namespace Ks
open PySem PySem.Spec PyProof.Rows L2 NB
open PySem.W (Frag)
/-- the __init__ of a class, run over an instance of a class below it -/
theorem initR_of {P : Program} {w : World} {K : Frag} {mg : Str → Option Value} {base : Heap} {C f0 : Addr} {qual : Str} {params : Arguments} {body : List Stmt} {scope : Scope} {N ps : List Str} {k : Nat} {Fi : FnI}
    (F : ∃ fd, FunD K "__init__" qual params body scope [] [] f0 fd) (S : FnScope N ps scope)
    (hb : ∀ (kV doc pm : Value) (an : Option Addr) (cdv ct : Value) (us : List Value), us.length = ps.length → bindArgs (PySem.W.fnOf "__init__" qual params body scope .none kV doc pm an cdv ct) ⟨us, []⟩ = pure (ps.zip us)) (len : ∀ ds R, Fi.f ds R → ds.length + 1 = ps.length)
    (hbody : ∀ (f : Addr) (cdv : Value) (A : Around) (outer : List PySem.Env) (s : Shared) (H : Hp) (E : XK), Room k (A.deeper (envOfC qual scope s.heap.objs.size f cdv)) →
      ∃ t, PSs (cxOf CX0 P w K mg base N qual scope f cdv A outer s H E).nox body t ∧ ∀ a ds R, Fi.f ds R → Run (S0 K) t (startI N a C ds) ⟨fun ρ' => ∃ fs, ρ'[0]? = some (some (.ownI a C fs)) ∧ R fs, fun _ => False, fun _ => False, fun _ => False⟩) :
    FnR P w K mg base CX0 (k + 1) f0 (spI K C Fi) := by
  obtain ⟨fd, F⟩ := F
  have lenS : ∀ vs H Q E, spI K C Fi vs H Q E → vs.length = ps.length := fun vs H Q E ⟨O, es, a, dx, ws, e, _, _, _, i, q⟩ => by
    rw [e, List.length_cons, i.length]
    exact len es _ q
  have Fo := F.ok (P := P) (w := w) (mg := mg) (base := base) (CX := CX0) S lenS fun cdv A outer s H vs Q E hr h => by
    obtain ⟨t, h1, h2⟩ := hbody _ cdv A outer s H E hr
    exact ⟨t, h1.nox, body_ofI h h2⟩
  have b := F.bindsN hb
  intro A outer s H us vs Q E hr e0 r h
  have hl := lenS _ _ _ _ h
  have := b s us (e0.mod.kin.keeps fun b o e => (e0.bs b o e).1) (by rw [List.append_nil, ← r.length]; exact hl)
  rw [List.append_nil] at this
  exact Fo.run A outer s H ⟨us, []⟩ us vs Q E hr e0 this r h
end Ks

end PART_NB45
section PART_NB46
set_option Elab.async false
set_option linter.all false
set_option maxRecDepth 100000
set_option maxHeartbeats 4000000
set_option autoImplicit false
set_option pp.maxSteps 400
/-! NB46: tuples and lists of bools compared; s.split(sep); x[-1] -/
namespace NB
open PySem PySem.Spec PyProof.Rows L2
section
variable {K : PySem.W.Frag} {Q : D → Prop}
theorem dps_bls {O : List Addr} {H : Hp} : ∀ (bs : List Bool) (vs : List V), Iss K (hid O H) vs (bs.map D.bl) → DpAll K H vs (bs.map PyData.bool)
  | [], vs, h => by
    obtain rfl := iss_nil h
    exact .nil
  | b :: r, vs, h => by
    obtain ⟨v, ws, rfl, h1, h2⟩ := iss_cons h
    obtain rfl := is_bl h1
    exact .cons (.bl b) (dps_bls r ws h2)
theorem eqvs_bls : ∀ as bs : List Bool, PyData.eqvAll (as.map PyData.bool) (bs.map PyData.bool) = decide (as = bs)
  | [], [] => rfl
  | [], b :: bs => rfl
  | a :: as, [] => rfl
  | a :: as, b :: bs => by
    have ih := eqvs_bls as bs
    have e : PyData.eqv (.bool a) (.bool b) = decide (a = b) := by cases a <;> cases b <;> decide +kernel
    rw [List.map_cons, List.map_cons]
    unfold PyData.eqvAll
    rw [ih, e, Bool.eq_iff_iff, Bool.and_eq_true, decide_eq_true_eq, decide_eq_true_eq, decide_eq_true_eq]
    exact ⟨fun ⟨h1, h2⟩ => by rw [h1, h2], fun h => by injection h with h1 h2; exact ⟨h1, h2⟩⟩
theorem lay_bls (bs : List Bool) : PyData.canLayAll0 (bs.map PyData.bool) = true ∧ PyData.depthAll (bs.map PyData.bool) = 0 := by
  induction bs with
  | nil => exact ⟨rfl, rfl⟩
  | cons b r ih =>
    rw [List.map_cons]
    unfold PyData.canLayAll0 PyData.depthAll
    rw [ih.1, ih.2]
    exact ⟨rfl, rfl⟩
theorem shaped_blT (bs : List Bool) : SeqAt.shaped (.tuple (bs.map PyData.bool)) = true := by
  obtain ⟨h1, h2⟩ := lay_bls bs
  unfold SeqAt.shaped PyData.canLay0 PyData.depth
  rw [h1, h2]
  rfl
theorem shaped_blL (bs : List Bool) : SeqAt.shaped (.list (bs.map PyData.bool)) = true := by
  obtain ⟨h1, h2⟩ := lay_bls bs
  unfold SeqAt.shaped PyData.canLay0 PyData.depth
  rw [h1, h2]
  rfl
theorem dp_blT {O : List Addr} {H : Hp} {bs : List Bool} {v : V} (h : Is K (hid O H) v (.tup (bs.map D.bl))) : Dp K H v (.tuple (bs.map PyData.bool)) := by
  obtain ⟨a, vs, rfl, hs, is⟩ := is_tup h
  exact .tup (sqT_hid hs) (dps_bls _ vs is)
theorem dp_blL {O : List Addr} {H : Hp} {bs : List Bool} {v : V} (h : Is K (hid O H) v (.lst (bs.map D.bl))) : Dp K H v (.list (bs.map PyData.bool)) := by
  obtain ⟨a, vs, rfl, hs, is⟩ := is_lst h
  exact .lst (sqL_hid hs) (dps_bls _ vs is)
theorem eqv_blT (as bs : List Bool) : PyData.eqv (.tuple (as.map PyData.bool)) (.tuple (bs.map PyData.bool)) = decide (as = bs) := by
  unfold PyData.eqv
  exact eqvs_bls as bs
theorem eqv_blL (as bs : List Bool) : PyData.eqv (.list (as.map PyData.bool)) (.list (bs.map PyData.bool)) = decide (as = bs) := by
  unfold PyData.eqv
  exact eqvs_bls as bs
theorem rvr_neBT {as bs : List Bool} (q : Q (.bl (!decide (as = bs)))) : RvR K (rNeD K) (.tup (as.map D.bl)) (.tup (bs.map D.bl)) Q := fun O H v u live hv hu Qv k =>
  ⟨_, _, dp_blT hv, dp_blT hu, shaped_blT _, shaped_blT _, k _ _ H (Same.refl _) (.bl _) (by rw [eqv_blT]; exact q)⟩
theorem rvr_eqBT {as bs : List Bool} (q : Q (.bl (decide (as = bs)))) : RvR K (rEqD K) (.tup (as.map D.bl)) (.tup (bs.map D.bl)) Q := fun O H v u live hv hu Qv k =>
  ⟨_, _, dp_blT hv, dp_blT hu, shaped_blT _, shaped_blT _, k _ _ H (Same.refl _) (.bl _) (by rw [eqv_blT]; exact q)⟩
theorem rvr_neBL {as bs : List Bool} (q : Q (.bl (!decide (as = bs)))) : RvR K (rNeD K) (.lst (as.map D.bl)) (.lst (bs.map D.bl)) Q := fun O H v u live hv hu Qv k =>
  ⟨_, _, dp_blL hv, dp_blL hu, shaped_blL _, shaped_blL _, k _ _ H (Same.refl _) (.bl _) (by rw [eqv_blL]; exact q)⟩
theorem rvr_eqBL {as bs : List Bool} (q : Q (.bl (decide (as = bs)))) : RvR K (rEqD K) (.lst (as.map D.bl)) (.lst (bs.map D.bl)) Q := fun O H v u live hv hu Qv k =>
  ⟨_, _, dp_blL hv, dp_blL hu, shaped_blL _, shaped_blL _, k _ _ H (Same.refl _) (.bl _) (by rw [eqv_blL]; exact q)⟩
/-! ### s.split(sep) -/
theorem iss_strsI {H : Hp} : ∀ ys : List Str, Iss K H (ys.map V.str) (ys.map D.str)
  | [] => .nil
  | y :: r => .cons (.str y) (iss_strsI r)
def rSplit : V → List V → Hp → VK → Prop := fun x xs H Q => ∃ a b, x = .str a ∧ xs = [.str b] ∧ (b.length == 0) = false ∧ a.length + 2 ≤ sizeLine ∧ rNewStrs (Txt.split a b) H Q
theorem mt_splitS {X : Cx} : MtR X "str.split" rSplit := mt_split
theorem rvm_split {a b : Str} (hb : (b.length == 0) = false) (hz : a.length ≤ 100000) (q : Q (.lst ((Txt.split a b).map D.str))) : RvM K rSplit (.str a) [.str b] Q := fun O H v vs live hv hvs Qv k => by
  obtain rfl := is_str hv
  obtain ⟨u, ws, rfl, i1, i2⟩ := iss_cons hvs
  obtain rfl := iss_nil i2
  obtain rfl := is_str i1
  refine ⟨a, b, rfl, rfl, hb, Nat.le_trans (Nat.add_le_add_right hz 2) (by rw [sizeLine_eq]; decide), fun p hp => ?_⟩
  exact k _ _ _ (NB.Same.upd hp) (is_new_lst live hp (iss_strsI _)) q
end
/-! ### texts that are the same or not -/
section
variable {K : PySem.W.Frag} {Q : D → Prop} {x y : Str}
theorem rvr_eqS_t (h : x = y) (q : Q (.bl true)) : RvR K rEq (.str x) (.str y) Q := rvr_eqS (by rw [decide_eq_true h]; exact q)
theorem rvr_eqS_f (h : x ≠ y) (q : Q (.bl false)) : RvR K rEq (.str x) (.str y) Q := rvr_eqS (by rw [decide_eq_false h]; exact q)
theorem rvr_neS_t (h : x ≠ y) (q : Q (.bl true)) : RvR K rNe (.str x) (.str y) Q := rvr_neS (by rw [decide_eq_false h]; exact q)
theorem rvr_neS_f (h : x = y) (q : Q (.bl false)) : RvR K rNe (.str x) (.str y) Q := rvr_neS (by rw [decide_eq_true h]; exact q)
end
/-! ### keywords, where there are no defaults -/
theorem kwp_ofN {K : PySem.W.Frag} {x qual : Str} {params : Arguments} {body : List Stmt} {scope : Scope} {f : Addr} {fd : FuncData} {ps : List Str} {n : Nat} {ks : List Str} {ix : List Nat} (F : FunD K x qual params body scope [] [] f fd)
    (h : ∀ (kV doc pm : Value) (an : Option Addr) (cdv ct : Value) (us ws : List Value), us.length = n → ws.length = ks.length → bindArgs (PySem.W.fnOf x qual params body scope .none kV doc pm an cdv ct) ⟨us, ks.zip ws⟩ = pure (ps.zip (us ++ permL ix ws))) : KwP K ps n ks ix fd := by
  obtain ⟨oc, od, dV, kV, doc, pm, an, cdv, ct, osl, rfl, lk, hcd, hD, hK⟩ := F.ex
  rcases hD with ⟨_, rfl⟩ | ⟨e, _⟩
  · exact ⟨fun s us ws X l1 l2 => .of_eq (h kV doc pm an cdv ct us ws l1 l2), fun r1 r2 => r1.append (vals_perm r2 ix)⟩
  · exact absurd rfl e
/-! ### the last item -/
theorem atI_last {α : Type} {xs : List α} {x : α} (h : xs.getLast? = some x) : atI xs (-1) = some x := by
  have hne : xs ≠ [] := fun e => by rw [e] at h; cases h
  have hl := List.length_pos_iff.mpr hne
  have e : ixN xs.length (-1) = some (xs.length - 1) := by
    unfold ixN
    rw [if_neg (by decide), if_pos (by omega)]
    exact congrArg some (by omega)
  unfold atI
  rw [e]
  show xs[xs.length - 1]? = some x
  rw [← List.getLast?_eq_getElem?]
  exact h
/-! ### constants of a class, read off the class -/
theorem cvB_ok {K : PySem.W.Frag} {C : Addr} {f : Str} {v : V} (h : cvB K C f v = true) : ∃ mc u, ClX.CRead K C mc ∧ ClX.CVal K C mc f v u := by
  unfold cvB at h
  simp only [Bool.and_eq_true] at h
  obtain ⟨h1, h2, h3⟩ := h
  cases e : PySem.W.findCls K (.ref C) (.type "type") f with
  | none => rw [e] at h3; cases h3
  | some r =>
    rw [e] at h3
    cases r with
    | val u => exact ⟨_, u, ⟨h1, He.eqO_ok h2⟩, ⟨e, He.relB_ok h3⟩⟩
    | _ => cases h3
end NB

end PART_NB46
section PART_NB48
set_option Elab.async false
set_option linter.all false
set_option maxRecDepth 100000
set_option maxHeartbeats 4000000
set_option autoImplicit false
set_option pp.maxSteps 400
/-! NB48: methods with a star parameter, called with plain arguments; the truth of an own instance in a test -/
namespace NB
open PySem PySem.Spec PyProof.Rows L2
section
variable {X : Cx} {k j : Nat} {C g : Addr} {m : Str} {F : Fn} {o e : Expr} {es : List Expr} {apos pos : Pos} {ta : TE} {t : TA}
theorem pe_msA {pl : Sem Bool} (h : MetS X.prog X.w X.K X.mg X.base k C m g F) (hr : Room j X.A) (he : PE X o ta) (ha : PA X (e :: es) t) (hk : k ≤ j := by first | decide | exact Nat.le_refl _ | omega)
    (hst : starEach (e :: es) X.env = (false, eval e X.env) :: starEach es X.env := by rfl) (hpl : (backTo pos (starEach es X.env)).any (·.1) = false := by rfl)
    (ht : eval (.Call (.Attribute o m apos) (e :: es) [] pos) X.env = (do
      let ov ← eval o X.env
      standAt apos.atName
      let (f, first) ← holding [ov] (getMethod ov m pl)
      callWith pos f first (backTo pos (starEach (e :: es) X.env)) (backToKw pos (keywordEach [] X.env))) := by rfl) : PE X (.Call (.Attribute o m apos) (e :: es) [] pos) (tMethR C m (spStar X.K F) E0 ta t) :=
  pe_methR (pl := pl) he h.c h.b.1 h.f (hr.mono hk) pass0 ha hst hpl ht
end
section
variable {S : Sys} {ρ : DEnv} {ta : TE} {t : TA} {C : Addr} {m : Str} {F : Fn} {E : XK} {Q : D → Prop}
theorem ev_msA (h : Ev S ta ρ fun x => ∃ fs, x = .obj C fs ∧ fs.lookup m = none ∧ EvA S t ρ fun ds => ds.length ≤ sizeLine ∧ F.f [x, .tup ds] Q) : Ev S (tMethR C m (spStar S.K F) E ta t) ρ Q := fun O σ H I Qv k => by
  refine h O σ H I _ fun x v H1 l1 t1 i1 ⟨fs, ex, e, h2⟩ => ?_
  subst ex
  obtain ⟨a, dx, us, rfl, ha, ke, is⟩ := is_obj i1
  have e1 : us.lookup m = none := by
    rcases (kv_of ke is).mapL (k := m) with ⟨v, d', e1, e2, i⟩ | ⟨e1, _⟩
    · rw [e] at e2; cases e2
    · exact e1
  refine ⟨a, dx, us, rfl, (hid_some ha).2, e1, ?_⟩
  refine h2 O σ H1 (I.le l1 t1) _ fun ds vs H2 l2 t2 i2 ⟨hz, hF⟩ => ?_
  have I2 := I.le (l1.trans l2) t2
  have i1' : Is S.K (hid O H2) (.ref a) (.obj C fs) := i1.ex (hid_le l2 I.sub)
  refine ⟨[.ref a], vs, rfl, rfl, by rw [i2.length]; exact hz, fun p hp => ?_⟩
  have s3 : Same H2 (upd H2 p (.tup vs)) := Same.upd hp
  have np : p ∉ O := fun mm => I2.live p mm hp
  have ex3 : ∀ b o, hid O H2 b = some o → hid O (upd H2 p (.tup vs)) b = some o := fun b o e => by
    obtain ⟨n, e⟩ := hid_some e
    rw [hid_out n]
    exact s3 _ _ e
  refine ⟨O, [.obj C fs, .tup ds], trivial, fun a ha => absurd ha (by simp [S0]), fun b hb e => (by cases q : H2 b with | none => exact I2.live b hb q | some o => rw [s3 b o q] at e; cases e), .cons (i1'.ex ex3) (.cons (is_new_tup I2.live hp i2) .nil), F.mono _ _ _ (fun d c v H' l _ i => ?_) hF⟩
  have l' : Same (upd H2 p (.tup vs)) H' := fun a o e => l a o (by simp [S0]) e
  exact k d v H' (((l1.trans l2).trans (Le.same s3)).trans (Le.same l')) (S.same _ _ l' (S.same _ _ s3 t2)) i c
end
/-! ### the truth of an own instance -/
def tTru (r : V → Hp → (Bool → Hp → Prop) → Prop) (ta : TE) : TT := fun σ H Q => ta σ H fun x H' => r x H' Q
theorem pt_truO {X : Cx} {a : Expr} {ta : TE} {r : V → Hp → (Bool → Hp → Prop) → Prop} (hr : TruR X r) (ha : PE X a ta) (he : ∀ whole, isTrue a X.env whole = (do let v ← whole; standAt a.pos; holding [v] (truthy v)) := by intro whole; rfl) : PT X a (tTru r ta) := pt_truthR ha hr he
def rTruAlt (r1 r2 : V → Hp → (Bool → Hp → Prop) → Prop) : V → Hp → (Bool → Hp → Prop) → Prop := fun x H Q => r1 x H Q ∨ r2 x H Q
theorem tru_alt {X : Cx} {r1 r2 : V → Hp → (Bool → Hp → Prop) → Prop} (h1 : TruR X r1) (h2 : TruR X r2) : TruR X (rTruAlt r1 r2) := fun pins s σ H x v Q I rx h => h.elim (h1 pins s σ H x v Q I rx) (h2 pins s σ H x v Q I rx)
def RvB (K : PySem.W.Frag) (r : V → Hp → (Bool → Hp → Prop) → Prop) (x : D) (Q : Bool → Prop) : Prop :=
  ∀ O H (v : V), (∀ a ∈ O, H a ≠ none) → Is K (hid O H) v x → ∀ Qv : Bool → Hp → Prop, (∀ b H', Same H H' → Q b → Qv b H') → r v H Qv
theorem evt_tru {S : Sys} {ρ : DEnv} {ta : TE} {r : V → Hp → (Bool → Hp → Prop) → Prop} {Qb : Bool → Prop} (h : Ev S ta ρ fun x => RvB S.K r x Qb) : EvT S (tTru r ta) ρ Qb := fun O σ H I Qv k => by
  refine h O σ H I _ fun x v H1 l1 t1 i1 q => ?_
  exact q O H1 v (I.le l1 t1).live i1 _ fun b H2 s2 c => k b H2 (l1.trans (Le.same s2)) (S.same _ _ s2 t1) c
section
variable {K : PySem.W.Frag} {C : Addr} {F : Fn} {fs : List (Str × D)} {Q : Bool → Prop} {r1 r2 : V → Hp → (Bool → Hp → Prop) → Prop} {x : D}
theorem rvb_I (h : F.f [.obj C fs] fun d => ∃ b, d = .bl b ∧ Q b) : RvB K (rTruI C (spF (S0 K) F)) (.obj C fs) Q := fun O H v live i1 Qv k => by
  obtain ⟨a, dx, us, rfl, e, _⟩ := is_obj i1
  refine ⟨a, dx, us, rfl, (hid_some e).2, spF_one live i1 (F.mono _ _ _ (fun d ⟨b, ed, q⟩ v H' s i => ?_) h)⟩
  subst ed
  exact ⟨_, is_bl i, k _ H' s q⟩
theorem rvb_alt1 (h : RvB K r1 x Q) : RvB K (rTruAlt r1 r2) x Q := fun O H v live hi Qv k => .inl (h O H v live hi Qv k)
theorem rvb_alt2 (h : RvB K r2 x Q) : RvB K (rTruAlt r1 r2) x Q := fun O H v live hi Qv k => .inr (h O H v live hi Qv k)
end
end NB

end PART_NB48
section PART_NB49
set_option Elab.async false
set_option linter.all false
set_option maxRecDepth 100000
set_option maxHeartbeats 4000000
set_option autoImplicit false
set_option pp.maxSteps 400
/-! NB49: own lists handed to what keeps none of them: locked for the while (lF) -/
namespace NB
open PySem PySem.Spec PyProof.Rows L2
section
variable {S : Sys} {ρ : DEnv} {te : TE} {Q : D → Prop}
theorem ex2_lockL {O : List Addr} {H : Hp} {l : Addr} {us : List V} {od : Obj} (hd : H l = some (.lst us)) : Ex2 (hid (l :: O) H) (hid O (upd H l (.frz od (.lst us)))) := by
  have ne : ∀ {a : Addr} {o : HO}, hid (l :: O) H a = some o → hid O (upd H l (.frz od (.lst us))) a = some o := fun {a o} h => by
    obtain ⟨na, h⟩ := hid_some h
    simp only [List.mem_cons, not_or] at na
    rw [hid_out na.2, upd_ne na.1]
    exact h
  exact ⟨fun a vs h => ne h, fun a vs h => ne h, fun a C dx fs h => ne h, fun a kvs h => h.imp (fun h => ne h) fun ⟨o, h⟩ => ⟨o, ne h⟩, fun a kvs h => h.imp (fun h => ne h) fun ⟨o, h⟩ => ⟨o, ne h⟩, fun a o kvs h => ne h, fun a o vs h => ne h⟩
theorem ex3_unlockL {O O' : List Addr} {H : Hp} {l : Addr} {us : List V} {od : Obj} (hd : H l = some (.frz od (.lst us))) (sub : ∀ a ∈ O', a ∈ O ∨ a = l) : Ex3 (hid O H) (hid O' (upd H l (.lst us))) := by
  have ne : ∀ {a : Addr} {o : HO}, hid O H a = some o → (∀ o' vs, o ≠ .frz o' (.lst vs)) → hid O' (upd H l (.lst us)) a = some o := fun {a o} h n => by
    obtain ⟨na, h⟩ := hid_some h
    have nl : a ≠ l := fun z => by rw [z, hd] at h; cases h; exact n od us rfl
    rw [hid_out fun m => (sub a m).elim na nl, upd_ne nl]
    exact h
  exact ⟨fun a vs h => ne h fun _ _ z => (by cases z), fun a vs h => ne h fun _ _ z => (by cases z), fun a C dx fs h => ne h fun _ _ z => (by cases z), fun a kvs h => h.imp (fun h => ne h fun _ _ z => (by cases z)) fun ⟨o, h⟩ => ⟨o, ne h fun _ _ z => (by cases z)⟩, fun a kvs h => h.imp (fun h => ne h fun _ _ z => (by cases z)) fun ⟨o, h⟩ => ⟨o, ne h fun _ _ z => (by cases z)⟩⟩
theorem slOk_lockL {K : PySem.W.Frag} {O O' : List Addr} {H H' : Hp} {l : Addr} {v : V} {s : Sl} (e : Ex2 (hid O H) (hid O' H')) (o : ∀ a ∈ O, a ≠ l → a ∈ O' ∧ H' a = H a) (nl : s.isOwn = true → v ≠ .ref l) (h : SlOk K O H v s) : SlOk K O' H' v s := by
  cases s with
  | dat d => exact Is.ex2 e h
  | own xs =>
    obtain ⟨b, rfl, hl, vs, h1, is⟩ := h
    obtain ⟨m, q⟩ := o b hl fun z => nl rfl (by rw [z])
    exact ⟨b, rfl, m, vs, by rw [q]; exact h1, is.ex2 e⟩
  | ownK xs =>
    obtain ⟨b, rfl, hl, vs, h1, ke, is⟩ := h
    obtain ⟨m, q⟩ := o b hl fun z => nl rfl (by rw [z])
    exact ⟨b, rfl, m, vs, by rw [q]; exact h1, ke, is.ex2 e⟩
  | ownT xs =>
    obtain ⟨b, rfl, hl, vs, h1, ke, is⟩ := h
    obtain ⟨m, q⟩ := o b hl fun z => nl rfl (by rw [z])
    exact ⟨b, rfl, m, vs, by rw [q]; exact h1, ke, is.ex2 e⟩
  | ownI b C xs =>
    obtain ⟨b', rfl, hl, eb, dx, vs, h1, ke, is⟩ := h
    obtain ⟨m, q⟩ := o b' hl fun z => nl rfl (by rw [z])
    exact ⟨b', rfl, m, eb, dx, vs, by rw [q]; exact h1, ke, is.ex2 e⟩
/-- an own list, locked while te is evaluated: what te gives holds nothing of it -/
theorem ev_lockO {i : Nat} {xs : List D} (hs : ρ[i]? = some (some (.own xs))) (h : Ev S.calm te (ρ.set i (some (.dat (.lF xs)))) fun d => NoF d ∧ Q d) : Ev S (tLockQ te) ρ Q := fun O σ H I Qv k => by
  obtain ⟨v, hv, l, rfl, hl, us, hus, is⟩ := I.at_ i _ hs
  have nM : l ∉ S.M := I.outM i l ⟨_, hs, rfl, hv⟩
  have hi : i < ρ.length := by
    by_cases h : i < ρ.length
    · exact h
    · rw [List.getElem?_eq_none (by simpa using h)] at hs; cases hs
  refine .inl ⟨l, .lst us, hus, True.intro, fun od => ?_⟩
  have e2 : Ex2 (hid O H) (hid (O.filter (· ≠ l)) (upd H l (.frz od (.lst us)))) := by
    have e := ex2_lockL (O := O.filter (· ≠ l)) (od := od) hus
    have eq : hid (l :: O.filter (· ≠ l)) H = hid O H := by
      funext a
      unfold hid
      by_cases z : a = l
      · subst z
        rw [if_pos List.mem_cons_self, if_pos hl]
      · by_cases m : a ∈ O
        · rw [if_pos (List.mem_cons_of_mem _ (List.mem_filter.mpr ⟨m, by simpa using z⟩)), if_pos m]
        · rw [if_neg (fun y => (List.mem_cons.mp y).elim z fun y => m (List.mem_filter.mp y).1), if_neg m]
    rw [eq] at e
    exact e
  have eo : ∀ a ∈ O, a ≠ l → a ∈ O.filter (· ≠ l) ∧ upd H l (.frz od (.lst us)) a = H a := fun a ha na => ⟨List.mem_filter.mpr ⟨ha, by simpa using na⟩, upd_ne na⟩
  have own : ∀ j b, OwnAt (ρ.set i (some (.dat (.lF xs)))) σ b j → OwnAt ρ σ b j ∧ j ≠ i := fun j b ⟨t, h1, h2, h3⟩ => by
    by_cases e : i = j
    · subst e
      rw [List.getElem?_set_self hi] at h1
      cases h1
      cases h2
    · rw [List.getElem?_set_ne e] at h1
      exact ⟨⟨t, h1, h2, h3⟩, fun z => e z.symm⟩
  have nlO : l ∉ O.filter (· ≠ l) := fun m => by simpa using (List.mem_filter.mp m).2
  have I1 : EnvOk S.calm (O.filter (· ≠ l)) (ρ.set i (some (.dat (.lF xs)))) σ (upd H l (.frz od (.lst us))) := {
    len := by rw [List.length_set]; exact I.len
    t := S.upd_own I.t nM (fun _ z => by rw [hus] at z; cases z)
    sub := fun a ha => List.mem_filter.mpr ⟨I.sub a ha, by simpa using fun z : a = l => nM (z ▸ ha)⟩
    live := fun a ha => by
      obtain ⟨h1, h2⟩ := List.mem_filter.mp ha
      rw [upd_ne (by simpa using h2)]
      exact I.live a h1
    at_ := fun j s hj => by
      by_cases e : i = j
      · subst e
        rw [List.getElem?_set_self hi] at hj
        cases hj
        exact ⟨_, hv, .lF (o := od) (vs := us) (by rw [hid_out nlO]; exact upd_same) (is.ex2 e2)⟩
      · rw [List.getElem?_set_ne e] at hj
        obtain ⟨u, hu, q⟩ := I.at_ j s hj
        exact ⟨u, hu, slOk_lockL e2 eo (fun ho z => e (I.dis i j l ⟨_, hs, rfl, hv⟩ ⟨s, hj, ho, by rw [hu, z]⟩)) q⟩
    dis := fun a b x ha hb => I.dis a b x (own _ _ ha).1 (own _ _ hb).1
    outM := fun a x ha => I.outM a x (own _ _ ha).1
    xk := .calm }
  refine h _ σ _ I1 _ fun x v H1 l1 t1 i1 ⟨nf, q⟩ => ?_
  have h1 : H1 l = some (.frz od (.lst us)) := l1 _ _ nM upd_same
  refine ⟨h1, k x v _ (fun a o na e => ?_) (S.upd_own t1 nM (fun _ z => by rw [h1] at z; cases z)) (i1.ex3 (ex3_unlockL h1 fun a ha => ?_) nf) q⟩
  · by_cases z : a = l
    · subst z
      rw [hus] at e
      cases e
      exact upd_same
    · rw [upd_ne z]
      exact l1 a o na (by rw [upd_ne z]; exact e)
  · by_cases z : a = l
    · exact .inr z
    · exact .inl (List.mem_filter.mpr ⟨ha, by simpa using z⟩)
end
end NB

end PART_NB49
section PART_NB50
set_option Elab.async false
set_option linter.all false
set_option maxRecDepth 100000
set_option maxHeartbeats 4000000
set_option pp.maxSteps 400
/-! NB50: t[::-1], t a tuple -/
namespace GBT
open PySem PySem.Spec PyProof.Rows L2 HT
section
variable {prog : Program} {w : World} {A : Around} {E : Value → Shared → Prop} {s : Shared}
theorem adjust_rev (n : Nat) : Builtin.Slice.sliceAdjust none none (-1) (n : Int) = ((n : Int) - 1, -1) := by
  unfold Builtin.Slice.sliceAdjust
  rfl
theorem places_rev (n : Nat) : Builtin.Slice.slicePlaces ((n : Int) - 1) (-1) (-1) = n := by
  unfold Builtin.Slice.slicePlaces
  have h1 : ¬ ((-1 : Int) > 0) := by omega
  rw [if_neg h1]
  have e : -(-1 : Int) = 1 := rfl
  rw [e, Int.ediv_one]
  split
  · omega
  · omega
theorem pick_rev (xs : Array Value) : ((List.range xs.size).filterMap fun (m : Nat) => xs[(((xs.size : Int) - 1) + (m : Int) * (-1)).toNat]?).toArray = xs.toList.reverse.toArray := by
  congr 1
  have e : ∀ k, k ≤ xs.size → (List.range k).filterMap (fun (m : Nat) => xs[(((xs.size : Int) - 1) + (m : Int) * (-1)).toNat]?) = xs.toList.reverse.take k := by
    intro k
    induction k with
    | zero => intro _; rfl
    | succ k ih =>
      intro hk
      rw [List.range_succ, List.filterMap_append, ih (by omega)]
      have ix : (((xs.size : Int) - 1) + (k : Int) * (-1)).toNat = xs.size - 1 - k := by omega
      have g : xs.toList.reverse[k]? = some xs[xs.size - 1 - k] := by
        rw [List.getElem?_reverse (by rw [Array.length_toList]; omega), Array.length_toList, Array.getElem?_toList, Array.getElem?_eq_getElem (by omega)]
      rw [NB.take_snoc g]
      congr 1
      rw [List.filterMap_cons, ix, Array.getElem?_eq_getElem (by omega)]
      rfl
  rw [e xs.size (Nat.le_refl _), List.take_of_length_le (by simp)]
theorem sliceApplied_rev {sl : Addr} {vs : Value} {n : Nat} {Q : Int × Int × Nat → Shared → Prop} (hs : s.heap.IsSliceOf sl .none .none vs) (ps : IsPart vs (some (-1)))
    (h : Q ((n : Int) - 1, -1, n) s) : wpAny (model prog w) A (Builtin.Slice.sliceApplied (.ref sl) (pure (n : Int))) Q E s := by
  obtain ⟨os, hos, hcs, hds⟩ := id hs
  unfold Builtin.Slice.sliceApplied Builtin.Slice.sliceFields
  refine wpAny_bind (wpAny_bind (wpAny_field hos hds (x := .none) rfl (wpAny_bind (wpAny_field hos hds (x := .none) rfl (wpAny_bind (wpAny_field hos hds (x := vs) rfl (wpAny_pure ?_)))))))
  refine wpAny_bind (slicePart_ ps ?_)
  show wpAny _ _ (if ((-1 : Int) == 0) = true then _ else _) _ _ s
  rw [if_neg (by decide)]
  refine wpAny_bind (slicePart_none (wpAny_bind (slicePart_none (wpAny_bind (wpAny_pure ?_)))))
  show wpAny _ _ (match Builtin.Slice.sliceAdjust none none (-1) (n : Int) with | (lo, hi) => pure (lo, (-1 : Int), Builtin.Slice.slicePlaces lo hi (-1))) _ _ s
  rw [adjust_rev n]
  show wpAny _ _ (pure ((n : Int) - 1, (-1 : Int), Builtin.Slice.slicePlaces ((n : Int) - 1) (-1) (-1))) _ _ s
  rw [places_rev]
  exact wpAny_pure h
theorem getItem_tuple_rev {t sl : Addr} {items : Array Value} {vs : Value} {Q : Value → Shared → Prop} (ht : IsTup s.heap t items) (hs : s.heap.IsSliceOf sl .none .none vs) (ps : IsPart vs (some (-1)))
    (h : Q (.ref s.heap.objs.size) { s with heap := s.heap.push { cls := .type "tuple", data := .seq items.toList.reverse.toArray } })
    (hsz : items.size ≤ sizeLine) : wpAny (model prog w) A (getItem (.ref t) (.ref sl)) Q E s := by
  have htake : sizeOk (.seq items.toList.reverse.toArray) := by
    show items.toList.reverse.toArray.size ≤ sizeLine
    rw [List.size_toArray, List.length_reverse, Array.length_toList]
    exact hsz
  obtain ⟨os, hos, hcs, hds⟩ := id hs
  have hTs : s.TypeIs (.ref sl) "slice" := ⟨os, hos, hcs⟩
  unfold getItem
  try with_reducible refine wpAny_holding ?_
  first | refine wpAny_bind (wpAny_pure ?_) | skip
  refine wpAny_bind (wpAny_sequenceKey ht.typeIs (by decide) ?_)
  refine wpAny_bind (wpAny_callSpecial?_slot (name := Str.ofString "__getitem__") ht.typeIs PyProof.Rows.slot_tuple_getitem
    (wpAny_call_entry PyProof.Rows.slot_tuple_getitem ht.typeIs entry_tuple_getitem ?_ (args_tuple_getitem _ _)))
  show wpAny _ _ (Builtin.Tuple.tupleItemsOf (.ref t) >>= _) _ _ s
  refine wpAny_bind (tupleItemsOf_ ht ?_)
  refine wpAny_bind (wpAny_typeOf hTs ?_)
  rw [if_pos (by decide)]
  refine wpAny_bind (sliceApplied_rev hs ps ?_)
  have hno : ¬ ((((items.size : Int) - 1) == 0 && (-1 : Int) == 1 && items.size == items.size) = true) := by
    intro q
    rw [Bool.and_eq_true, Bool.and_eq_true] at q
    exact absurd q.1.2 (by decide)
  show wpAny _ _ (if (((items.size : Int) - 1) == 0 && (-1 : Int) == 1 && items.size == items.size) = true then _ else _) _ _ s
  rw [if_neg hno, pick_rev]
  first
    | exact wpAny_bind (m := Builtin.Tuple.tupleExact _) (wpAny_newObj_type (wpAny_pure ⟨_, rfl, wpAny_pure h⟩) htake)
    | exact wpAny_bind (m := Builtin.Tuple.tupleExact _) (wpAny_newObj_type (wpAny_bind (wpAny_pure (wpAny_pure ⟨_, rfl, wpAny_pure h⟩))) htake)
    | exact wpAny_bind (wpAny_bind (m := Builtin.Tuple.tupleExact _) (wpAny_newObj_type (wpAny_pure (wpAny_pure ⟨_, rfl, wpAny_pure h⟩)) htake))
    | exact wpAny_bind (wpAny_bind (m := Builtin.Tuple.tupleExact _) (wpAny_newObj_type (wpAny_pure ⟨_, rfl, wpAny_pure h⟩) htake))
end
end GBT
namespace NB
open PySem PySem.Spec PyProof.Rows L2
def tRevT (K : PySem.W.Frag) (te : TE) : TE := fun σ H Q => te σ H fun x H1 => ∃ a xs, x = .ref a ∧ SqT K H1 a xs ∧ ∀ p, H1 p = none → Q (.ref p) (upd H1 p (.tup xs.reverse))
theorem pe_revT {X : Cx} {e : Expr} {te : TE} {k : Nat} {p1 p2 p3 pos : Pos} (he : PE X e te) : PE X (.Subscript e (.Slice none none (some (.UnaryOp .USub (.Constant (.int 1) k p1) p2)) p3) pos) (tRevT X.K te) := by
  refine ⟨fun pins s σ H Q I h => ?_⟩
  refine Subscript_ (thn (he.run pins s σ H _ I h) fun v s1 ⟨x, H1, I1, r1, q1⟩ => ?_)
  obtain ⟨a, xs, ex, hx, q⟩ := q1
  subst ex
  cases r1
  have hst : PO X (some (.UnaryOp .USub (.Constant (.int 1) k p1) p2)) (tPart (tUn (rU fun i => .int (-i)) (tC (.int 1)))) := po_some (pe_un un_neg pe_int)
  refine wpAny_Slice (thn (po_none.run pins s1 σ H1 (fun o H2 => o = none ∧ H2 = H1) I1 ⟨rfl, rfl⟩) fun vl s2 ⟨l, H2, I2, pl, el, e2⟩ => ?_)
  subst el e2
  refine thn (po_none.run pins s2 σ H2 (fun o H3 => o = none ∧ H3 = H2) I2 ⟨rfl, rfl⟩) fun vu s3 ⟨u, H3, I3, pu, eu, e3⟩ => ?_
  subst eu e3
  refine thn (hst.run pins s3 σ H3 (fun o H4 => o = some (-1) ∧ H4 = H3) I3 ⟨1, rfl, -1, rfl, rfl, rfl⟩) fun vs s4 ⟨o, H4, I4, ps, eo, e4⟩ => ?_
  subst eo e4
  have I5 : Inv X pins σ H4 { s4 with heap := s4.heap.push { cls := .type "slice", data := .fields #[vl, vu, vs] } } := I4.kept (t' := s4.toks) fun b ob q => Heap.get?_push_of_some _ q
  obtain ⟨its, r, ht, hz⟩ := I5.tuple hx
  have hlen := r.length
  cases pl
  cases pu
  show wpAny (model X.prog X.w) X.A (subscriptTail e (.Slice none none (some (.UnaryOp .USub (.Constant (.int 1) k p1) p2)) p3) (.ref a) (.ref s4.heap.objs.size)) (EP X pins σ Q) X.xe { s4 with heap := s4.heap.push { cls := .type "slice", data := .fields #[.none, .none, vs] } }
  refine tail_any (ops := [.ref a, .ref s4.heap.objs.size]) ht.typeIs (PyProof.Rows.slot_tuple_getitem.lookup) ?_ (by with_unfolding_all rfl)
  refine GBT.getItem_tuple_rev ht (Heap.IsSliceOf.new _ .none .none vs) ps ?_ (by rw [List.size_toArray]; omega)
  refine ⟨.ref _, _, I5.laid (t' := s4.toks) (o := .tup xs.reverse) (fun b ob q => Heap.get?_push_of_some _ q) (Nat.le_refl _) ?_, rfl, q _ (I5.hok.fresh (Nat.le_refl _))⟩
  exact ⟨by rw [List.length_reverse]; exact hz, _, r.reverse, IsTup.new _ _⟩
theorem R.pe_revT (K : PySem.W.Frag) {X : Cx} {e : Expr} {te : TE} {k : Nat} {p1 p2 p3 pos : Pos} (he : PE X e te) (h : X.K = K := by rfl) : PE X (.Subscript e (.Slice none none (some (.UnaryOp .USub (.Constant (.int 1) k p1) p2)) p3) pos) (tRevT K te) := h ▸ NB.pe_revT he
theorem ev_revT {S : Sys} {ρ : DEnv} {te : TE} {Q : D → Prop} (h : Ev S te ρ fun d => ∃ xs, d = .tup xs ∧ Q (.tup xs.reverse)) : Ev S (tRevT S.K te) ρ Q := fun O σ H I Qv k => by
  refine h O σ H I _ fun d v H1 l1 t1 i1 ⟨xs, e, q⟩ => ?_
  subst e
  obtain ⟨a, vs, rfl, hs, is⟩ := is_tup i1
  refine ⟨a, vs, rfl, sqT_hid hs, fun p hp => ?_⟩
  exact k _ _ _ (l1.trans (Le.same (NB.Same.upd hp))) (S.same _ _ (NB.Same.upd hp) t1) (is_new_tup (I.le l1 t1).live hp is.reverse) q
end NB

end PART_NB50
section PART_NB51
set_option Elab.async false
set_option linter.all false
set_option maxRecDepth 100000
set_option maxHeartbeats 4000000
set_option autoImplicit false
set_option pp.maxSteps 400
/-! NB51: x.append(y.append(e)); texts of small integers, below zero too; a[:k], a[k:] of lists -/
namespace NB
open PySem PySem.Spec PyProof.Rows L2
section
variable {S : Sys} {ρ : DEnv} {te : TE} {P : Post}
theorem run_append2 {k j : Nat} {xs ys : List D} (hk : ρ[k]? = some (some (.own xs))) (hj : ρ[j]? = some (some (.own ys))) (kj : k ≠ j) (hz : xs.length < sizeLine) (hz2 : ys.length < sizeLine)
    (h : Ev S te ρ fun d => P.nx ((ρ.set j (some (.own (ys ++ [d])))).set k (some (.own (xs ++ [.non]))))) : Run S (tDrop (tBM S.K "list" rAppend (tVar k) (tCons (tBM S.K "list" rAppend (tVar j) (tCons te tNil)) tNil))) ρ P := fun B O σ H I Dv k1 _ _ _ => by
  obtain ⟨l, vs, hv, hl, e, is⟩ := I.own_at hk
  obtain ⟨l2, us, hv2, hl2, e2, is2⟩ := I.own_at hj
  have ll : l ≠ l2 := fun z => kj (I.env.dis k j l ⟨_, hk, rfl, hv⟩ ⟨_, hj, rfl, by rw [hv2, z]⟩)
  refine ⟨.ref l, hv, .inl ⟨rfl, _, .inl (.inl e)⟩, ?_⟩
  refine ⟨.ref l2, hv2, .inl ⟨rfl, _, .inl (.inl e2)⟩, ?_⟩
  refine h O σ H I.env _ fun d v H1 l1 t1 i1 q => ?_
  obtain ⟨I1, s1⟩ := I.go l1 t1
  have nM2 : l2 ∉ S.M := I.env.outM j l2 ⟨_, hj, rfl, hv2⟩
  have e21 := l1 _ _ nM2 e2
  have is21 := is2.ex (hid_le l1 I.env.sub)
  refine ⟨l2, us, v, rfl, rfl, e21, by rw [is2.length]; exact hz2, ?_⟩
  have ex2 : ∀ a u, hid O H1 a = some u → hid O (upd H1 l2 (.lst (us ++ [v]))) a = some u := fun a u e => by
    obtain ⟨n, e⟩ := hid_some e
    rw [hid_out n, upd_ne fun z => n (by rw [z]; exact hl2)]
    exact e
  obtain ⟨I2, s2⟩ := I1.mut (s' := .own (ys ++ [d])) (o := .lst (us ++ [v])) hj rfl rfl hv2 hl2 ⟨_, upd_same, Iss.append (is21.ex ex2) (.cons (i1.ex ex2) .nil)⟩
  have nM : l ∉ S.M := I.env.outM k l ⟨_, hk, rfl, hv⟩
  have e1 := l1 _ _ nM e
  have e3 : upd H1 l2 (.lst (us ++ [v])) l = some (.lst vs) := by rw [upd_ne ll]; exact e1
  have is3 := (is.ex (hid_le l1 I.env.sub)).ex ex2
  refine ⟨l, vs, .non, rfl, rfl, e3, by rw [is.length]; exact hz, ?_⟩
  have ex3 : ∀ a u, hid O (upd H1 l2 (.lst (us ++ [v]))) a = some u → hid O (upd (upd H1 l2 (.lst (us ++ [v]))) l (.lst (vs ++ [.non]))) a = some u := fun a u e => by
    obtain ⟨n, e⟩ := hid_some e
    rw [hid_out n, upd_ne fun z => n (by rw [z]; exact hl)]
    exact e
  obtain ⟨I3, s3⟩ := I2.mut (k := k) (s' := .own (xs ++ [.non])) (o := .lst (vs ++ [.non])) (by rw [List.getElem?_set_ne (fun z => kj z.symm)]; exact hk) rfl rfl hv hl ⟨_, upd_same, Iss.append (is3.ex ex3) (.cons .non .nil)⟩
  exact k1 _ _ _ _ I3 ((s1.trans s2).trans s3) q
end
/-- arguments all by keyword, of a made class whose __init__ calls super's -/
theorem kwp_ofK {K : PySem.W.Frag} {fd : FuncData} {ps ks : List Str} {ix : List Nat} {n : Nat} (h : ∀ us ws : List Value, us.length = n → ws.length = ks.length → bindArgs fd ⟨us, ks.zip ws⟩ = pure (ps.zip (us ++ permL ix ws))) : KwP K ps n ks ix fd :=
  ⟨fun s us ws X l1 l2 => .of_eq (h us ws l1 l2), fun r1 r2 => r1.append (vals_perm r2 ix)⟩
/-! ### texts of small integers -/
def intS (i : Int) : Str := toString i
theorem log_smallZ {i : Int} (h : i.natAbs ≤ 100000) : i.natAbs.log2 < 1920 := by
  rcases Nat.eq_zero_or_pos i.natAbs with z | z
  · rw [z]; decide
  · have : i.natAbs.log2 < 18 := (Nat.log2_lt (by omega)).mpr (Nat.lt_of_le_of_lt h (show 100000 < 2 ^ 18 by decide))
    omega
theorem rvc_strZ {K : PySem.W.Frag} {i : Int} {Q : D → Prop} (h : i.natAbs ≤ 100000) (q : Q (.str (intS i))) : RvC K rStr1 [.int i] Q := fun O H vs live hi Qv k => by
  obtain ⟨v, ws, rfl, i1, i2⟩ := iss_cons hi
  obtain rfl := iss_nil i2
  obtain rfl := is_int i1
  exact ⟨_, rfl, log_smallZ h, k _ _ H (Same.refl _) (.str _) q⟩
theorem ev_fmtZ {S : Sys} {te : TE} {ρ : DEnv} {Q : D → Prop} (h : Ev S te ρ fun d => ∃ i : Int, d = .int i ∧ i.natAbs ≤ 100000 ∧ Q (.str (intS i))) : Ev S (tFmt te) ρ Q := fun O σ H I Qv k => by
  refine h O σ H I _ fun d v H1 l t i ⟨n, e, hn, q⟩ => ?_
  subst e
  exact .inr ⟨_, is_int i, log_smallZ hn, k _ _ H1 l t (.str _) q⟩
theorem intS_len {i : Int} (h1 : -1 ≤ i) (h : i ≤ 1000) : (intS i).length ≤ 4 := by
  by_cases z : 0 ≤ i
  · obtain ⟨n, rfl⟩ := Int.eq_ofNat_of_zero_le z
    exact numS_len (show n ≤ 1000 by omega)
  · rw [show i = -1 by omega]
    decide +kernel
end NB

end PART_NB51
section PART_NB52
set_option Elab.async false
set_option linter.all false
set_option maxRecDepth 100000
set_option maxHeartbeats 4000000
set_option autoImplicit false
set_option pp.maxSteps 400
/-! NB52: a list taken apart into names; environments told anew -/
namespace NB
open PySem PySem.Spec PyProof.Rows L2
theorem R.pg_unl (K : PySem.W.Frag) {X : Cx} {es : List Expr} {k : Nat} {pos : Pos} {t : TGs} {n : Nat} (ht : PGs X es t) (h : X.K = K := by rfl) (hc : X.calm = true := by rfl) (hn : (assignEach es X.env).length = n := by rfl) (hst : (assignEach es X.env).findIdx? (·.1) = none := by rfl) : PG X (.Tuple es k pos) (gUnl K n t) := h ▸ L2.pg_unl hc ht hn hst
/-- the same slots, told in other words -/
theorem run_env {S : Sys} {ρ ρ' : DEnv} {ts : TS} {P : Post} (e : ρ = ρ') (h : Run S ts ρ' P) : Run S ts ρ P := e ▸ h
theorem ev_env {S : Sys} {ρ ρ' : DEnv} {te : TE} {Q : D → Prop} (e : ρ = ρ') (h : Ev S te ρ' Q) : Ev S te ρ Q := e ▸ h
/-- arguments by keyword, all of them, where some have defaults -/
theorem kwp_ofD {K : PySem.W.Frag} {x qual : Str} {params : Arguments} {body : List Stmt} {scope : Scope} {dvs : List V} {f : Addr} {fd : FuncData} {ps : List Str} {n : Nat} {ks : List Str} {ix : List Nat} (F : FunD K x qual params body scope dvs [] f fd) (hd : dvs ≠ [])
    (h : ∀ (T : Addr) (kV doc pm : Value) (an : Option Addr) (cdv ct : Value) (us ws its : List Value), us.length = n → ws.length = ks.length → its.length = dvs.length →
      ∃ k, bindArgs (PySem.W.fnOf x qual params body scope (.ref T) kV doc pm an cdv ct) ⟨us, ks.zip ws⟩ = seqItems? (.ref T) >>= k ∧ k (some its.toArray) = pure (ps.zip (us ++ permL ix ws))) : KwP K ps n ks ix fd := by
  obtain ⟨oc, od, dV, kV, doc, pm, an, cdv, ct, osl, rfl, lk, hcd, hD, hK⟩ := F.ex
  rcases hD with ⟨e, _⟩ | ⟨_, T, o, its, m, rfl, lT, oT, rT⟩
  · exact absurd e hd
  · refine ⟨fun s us ws X l1 l2 => ?_, fun r1 r2 => r1.append (vals_perm r2 ix)⟩
    obtain ⟨k, e1, e2⟩ := h T kV doc pm an cdv ct us ws its l1 l2 rT.length.symm
    refine BindsTo.of_looks fun M => ?_
    rw [e1]
    exact looks_items X lT oT (.of_pure e2)
end NB

end PART_NB52
section PART_NB53
set_option Elab.async false
set_option linter.all false
set_option maxRecDepth 100000
set_option maxHeartbeats 4000000
set_option autoImplicit false
set_option pp.maxSteps 400
/-! NB53: new lists by a sum or as the copy of an own one; a list backwards -/
namespace NB
open PySem PySem.Spec PyProof.Rows L2
section
variable {S : Sys} {ρ : DEnv} {te ta tb : TE} {P : Post}
theorem new_free {O : List Addr} {σ : L2.St} {H H1 : Hp} {l : Addr} (I : EnvOk S O ρ σ H) (l1 : Le S.M H H1) (t1 : S.T H1) (hl : H1 l = none) : H l = none := by
  cases e : H l with
  | none => rfl
  | some o =>
    by_cases m : l ∈ S.M
    · exact absurd hl (S.live _ t1 _ m)
    · rw [l1 l o m e] at hl
      cases hl
/-- a + b, of two lists, as a new one -/
theorem evf_cat {Q : List D → Prop} (h : Ev S ta ρ fun x => ∃ xs, x = .lst xs ∧ Ev S tb ρ fun y => ∃ ys, y = .lst ys ∧ xs.length + ys.length ≤ sizeLine ∧ Q (xs ++ ys)) : EvF S (tOp (rAddX S.K) ta tb) ρ Q := fun O σ H I Qv k => by
  refine h O σ H I _ fun x v H1 l1 t1 i1 ⟨xs, ex, h1⟩ => ?_
  subst ex
  refine h1 O σ H1 (I.le l1 t1) _ fun y u H2 l2 t2 i2 ⟨ys, ey, z, q⟩ => ?_
  subst ey
  obtain ⟨a, vs, rfl, hs, is⟩ := is_lst (i1.ex (hid_le l2 I.sub))
  obtain ⟨b, us, rfl, hs2, is2⟩ := is_lst i2
  refine .inr (.inr (.inl ⟨a, b, vs, us, rfl, rfl, (hid_some hs).2, (hid_some hs2).2, by rw [is.length, is2.length]; exact z, fun p hp => ?_⟩))
  refine k _ p _ _ ((l1.trans l2).trans (Le.same (Same.upd hp))) (S.same _ _ (Same.upd hp) t2) (new_free I (l1.trans l2) t2 hp) upd_same ?_ q
  exact (is.append is2).ex (iss_pushE hp)
/-- list(x), x an own list -/
theorem evf_listO {i : Nat} {xs : List D} {Q : List D → Prop} (hs : ρ[i]? = some (some (.own xs))) (q : Q xs) : EvF S (tCB (rListQ S.K) (tCons (tVar i) tNil)) ρ Q := fun O σ H I Qv k => by
  obtain ⟨v, hv, ok⟩ := I.at_ i _ hs
  obtain ⟨l, rfl, hl, vs, e, is⟩ := ok
  refine ⟨.ref l, hv, l, vs, rfl, .inl (.inl (.inl e)), fun p hp => ?_⟩
  exact k _ p _ _ (Le.same (Same.upd hp)) (S.same _ _ (Same.upd hp) I.t) hp upd_same (is.ex (iss_pushE hp)) q
theorem ev_listO {i : Nat} {xs : List D} {Q : D → Prop} (hs : ρ[i]? = some (some (.own xs))) (q : Q (.lst xs)) : Ev S (tCB (rListQ S.K) (tCons (tVar i) tNil)) ρ Q := EvF.ev (evf_listO hs q)
/-- x[::-1], x a list -/
theorem evf_revL {Q : List D → Prop} (h : Ev S te ρ fun d => ∃ xs, d = .lst xs ∧ Q xs.reverse) : EvF S (tRevL S.K te) ρ Q := fun O σ H I Qv k => by
  refine h O σ H I _ fun d v H1 l1 t1 i1 ⟨xs, e, q⟩ => ?_
  subst e
  obtain ⟨a, us, rfl, hs, is⟩ := is_lst i1
  refine ⟨a, us, rfl, sqL_hid hs, fun p hp => ?_⟩
  exact k _ p _ _ (l1.trans (Le.same (Same.upd hp))) (S.same _ _ (Same.upd hp) t1) (new_free I l1 t1 hp) upd_same (is.reverse.ex (iss_pushE hp)) q
theorem ev_revL {Q : D → Prop} (h : Ev S te ρ fun d => ∃ xs, d = .lst xs ∧ Q (.lst xs.reverse)) : Ev S (tRevL S.K te) ρ Q := EvF.ev (evf_revL h)
end
end NB

end PART_NB53
namespace K03
open PySem PySem.Spec PyProof.Rows L2 NB
theorem exB_0 {K : PySem.W.Frag} (h : exB K = true) : neB K (He.ga K "Rule") = true := by
  unfold exB at h
  simp only [Bool.and_eq_true] at h
  exact h.1
theorem exB_1 {K : PySem.W.Frag} (h : exB K = true) : insB K (He.ga K "Rule") = true := by
  unfold exB at h
  simp only [Bool.and_eq_true] at h
  exact h.2.1
theorem exB_2 {K : PySem.W.Frag} (h : exB K = true) : nilB K (He.dflAt ("Rule", some "__init__") 0 K) = true := by
  unfold exB at h
  simp only [Bool.and_eq_true] at h
  exact h.2.2.1
theorem exB_3 {K : PySem.W.Frag} (h : exB K = true) : He.tupB K "BARRED" [.str "all", .str "and", .str "else", .str "fork", .str "labels", .str "not", .str "or", .str "some", .str "there", .str "top", .str "twins", .str "unlike"] = true := by
  unfold exB at h
  simp only [Bool.and_eq_true] at h
  exact h.2.2.2.1
theorem exB_4 {K : PySem.W.Frag} (h : exB K = true) : cvB K (He.ga K "Rule") "MOST" (.int 5) = true := by
  unfold exB at h
  simp only [Bool.and_eq_true] at h
  exact h.2.2.2.2.1
structure Hd (K : PySem.W.Frag) (mg : Str → Option Value) : Prop where
  kin : ∃ h : Heap, K.In h ∧ h.Ns mainGlobals mg
  c : He.SaysD fa fn K
  ex : exB K = true
  fc : ∀ (i : Nat) (d : Hy.DefC), cfl[i]? = some d → d.prop = false → Hy.FunC K (He.ga K d.cls) d.m d.qual d.params d.body d.scope file0 (He.ma K (He.ga K d.cls) d.m)
  fp : ∀ (i : Nat) (d : Hy.DefC), cfl[i]? = some d → d.prop = true → Hy.PropC K (He.ga K d.cls) d.m d.qual d.params d.body d.scope
section
variable {K : PySem.W.Frag} {mg : Str → Option Value}
theorem Hd.g_is_listed (T : Hd K mg) : mg "is_listed" = some (.ref (He.ga K "is_listed")) := by
  obtain ⟨h, X, G⟩ := T.kin
  exact He.glo_ok X G (T.c.fact 0)
theorem Hd.g_is_word (T : Hd K mg) : mg "is_word" = some (.ref (He.ga K "is_word")) := by
  obtain ⟨h, X, G⟩ := T.kin
  exact He.glo_ok X G (T.c.fact 1)
theorem Hd.g_is_label (T : Hd K mg) : mg "is_label" = some (.ref (He.ga K "is_label")) := by
  obtain ⟨h, X, G⟩ := T.kin
  exact He.glo_ok X G (T.c.fact 2)
theorem Hd.g_checked_labels (T : Hd K mg) : mg "checked_labels" = some (.ref (He.ga K "checked_labels")) := by
  obtain ⟨h, X, G⟩ := T.kin
  exact He.glo_ok X G (T.c.fact 3)
theorem Hd.g__law_tape (T : Hd K mg) : mg "_law_tape" = some (.ref (He.ga K "_law_tape")) := by
  obtain ⟨h, X, G⟩ := T.kin
  exact He.glo_ok X G (T.c.fact 4)
theorem Hd.g__law_pick (T : Hd K mg) : mg "_law_pick" = some (.ref (He.ga K "_law_pick")) := by
  obtain ⟨h, X, G⟩ := T.kin
  exact He.glo_ok X G (T.c.fact 5)
theorem Hd.g__law_of (T : Hd K mg) : mg "_law_of" = some (.ref (He.ga K "_law_of")) := by
  obtain ⟨h, X, G⟩ := T.kin
  exact He.glo_ok X G (T.c.fact 6)
theorem Hd.g__law_mixed (T : Hd K mg) : mg "_law_mixed" = some (.ref (He.ga K "_law_mixed")) := by
  obtain ⟨h, X, G⟩ := T.kin
  exact He.glo_ok X G (T.c.fact 7)
theorem Hd.g__law_same (T : Hd K mg) : mg "_law_same" = some (.ref (He.ga K "_law_same")) := by
  obtain ⟨h, X, G⟩ := T.kin
  exact He.glo_ok X G (T.c.fact 8)
theorem Hd.g__law_names (T : Hd K mg) : mg "_law_names" = some (.ref (He.ga K "_law_names")) := by
  obtain ⟨h, X, G⟩ := T.kin
  exact He.glo_ok X G (T.c.fact 9)
theorem Hd.g__law_forms (T : Hd K mg) : mg "_law_forms" = some (.ref (He.ga K "_law_forms")) := by
  obtain ⟨h, X, G⟩ := T.kin
  exact He.glo_ok X G (T.c.fact 10)
theorem Hd.g__law_menu (T : Hd K mg) : mg "_law_menu" = some (.ref (He.ga K "_law_menu")) := by
  obtain ⟨h, X, G⟩ := T.kin
  exact He.glo_ok X G (T.c.fact 11)
theorem Hd.g__law_plain (T : Hd K mg) : mg "_law_plain" = some (.ref (He.ga K "_law_plain")) := by
  obtain ⟨h, X, G⟩ := T.kin
  exact He.glo_ok X G (T.c.fact 12)
theorem Hd.g__law_known (T : Hd K mg) : mg "_law_known" = some (.ref (He.ga K "_law_known")) := by
  obtain ⟨h, X, G⟩ := T.kin
  exact He.glo_ok X G (T.c.fact 13)
theorem Hd.g__law_spec (T : Hd K mg) : mg "_law_spec" = some (.ref (He.ga K "_law_spec")) := by
  obtain ⟨h, X, G⟩ := T.kin
  exact He.glo_ok X G (T.c.fact 14)
theorem Hd.g__law_turned (T : Hd K mg) : mg "_law_turned" = some (.ref (He.ga K "_law_turned")) := by
  obtain ⟨h, X, G⟩ := T.kin
  exact He.glo_ok X G (T.c.fact 15)
theorem Hd.g__law_placed (T : Hd K mg) : mg "_law_placed" = some (.ref (He.ga K "_law_placed")) := by
  obtain ⟨h, X, G⟩ := T.kin
  exact He.glo_ok X G (T.c.fact 16)
theorem Hd.g__law_asked_so (T : Hd K mg) : mg "_law_asked_so" = some (.ref (He.ga K "_law_asked_so")) := by
  obtain ⟨h, X, G⟩ := T.kin
  exact He.glo_ok X G (T.c.fact 17)
theorem Hd.g_law (T : Hd K mg) : mg "law" = some (.ref (He.ga K "law")) := by
  obtain ⟨h, X, G⟩ := T.kin
  exact He.glo_ok X G (T.c.fact 18)
theorem Hd.g_Rule (T : Hd K mg) : mg "Rule" = some (.ref (He.ga K "Rule")) := by
  obtain ⟨h, X, G⟩ := T.kin
  exact He.glo_ok X G (T.c.fact 19)
theorem Hd.cls_Rule (T : Hd K mg) : Cls K (He.ga K "Rule") := He.cls_ok (T.c.fact 20)
theorem Hd.na_Rule_known (T : Hd K mg) : NoAttr K (He.ga K "Rule") "known" := He.noat_ok (T.c.fact 21)
theorem Hd.na_Rule_own_labels (T : Hd K mg) : NoAttr K (He.ga K "Rule") "own_labels" := He.noat_ok (T.c.fact 22)
theorem Hd.na_Rule_own_triples (T : Hd K mg) : NoAttr K (He.ga K "Rule") "own_triples" := He.noat_ok (T.c.fact 23)
theorem Hd.na_Rule_pairs (T : Hd K mg) : NoAttr K (He.ga K "Rule") "pairs" := He.noat_ok (T.c.fact 24)
theorem Hd.na_Rule_ranks (T : Hd K mg) : NoAttr K (He.ga K "Rule") "ranks" := He.noat_ok (T.c.fact 25)
theorem Hd.me_Rule___contains__ (T : Hd K mg) : Meth K (He.ga K "Rule") "__contains__" (He.ma K (He.ga K "Rule") "__contains__") := He.meth_ok (T.c.fact 26)
theorem Hd.me_Rule___eq__ (T : Hd K mg) : Meth K (He.ga K "Rule") "__eq__" (He.ma K (He.ga K "Rule") "__eq__") := He.meth_ok (T.c.fact 27)
theorem Hd.me_Rule___len__ (T : Hd K mg) : Meth K (He.ga K "Rule") "__len__" (He.ma K (He.ga K "Rule") "__len__") := He.meth_ok (T.c.fact 28)
theorem Hd.me_Rule___repr__ (T : Hd K mg) : Meth K (He.ga K "Rule") "__repr__" (He.ma K (He.ga K "Rule") "__repr__") := He.meth_ok (T.c.fact 29)
theorem Hd.me_Rule_allows (T : Hd K mg) : Meth K (He.ga K "Rule") "allows" (He.ma K (He.ga K "Rule") "allows") := He.meth_ok (T.c.fact 30)
theorem Hd.me_Rule_below (T : Hd K mg) : Meth K (He.ga K "Rule") "below" (He.ma K (He.ga K "Rule") "below") := He.meth_ok (T.c.fact 31)
theorem Hd.me_Rule_has_label (T : Hd K mg) : Meth K (He.ga K "Rule") "has_label" (He.ma K (He.ga K "Rule") "has_label") := He.meth_ok (T.c.fact 32)
theorem Hd.me_Rule_is_triple (T : Hd K mg) : Meth K (He.ga K "Rule") "is_triple" (He.ma K (He.ga K "Rule") "is_triple") := He.meth_ok (T.c.fact 33)
theorem Hd.me_Rule_labels (T : Hd K mg) : Meth K (He.ga K "Rule") "labels" (He.ma K (He.ga K "Rule") "labels") := He.meth_ok (T.c.fact 34)
theorem Hd.me_Rule_plain (T : Hd K mg) : Meth K (He.ga K "Rule") "plain" (He.ma K (He.ga K "Rule") "plain") := He.meth_ok (T.c.fact 35)
theorem Hd.me_Rule_triples (T : Hd K mg) : Meth K (He.ga K "Rule") "triples" (He.ma K (He.ga K "Rule") "triples") := He.meth_ok (T.c.fact 36)
theorem Hd.mk_Rule (T : Hd K mg) : Mk K (He.ga K "Rule") (He.ma K (He.ga K "Rule") "__init__") := He.mkr_ok (T.c.fact 37)
theorem Hd.f_all (T : Hd K mg) : mg "all" = none := by
  obtain ⟨h, X, G⟩ := T.kin
  exact He.free_ok X G (T.c.fact 38)
theorem Hd.f_bool (T : Hd K mg) : mg "bool" = none := by
  obtain ⟨h, X, G⟩ := T.kin
  exact He.free_ok X G (T.c.fact 39)
theorem Hd.f_enumerate (T : Hd K mg) : mg "enumerate" = none := by
  obtain ⟨h, X, G⟩ := T.kin
  exact He.free_ok X G (T.c.fact 40)
theorem Hd.f_int (T : Hd K mg) : mg "int" = none := by
  obtain ⟨h, X, G⟩ := T.kin
  exact He.free_ok X G (T.c.fact 41)
theorem Hd.f_isinstance (T : Hd K mg) : mg "isinstance" = none := by
  obtain ⟨h, X, G⟩ := T.kin
  exact He.free_ok X G (T.c.fact 42)
theorem Hd.f_len (T : Hd K mg) : mg "len" = none := by
  obtain ⟨h, X, G⟩ := T.kin
  exact He.free_ok X G (T.c.fact 43)
theorem Hd.f_list (T : Hd K mg) : mg "list" = none := by
  obtain ⟨h, X, G⟩ := T.kin
  exact He.free_ok X G (T.c.fact 44)
theorem Hd.f_range (T : Hd K mg) : mg "range" = none := by
  obtain ⟨h, X, G⟩ := T.kin
  exact He.free_ok X G (T.c.fact 45)
theorem Hd.f_repr (T : Hd K mg) : mg "repr" = none := by
  obtain ⟨h, X, G⟩ := T.kin
  exact He.free_ok X G (T.c.fact 46)
theorem Hd.f_str (T : Hd K mg) : mg "str" = none := by
  obtain ⟨h, X, G⟩ := T.kin
  exact He.free_ok X G (T.c.fact 47)
theorem Hd.f_super (T : Hd K mg) : mg "super" = none := by
  obtain ⟨h, X, G⟩ := T.kin
  exact He.free_ok X G (T.c.fact 48)
theorem Hd.f_tuple (T : Hd K mg) : mg "tuple" = none := by
  obtain ⟨h, X, G⟩ := T.kin
  exact He.free_ok X G (T.c.fact 49)
theorem Hd.f_zip (T : Hd K mg) : mg "zip" = none := by
  obtain ⟨h, X, G⟩ := T.kin
  exact He.free_ok X G (T.c.fact 50)
theorem Hd.ne_Rule (T : Hd K mg) : neB K (He.ga K "Rule") = true := exB_0 T.ex
theorem Hd.ins_Rule (T : Hd K mg) : InsOk K (He.ga K "Rule") := insOk T.cls_Rule (exB_1 T.ex)
theorem Hd.nil_Rule_0 (T : Hd K mg) (H : Hp) : Is K H (.ref (He.dflAt ("Rule", some "__init__") 0 K)) (.ktup []) := nilB_ok (exB_2 T.ex) H
theorem Hd.c_BARRED (T : Hd K mg) : ∃ u, mg "BARRED" = some u ∧ RelV (.ref (He.ga K "BARRED")) u := by
  obtain ⟨h, X, G⟩ := T.kin
  exact ⟨_, He.glo_ok X G (T.c.fact 51), rfl⟩
theorem Hd.t_BARRED (T : Hd K mg) (H : Hp) : SqT K H (He.ga K "BARRED") ([V.str "all", V.str "and", V.str "else", V.str "fork", V.str "labels", V.str "not", V.str "or", V.str "some", V.str "there", V.str "top", V.str "twins", V.str "unlike"] : List V) := He.tupB_ok (vs := [.str "all", .str "and", .str "else", .str "fork", .str "labels", .str "not", .str "or", .str "some", .str "there", .str "top", .str "twins", .str "unlike"]) (exB_3 T.ex) H
theorem Hd.c_LETTERS (T : Hd K mg) : ∃ u, mg "LETTERS" = some u ∧ RelV (.str "abcdefghijklmnopqrstuvwxyz") u := by
  obtain ⟨h, X, G⟩ := T.kin
  obtain ⟨t, e⟩ := He.str_ok X G (T.c.fact 52)
  exact ⟨_, e, t, rfl⟩
theorem Hd.c_MOST_LABELS (T : Hd K mg) : ∃ u, mg "MOST_LABELS" = some u ∧ RelV (.int 5) u := by
  obtain ⟨h, X, G⟩ := T.kin
  obtain ⟨t, e⟩ := He.int_ok X G (T.c.fact 53)
  exact ⟨_, e, t, rfl⟩
theorem Hd.c_MOST_LETTERS (T : Hd K mg) : ∃ u, mg "MOST_LETTERS" = some u ∧ RelV (.int 6) u := by
  obtain ⟨h, X, G⟩ := T.kin
  obtain ⟨t, e⟩ := He.int_ok X G (T.c.fact 54)
  exact ⟨_, e, t, rfl⟩
theorem Hd.d_is_listed (T : Hd K mg) : ∃ fd, FunD K "is_listed" "is_listed" (defArgs s_is_listed) (defBody s_is_listed) (defScope s_is_listed) [] [] (He.ga K "is_listed") fd := T.c.def_ 0 (d := df_is_listed)
theorem Hd.d_is_word (T : Hd K mg) : ∃ fd, FunD K "is_word" "is_word" (defArgs s_is_word) (defBody s_is_word) (defScope s_is_word) [] [] (He.ga K "is_word") fd := T.c.def_ 1 (d := df_is_word)
theorem Hd.d_is_label (T : Hd K mg) : ∃ fd, FunD K "is_label" "is_label" (defArgs s_is_label) (defBody s_is_label) (defScope s_is_label) [] [] (He.ga K "is_label") fd := T.c.def_ 2 (d := df_is_label)
theorem Hd.d_Rule___init__ (T : Hd K mg) : ∃ fd, FunD K "__init__" "Rule.__init__" (defArgs s_Rule___init__) (defBody s_Rule___init__) (defScope s_Rule___init__) [.ref (He.dflAt ("Rule", some "__init__") 0 K)] [] (He.ma K (He.ga K "Rule") "__init__") fd := T.c.def_ 3 (d := df_Rule___init__)
theorem Hd.d_Rule_is_triple (T : Hd K mg) : ∃ fd, FunD K "is_triple" "Rule.is_triple" (defArgs s_Rule_is_triple) (defBody s_Rule_is_triple) (defScope s_Rule_is_triple) [] [] (He.ma K (He.ga K "Rule") "is_triple") fd := T.c.def_ 4 (d := df_Rule_is_triple)
theorem Hd.d_Rule_has_label (T : Hd K mg) : ∃ fd, FunD K "has_label" "Rule.has_label" (defArgs s_Rule_has_label) (defBody s_Rule_has_label) (defScope s_Rule_has_label) [] [] (He.ma K (He.ga K "Rule") "has_label") fd := T.c.def_ 5 (d := df_Rule_has_label)
theorem Hd.d_Rule_plain (T : Hd K mg) : ∃ fd, FunD K "plain" "Rule.plain" (defArgs s_Rule_plain) (defBody s_Rule_plain) (defScope s_Rule_plain) [] [] (He.ma K (He.ga K "Rule") "plain") fd := T.c.def_ 6 (d := df_Rule_plain)
theorem Hd.d_Rule_labels (T : Hd K mg) : ∃ fd, FunD K "labels" "Rule.labels" (defArgs s_Rule_labels) (defBody s_Rule_labels) (defScope s_Rule_labels) [] [] (He.ma K (He.ga K "Rule") "labels") fd := T.c.def_ 7 (d := df_Rule_labels)
theorem Hd.d_Rule_triples (T : Hd K mg) : ∃ fd, FunD K "triples" "Rule.triples" (defArgs s_Rule_triples) (defBody s_Rule_triples) (defScope s_Rule_triples) [] [] (He.ma K (He.ga K "Rule") "triples") fd := T.c.def_ 8 (d := df_Rule_triples)
theorem Hd.d_Rule_below (T : Hd K mg) : ∃ fd, FunD K "below" "Rule.below" (defArgs s_Rule_below) (defBody s_Rule_below) (defScope s_Rule_below) [] [] (He.ma K (He.ga K "Rule") "below") fd := T.c.def_ 9 (d := df_Rule_below)
theorem Hd.d_Rule_allows (T : Hd K mg) : ∃ fd, FunD K "allows" "Rule.allows" (defArgs s_Rule_allows) (defBody s_Rule_allows) (defScope s_Rule_allows) [] [] (He.ma K (He.ga K "Rule") "allows") fd := T.c.def_ 10 (d := df_Rule_allows)
theorem Hd.d_Rule___contains__ (T : Hd K mg) : ∃ fd, FunD K "__contains__" "Rule.__contains__" (defArgs s_Rule___contains__) (defBody s_Rule___contains__) (defScope s_Rule___contains__) [] [] (He.ma K (He.ga K "Rule") "__contains__") fd := T.c.def_ 11 (d := df_Rule___contains__)
theorem Hd.d_Rule___eq__ (T : Hd K mg) : ∃ fd, FunD K "__eq__" "Rule.__eq__" (defArgs s_Rule___eq__) (defBody s_Rule___eq__) (defScope s_Rule___eq__) [] [] (He.ma K (He.ga K "Rule") "__eq__") fd := T.c.def_ 12 (d := df_Rule___eq__)
theorem Hd.d_Rule___len__ (T : Hd K mg) : ∃ fd, FunD K "__len__" "Rule.__len__" (defArgs s_Rule___len__) (defBody s_Rule___len__) (defScope s_Rule___len__) [] [] (He.ma K (He.ga K "Rule") "__len__") fd := T.c.def_ 13 (d := df_Rule___len__)
theorem Hd.d_Rule___repr__ (T : Hd K mg) : ∃ fd, FunD K "__repr__" "Rule.__repr__" (defArgs s_Rule___repr__) (defBody s_Rule___repr__) (defScope s_Rule___repr__) [] [] (He.ma K (He.ga K "Rule") "__repr__") fd := T.c.def_ 14 (d := df_Rule___repr__)
theorem Hd.d_checked_labels (T : Hd K mg) : ∃ fd, FunD K "checked_labels" "checked_labels" (defArgs s_checked_labels) (defBody s_checked_labels) (defScope s_checked_labels) [] [] (He.ga K "checked_labels") fd := T.c.def_ 15 (d := df_checked_labels)
theorem Hd.d__law_tape (T : Hd K mg) : ∃ fd, FunD K "_law_tape" "_law_tape" (defArgs s__law_tape) (defBody s__law_tape) (defScope s__law_tape) [] [] (He.ga K "_law_tape") fd := T.c.def_ 16 (d := df__law_tape)
theorem Hd.d__law_pick (T : Hd K mg) : ∃ fd, FunD K "_law_pick" "_law_pick" (defArgs s__law_pick) (defBody s__law_pick) (defScope s__law_pick) [] [] (He.ga K "_law_pick") fd := T.c.def_ 17 (d := df__law_pick)
theorem Hd.d__law_of (T : Hd K mg) : ∃ fd, FunD K "_law_of" "_law_of" (defArgs s__law_of) (defBody s__law_of) (defScope s__law_of) [] [] (He.ga K "_law_of") fd := T.c.def_ 18 (d := df__law_of)
theorem Hd.d__law_mixed (T : Hd K mg) : ∃ fd, FunD K "_law_mixed" "_law_mixed" (defArgs s__law_mixed) (defBody s__law_mixed) (defScope s__law_mixed) [] [] (He.ga K "_law_mixed") fd := T.c.def_ 19 (d := df__law_mixed)
theorem Hd.d__law_same (T : Hd K mg) : ∃ fd, FunD K "_law_same" "_law_same" (defArgs s__law_same) (defBody s__law_same) (defScope s__law_same) [] [] (He.ga K "_law_same") fd := T.c.def_ 20 (d := df__law_same)
theorem Hd.d__law_names (T : Hd K mg) : ∃ fd, FunD K "_law_names" "_law_names" (defArgs s__law_names) (defBody s__law_names) (defScope s__law_names) [] [] (He.ga K "_law_names") fd := T.c.def_ 21 (d := df__law_names)
theorem Hd.d__law_forms (T : Hd K mg) : ∃ fd, FunD K "_law_forms" "_law_forms" (defArgs s__law_forms) (defBody s__law_forms) (defScope s__law_forms) [] [] (He.ga K "_law_forms") fd := T.c.def_ 22 (d := df__law_forms)
theorem Hd.d__law_menu (T : Hd K mg) : ∃ fd, FunD K "_law_menu" "_law_menu" (defArgs s__law_menu) (defBody s__law_menu) (defScope s__law_menu) [] [] (He.ga K "_law_menu") fd := T.c.def_ 23 (d := df__law_menu)
theorem Hd.d__law_plain (T : Hd K mg) : ∃ fd, FunD K "_law_plain" "_law_plain" (defArgs s__law_plain) (defBody s__law_plain) (defScope s__law_plain) [] [] (He.ga K "_law_plain") fd := T.c.def_ 24 (d := df__law_plain)
theorem Hd.d__law_known (T : Hd K mg) : ∃ fd, FunD K "_law_known" "_law_known" (defArgs s__law_known) (defBody s__law_known) (defScope s__law_known) [] [] (He.ga K "_law_known") fd := T.c.def_ 25 (d := df__law_known)
theorem Hd.d__law_spec (T : Hd K mg) : ∃ fd, FunD K "_law_spec" "_law_spec" (defArgs s__law_spec) (defBody s__law_spec) (defScope s__law_spec) [] [] (He.ga K "_law_spec") fd := T.c.def_ 26 (d := df__law_spec)
theorem Hd.d__law_turned (T : Hd K mg) : ∃ fd, FunD K "_law_turned" "_law_turned" (defArgs s__law_turned) (defBody s__law_turned) (defScope s__law_turned) [] [] (He.ga K "_law_turned") fd := T.c.def_ 27 (d := df__law_turned)
theorem Hd.d__law_placed (T : Hd K mg) : ∃ fd, FunD K "_law_placed" "_law_placed" (defArgs s__law_placed) (defBody s__law_placed) (defScope s__law_placed) [] [] (He.ga K "_law_placed") fd := T.c.def_ 28 (d := df__law_placed)
theorem Hd.d__law_asked_so (T : Hd K mg) : ∃ fd, FunD K "_law_asked_so" "_law_asked_so" (defArgs s__law_asked_so) (defBody s__law_asked_so) (defScope s__law_asked_so) [] [] (He.ga K "_law_asked_so") fd := T.c.def_ 29 (d := df__law_asked_so)
theorem Hd.d_law (T : Hd K mg) : ∃ fd, FunD K "law" "law" (defArgs s_law) (defBody s_law) (defScope s_law) [] [] (He.ga K "law") fd := T.c.def_ 30 (d := df_law)
theorem Hd.cv_Rule_MOST (T : Hd K mg) : ∃ mc u, ClX.CRead K (He.ga K "Rule") mc ∧ ClX.CVal K (He.ga K "Rule") mc "MOST" (.int 5) u := cvB_ok (exB_4 T.ex)
end
/-! rows of my own tactic: peel what is evaluated -/
local macro_rules | `(tactic| walk_at "ev1") => `(tactic| first
  | ((with_reducible show ∃ i, D.int _ = D.int i ∧ _); refine ⟨_, rfl, ?_⟩)
  | ((with_reducible show ∃ i, D.str _ = D.str i ∧ _); refine ⟨_, rfl, ?_⟩)
  | ((with_reducible show ∃ i, D.bl _ = D.bl i ∧ _); refine ⟨_, rfl, ?_⟩)
  | ((with_reducible show ∃ i, D.lst _ = D.lst i ∧ _); refine ⟨_, rfl, ?_⟩)
  | ((with_reducible show ∃ i, D.tup _ = D.tup i ∧ _); refine ⟨_, rfl, ?_⟩)
  | ((with_reducible show if true = true then _ else _); refine iteT ?_)
  | ((with_reducible show if false = true then _ else _); refine iteF ?_)
  | ((with_reducible show List.length _ ≤ sizeLine ∧ _); refine ⟨szr rfl, ?_⟩)
  | ((with_reducible show Run _ (tSeq _ _) _ _); refine run_seq ?_)
  | ((with_reducible show Run _ (tRet _) _ _); refine run_ret ?_)
  | ((with_reducible show Run _ (tAsg _ (gName _)) _ _); refine run_set ?_)
  | ((with_reducible show Run _ (tAsg _ (gTup _ _ _)) _ _); refine run_asg (vs := List.range 64) ?_)
  | ((with_reducible show Run _ (tIfS _ _ _) _ _); refine run_if ?_)
  | ((with_reducible show Run _ (tPar _ _ _) _ _); refine run_par ?_)
  | ((with_reducible show Run _ (tPar3 _ _ _ _) _ _); refine run_par3 ?_)
  | ((with_reducible show Run _ tNext _ _); refine run_next ?_)
  | ((with_reducible show Ev _ (tVar _) _ _); refine ev_var (by rfl) ?_)
  | ((with_reducible show Ev _ (tC (.int _)) _ _); refine ev_cint ?_)
  | ((with_reducible show Ev _ (tC (.str _)) _ _); refine ev_cstr ?_)
  | ((with_reducible show Ev _ (tC (.bl _)) _ _); refine ev_cbl ?_)
  | ((with_reducible show Ev _ (tC .non) _ _); refine ev_cnon ?_)
  | ((with_reducible show Ev _ (tC (.ty _)) _ _); refine ev_cty ?_)
  | ((with_reducible show Ev _ (tOp _ _ _) _ _); refine ev_op ?_)
  | ((with_reducible show Ev _ (tUn _ _) _ _); refine ev_un ?_)
  | ((with_reducible show Ev (ST _ _) (tCall (spF (S0 _) _) [] _ _) _ _); refine ev_call0 ?_)
  | ((with_reducible show Ev _ (tCall (spF (S0 _) _) [] _ _) _ _); refine ev_call ?_)
  | ((with_reducible show Ev (ST _ _) (tCall (spT (ST _) _) [] _ _) _ _); refine ev_callT ?_)
  | ((with_reducible show Ev (ST _ _) (tCallKw _ _ (spF (S0 _) _) _ _ _) _ _); refine ev_callKw (S := ST _ _) ?_)
  | ((with_reducible show Ev _ (tCB _ _) _ _); refine ev_cb ?_)
  | ((with_reducible show Ev _ (tChain _ _ _ _ _) _ _); refine ev_chain ?_)
  | ((with_reducible show Ev _ (tIf _ _ _) _ _); refine ev_if ?_)
  | ((with_reducible show Ev _ (tAndV _ _) _ _); refine ev_andV ?_)
  | ((with_reducible show Ev _ (tOrV _ _) _ _); refine ev_orV ?_)
  | ((with_reducible show Ev _ (tNotV _) _ _); refine ev_notV ?_)
  | ((with_reducible show Ev _ (tSl _ _ _ _) _ _); refine ev_sl ?_)
  | ((with_reducible show Ev _ (tM1 _ _ _) _ _); refine ev_m1 ?_)
  | ((with_reducible show Ev _ (tTup _) _ _); refine ev_tup ?_)
  | ((with_reducible show Ev _ (tLst _) _ _); refine ev_lst ?_)
  | ((with_reducible show Ev _ (tLc _ _ _ _ _) _ _); refine ev_lcG ?_)
  | ((with_reducible show EvO _ tNoPart _ _); refine evo_none ?_)
  | ((with_reducible show EvO _ (tPart _) _ _); refine evo_some ?_)
  | ((with_reducible show EvA _ tNil _ _); refine eva_nil ?_)
  | ((with_reducible show EvA _ (tCons _ _) _ _); refine eva_cons ?_)
  | ((with_reducible show EvT _ (tB _) _ _); refine evt_b ?_)
  | ((with_reducible show EvT _ (tTest _) _ _); refine evt_test ?_)
  | ((with_reducible show EvT _ (tNot _) _ _); refine evt_not ?_)
  | ((with_reducible show EvT _ (tAnd _ _) _ _); refine evt_and ?_)
  | ((with_reducible show EvT _ (tOr _ _) _ _); refine evt_or ?_)
  | ((with_reducible show EvT _ tYes _ _); refine evt_yes ?_)
  | ((with_reducible show EvI _ (iStr _) _ _); refine evi_str ?_)
  | ((with_reducible show EvI _ (iList _ _) _ _); refine evi_list ?_)
  | ((with_reducible show EvI _ (iTup _ _) _ _); refine evi_tup ?_)
  | ((with_reducible show EvI _ (iRng1 _) _ _); refine evi_range1 ?_)
  | ((with_reducible show EvG _ _ (gTup _ _ _) _ (.tup [_, _]) _); refine evg_tup rfl ?_)
  | ((with_reducible show EvG _ _ (gTup _ _ _) _ (.tup [_, _, _]) _); refine evg_tup rfl ?_)
  | ((with_reducible show EvGs _ _ gNil _ _ _); refine evgs_nil ?_)
  | ((with_reducible show EvGs _ _ (gCons _ _) _ _ _); refine evgs_cons ?_)
  | ((with_reducible show EvG _ _ (gName _) _ _ _); refine evg_name (by decide) ?_)
  | ((with_reducible show RvR _ (rI0 fun i j => V.int _) (.int _) (.int _) _); refine rvr_ii ?_)
  | ((with_reducible show RvR _ (rI0 fun i j => V.bl _) (.int _) (.int _) _); refine rvr_ib ?_)
  | ((with_reducible show RvR _ (rAddX _) (.int _) (.int _) _); refine rvr_addX_i ?_)
  | ((with_reducible show RvR _ rEq (.int _) (.int _) _); refine rvr_eqI ?_)
  | ((with_reducible show RvR _ rNe (.int _) (.int _) _); refine rvr_neI ?_)
  | ((with_reducible show RvR _ rEq (.str _) (.str _) _); refine rvr_eqS ?_)
  | ((with_reducible show RvR _ rNe (.str _) (.str _) _); refine rvr_neS ?_)
  | ((with_reducible show RvR _ rEq (.bl _) (.bl _) _); refine rvr_eqB ?_)
  | ((with_reducible show RvR _ rIsN0 _ .non _); refine rvr_isN ?_)
  | ((with_reducible show RvR _ rNotN0 _ .non _); refine rvr_notN ?_)
  | ((with_reducible show RvR _ rIsB0 (.bl _) (.bl _) _); refine rvr_isB ?_)
  | ((with_reducible show RvR _ rNotB0 (.bl _) (.bl _) _); refine rvr_notB ?_)
  | ((with_reducible show RvC _ (rLenA _) [.lst _] _); refine rvc_lenL ?_)
  | ((with_reducible show RvC _ (rLenA _) [.tup _] _); refine rvc_lenT ?_)
  | ((with_reducible show RvC _ rInt1 [.int _] _); refine rvc_intI ?_)
  | ((with_reducible show RvC _ rInt1 [.bl _] _); refine rvc_intB ?_))
local macro_rules | `(tactic| walk_at "ev") => `(tactic| repeat (walk_at "ev1"))
section
variable {P : Program} {w : World} {K : PySem.W.Frag} {mg : Str → Option Value} {base : Heap}

def F_word : Fn := ⟨fun ds Q => ∃ d n, ds = [d, .int n] ∧ basic d = true ∧ (∀ x, d = .str x → x.length ≤ sizeLine) ∧ Q (.bl (isWord d n)), fun _ _ _ h ⟨d, n, e, b, z, q⟩ => ⟨d, n, e, b, z, h _ q⟩⟩
theorem h_is_word (T : Hd K mg) : Has P w K mg base "is_word" 1 P_is_word (spF (S0 K) F_word) := by
  refine has_ofD T.d_is_word T.g_is_word sc_is_word (fun _ _ _ _ _ _ us hl => match us, hl with | [_, _], _ => rfl) (fun ds R ⟨d, n, e, _⟩ => by rw [e]; rfl) fun f cdv A outer s H E hr => ?_
  refine ⟨_, (pss_one (ps_ret (pe_and (pe_callB (R.call_isi K) rfl T.f_isinstance (by decide +kernel) (pa_cons (pv 0) (pa_cons (pe_bltn (v := .ty "str") (u := .type "str") rfl T.f_str (by decide +kernel) rfl) pa_nil))) (pe_and (pe_chain op_le op_le pe_int (pe_callB (R.cr_len K) rfl T.f_len (by decide +kernel) (pa_cons (pv 0) pa_nil)) (pv 1)) (pe_one (pe_callB (R.cr_all K) rfl T.f_all (by decide +kernel) (pa_cons (pe_lc (own := [("sign", 2)]) rfl sc_is_word.nd (pi_str (pv 0)) (blkOk_by (N := N_is_word) (sc := (defScope s_is_word)) (by decide +kernel)) (fun _ _ _ _ _ => (pg_name (i := 2) sc_is_word.nd rfl (by first | exact Or.inl rfl | exact Or.inr rfl))) (fun _ _ _ _ _ => pts_nil) (fun _ _ _ _ _ => (pe_cmpR (R.op_inX K) (pv 2) (C8.pe_gc rfl T.c_LETTERS) (rfl)))) pa_nil))))))), ?_⟩
  rintro ds R ⟨d, n, rfl, b, z, q⟩
  walk_at "ev"
  cases d with
  | str x =>
    refine rvc_isi rfl (r := true) (show kitB "str" "str" = some true by decide +kernel) ⟨_, rfl, iteT ?_⟩
    have hz := z x rfl
    walk_at "ev"
    refine rvc_lenS hz ?_
    walk_at "ev"
    refine iteB (fun h1 => ?_) fun h1 => ?_
    · walk_at "ev"
      refine iteB (fun h2 => ?_) fun h2 => ?_
      · refine ev_cb (eva_cons ?_)
        refine ev_lcG (evi_str (ev_var (by rfl) ⟨x, rfl, ?_⟩))
        refine lc_map _ (fun c => .bl (smallC c)) (by simpa using (show x.cps.size ≤ sizeLine from hz)) (fun c hc => evg_name (by decide) ?_) ?_
        · walk_at "ev"
          exact rvr_inX_c rfl
        · walk_at "ev"
          refine rvc_allF ?_
          have e : isWord (.str x) n = x.cps.toList.all smallC := by
            show (_ && (_ && _)) = _
            rw [h1, h2, Bool.true_and, Bool.true_and]
          rw [← e]
          exact q
      · have e : isWord (.str x) n = false := by
          show (_ && (_ && _)) = _
          rw [h1, h2, Bool.true_and, Bool.false_and]
        rw [← e]
        exact q
    · have e : isWord (.str x) n = false := by
        show (_ && (_ && _)) = _
        rw [h1, Bool.false_and]
      refine ⟨_, rfl, iteF ?_⟩
      rw [← e]
      exact q
  | non => exact rvc_isi rfl (r := false) (show kitB "NoneType" "str" = some false by decide +kernel) ⟨_, rfl, iteF q⟩
  | bl _ => exact rvc_isi rfl (r := false) (show kitB "bool" "str" = some false by decide +kernel) ⟨_, rfl, iteF q⟩
  | int _ => exact rvc_isi rfl (r := false) (show kitB "int" "str" = some false by decide +kernel) ⟨_, rfl, iteF q⟩
  | tup _ => exact rvc_isi rfl (r := false) (show kitB "tuple" "str" = some false by decide +kernel) ⟨_, rfl, iteF q⟩
  | ktup _ => exact rvc_isi rfl (r := false) (show kitB "tuple" "str" = some false by decide +kernel) ⟨_, rfl, iteF q⟩
  | lst _ => exact rvc_isi rfl (r := false) (show kitB "list" "str" = some false by decide +kernel) ⟨_, rfl, iteF q⟩
  | lF _ => exact rvc_isi rfl (r := false) (show kitB "list" "str" = some false by decide +kernel) ⟨_, rfl, iteF q⟩
  | dK _ => exact rvc_isi rfl (r := false) (show kitB "dict" "str" = some false by decide +kernel) ⟨_, rfl, iteF q⟩
  | ty _ => cases b
  | loc _ => cases b
  | dT _ => cases b
  | dF _ => cases b
  | obj _ _ => cases b

def F_label : Fn := ⟨fun ds Q => ∃ d, ds = [d] ∧ basic d = true ∧ (∀ x, d = .str x → x.length ≤ sizeLine) ∧ Q (.bl (isLabel d)), fun _ _ _ h ⟨d, e, b, z, q⟩ => ⟨d, e, b, z, h _ q⟩⟩
theorem h_is_label (T : Hd K mg) : Has P w K mg base "is_label" 2 P_is_label (spF (S0 K) F_label) := by
  have h_is_word : Has P w K mg base "is_word" 1 P_is_word (spF (S0 K) F_word) := h_is_word T
  refine has_ofD T.d_is_label T.g_is_label sc_is_label (fun _ _ _ _ _ _ us hl => match us, hl with | [_], _ => rfl) (fun ds R ⟨d, e, _⟩ => by rw [e]; rfl) fun f cdv A outer s H E hr => ?_
  refine ⟨_, (pss_one (ps_ret (pe_and (pe_has h_is_word hr (pa_cons (pv 0) (pa_cons (C8.pe_gc rfl T.c_MOST_LETTERS) pa_nil))) (pe_one (pe_cmpR (R.op_notInX K) (pv 0) (C8.pe_gc rfl T.c_BARRED) (rfl)))))), ?_⟩
  rintro ds R ⟨d, rfl, b, z, q⟩
  walk_at "ev"
  refine ⟨d, 6, rfl, b, z, _, rfl, ?_⟩
  cases hw : isWord d 6 with
  | true =>
    refine iteT ?_
    cases d with
    | str x =>
      walk_at "ev"
      refine ev_cK (d := .ktup (barred.map D.str)) (fun H => .ktup (T.t_BARRED _) (iss_of_strs barred)) ?_
      refine rvr_inX_kt rfl (by decide +kernel) ?_
      have e : isLabel (.str x) = !inD (.str x) (barred.map D.str) := by
        unfold isLabel
        rw [hw, Bool.true_and]
      rw [if_pos rfl, ← e]
      exact q
    | _ => cases hw
  | false =>
    refine iteF ?_
    have e : isLabel d = false := by
      unfold isLabel
      rw [hw, Bool.false_and]
    rw [← e]
    exact q

/-! ### is_listed, checked_labels -/
def isSeq : D → Bool
  | .lst _ => true
  | .lF _ => true
  | .tup _ => true
  | .ktup _ => true
  | _ => false
def F_listed : Fn := ⟨fun ds Q => ∃ d, ds = [d] ∧ basic d = true ∧ Q (.bl (isSeq d)), fun _ _ _ h ⟨d, e, b, q⟩ => ⟨d, e, b, h _ q⟩⟩
theorem h_is_listed (T : Hd K mg) : Has P w K mg base "is_listed" 1 P_is_listed (spF (S0 K) F_listed) := by
  refine has_ofD T.d_is_listed T.g_is_listed sc_is_listed (fun _ _ _ _ _ _ us hl => match us, hl with | [_], _ => rfl) (fun ds R ⟨d, e, _⟩ => by rw [e]; rfl) fun f cdv A outer s H E hr => ?_
  refine ⟨_, (pss_one (ps_ret (pe_callB (R.call_isiT K) rfl T.f_isinstance (by decide +kernel) (pa_cons (pv 0) (pa_cons (pe_tup (pa_cons (pe_bltn (v := .ty "list") (u := .type "list") rfl T.f_list (by decide +kernel) rfl) (pa_cons (pe_bltn (v := .ty "tuple") (u := .type "tuple") rfl T.f_tuple (by decide +kernel) rfl) pa_nil))) pa_nil))))), ?_⟩
  rintro ds R ⟨d, rfl, b, q⟩
  refine run_ret (ev_isi2 (ev_var (by rfl) ?_))
  cases d with
  | lst _ => exact ⟨true, false, rfl, (show kitB "list" "list" = some true by decide +kernel), (show kitB "list" "tuple" = some false by decide +kernel), q⟩
  | lF _ => exact ⟨true, false, rfl, (show kitB "list" "list" = some true by decide +kernel), (show kitB "list" "tuple" = some false by decide +kernel), q⟩
  | tup _ => exact ⟨false, true, rfl, (show kitB "tuple" "list" = some false by decide +kernel), (show kitB "tuple" "tuple" = some true by decide +kernel), q⟩
  | ktup _ => exact ⟨false, true, rfl, (show kitB "tuple" "list" = some false by decide +kernel), (show kitB "tuple" "tuple" = some true by decide +kernel), q⟩
  | non => exact ⟨false, false, rfl, (show kitB "NoneType" "list" = some false by decide +kernel), (show kitB "NoneType" "tuple" = some false by decide +kernel), q⟩
  | bl _ => exact ⟨false, false, rfl, (show kitB "bool" "list" = some false by decide +kernel), (show kitB "bool" "tuple" = some false by decide +kernel), q⟩
  | int _ => exact ⟨false, false, rfl, (show kitB "int" "list" = some false by decide +kernel), (show kitB "int" "tuple" = some false by decide +kernel), q⟩
  | str _ => exact ⟨false, false, rfl, (show kitB "str" "list" = some false by decide +kernel), (show kitB "str" "tuple" = some false by decide +kernel), q⟩
  | dK _ => exact ⟨false, false, rfl, (show kitB "dict" "list" = some false by decide +kernel), (show kitB "dict" "tuple" = some false by decide +kernel), q⟩
  | ty _ => cases b
  | loc _ => cases b
  | dT _ => cases b
  | dF _ => cases b
  | obj _ _ => cases b
structure GoodWs (ws : List Str) : Prop where
  nd : ws.Nodup
  lo : 1 ≤ ws.length
  hi : ws.length ≤ 5
  good : ∀ x ∈ ws, GoodL x
  far : ¬ (("zzz" : Str) ∈ ws ∧ ("yyy" : Str) ∈ ws)
def F_checked : Fn := ⟨fun ds Q => ∃ (x : D) (ws : List Str), ds = [x] ∧ (x = .lst (ws.map D.str) ∨ x = .tup (ws.map D.str) ∨ x = .lF (ws.map D.str)) ∧ GoodWs ws ∧ Q (.lst (ws.map D.str)), fun _ _ _ h ⟨x, ws, e, ex, g, q⟩ => ⟨x, ws, e, ex, g, h _ q⟩⟩
theorem h_checked_labels (T : Hd K mg) : Has P w K mg base "checked_labels" 3 P_checked_labels (spF (S0 K) F_checked) := by
  have h_is_label : Has P w K mg base "is_label" 2 P_is_label (spF (S0 K) F_label) := h_is_label T
  have h_is_listed : Has P w K mg base "is_listed" 1 P_is_listed (spF (S0 K) F_listed) := h_is_listed T
  refine has_ofD T.d_checked_labels T.g_checked_labels sc_checked_labels (fun _ _ _ _ _ _ us hl => match us, hl with | [_], _ => rfl) (fun ds R ⟨x, ws, e, _⟩ => by rw [e]; rfl) fun f cdv A outer s H E hr => ?_
  refine ⟨_, (pss_cons (ps_if (PW.pt (pw_or (pt_not (pt_val (pe_has h_is_listed hr (pa_cons (pv 0) pa_nil)))) (pw_or1 (pt_not (pt_chain op_le op_le pe_int (pe_callB (R.cr_len K) rfl T.f_len (by decide +kernel) (pa_cons (pv 0) pa_nil)) (C8.pe_gc rfl T.c_MOST_LABELS)))))) (pss_one ps_no) pss_nil)
      (pss_cons (ps_set (i := 1) sc_checked_labels.nd rfl (Or.inl rfl) (pe_lst pa_nil))
      (pss_cons (ps_for PassesOwn.never rfl (R.pi_seq K (pv 0)) (pg_name (i := 2) sc_checked_labels.nd rfl (by first | exact Or.inl rfl | exact Or.inr rfl)) (pss_cons (ps_if (PW.pt (pw_or (pt_not (pt_val (pe_has h_is_label hr (pa_cons (pv 2) pa_nil)))) (pw_or1 (pt_cmpR (R.op_inX K) (pv 2) (pv 1) (rfl))))) (pss_one ps_no) pss_nil)
        (pss_one (ps_expr (pe_bm PySem.F.plainAttrs_list PySem.F.slot_list_append PySem.F.type_list_append mt_append (pv 1) (pa_cons (pv 2) pa_nil))))))
      (pss_one (ps_ret (pv 1)))))), ?_⟩
  rintro ds R ⟨x, ws, rfl, ex, g, q⟩
  have bx : basic x = true := by rcases ex with rfl | rfl | rfl <;> rfl
  have sx : isSeq x = true := by rcases ex with rfl | rfl | rfl <;> rfl
  have lo := g.lo
  have hi := g.hi
  walk_at "ev"
  refine ⟨x, rfl, bx, ?_⟩
  rw [sx]
  walk_at "ev"
  refine iteF ?_
  have e1 : decide ((1 : Int) ≤ (ws.map D.str).length) = true := decide_eq_true (by rw [List.length_map]; omega)
  have e2 : decide (((ws.map D.str).length : Int) ≤ 5) = true := decide_eq_true (by rw [List.length_map]; omega)
  have loop : ∀ {wi : TI}, EvI (S0 K) wi ((startD N_checked_labels [x]).set 1 (some (.own []))) (fun xs => xs = ws.map D.str) → NB.Run (S0 K) (tFor wi (gName 2)
      (tSeq (tIfS (tOr (tNot (tB (tCall (spF (S0 K) F_label) [] E0 (tCons (tVar 2) tNil)))) (tTest (tOp (rInX K false) (tVar 2) (tVar 1)))) tNoS tNext)
        (tDrop (tBM K "list" rAppend (tVar 1) (tCons (tVar 2) tNil))))) ((startD N_checked_labels [x]).set 1 (some (.own []))) ⟨fun ρ => NB.Run (S0 K) (tRet (tVar 1)) ρ ⟨fun _ => R D.non, R, fun _ => False, fun _ => False⟩, R, fun _ => False, fun _ => False⟩ := by
    intro wi hwi
    refine run_for (vs := [2]) (fun O σ H I Rr k => hwi O σ H I Rr fun J xs H1 l t W e => k J xs H1 l t W ?_)
    subst e
    refine ⟨fun i ρ => ∃ o, ρ = [some (.dat x), some (.own ((ws.take i).map D.str)), o], ⟨none, rfl⟩, ?_, ?_⟩
    · rintro i y ρ1 hy ⟨o, rfl⟩
      obtain ⟨a, ha, rfl⟩ := get_map_str hy
      have hm : a ∈ ws := List.mem_of_getElem? ha
      have ga := g.good a hm
      have nin := nodup_take g.nd ha
      refine evg_name (by simp) ?_
      walk_at "ev"
      refine ⟨.str a, rfl, rfl, fun y e => by cases e; have := ga.len; exact szs (by omega), ?_⟩
      rw [show isLabel (.str a) = true from ga]
      walk_at "ev"
      refine iteF ?_
      refine evt_borrow (k := 1) (by rfl) rfl ?_
      walk_at "ev"
      refine rvr_inX_l rfl (strs_plain _) ?_
      rw [if_neg Bool.false_ne_true, inD_strs]
      refine ⟨_, rfl, ?_⟩
      rw [decide_eq_false nin]
      refine iteF (run_next ?_)
      refine run_append (by rfl) (lt_size (m := 5) (by rw [List.length_map, List.length_take]; omega)) ?_
      walk_at "ev"
      refine ⟨some (.dat (.str a)), ?_⟩
      rw [take_snoc ha, List.map_append]
      rfl
    · rintro ρ1 ⟨o, rfl⟩
      rw [List.length_map, List.take_length]
      exact run_retO (by rfl) q
  rcases ex with rfl | rfl | rfl
  · walk_at "ev"
    rw [e1]
    walk_at "ev"
    rw [e2]
    walk_at "ev"
    refine iteF (run_next (run_seq (run_own (eva_nil ⟨szr rfl, ?_⟩))))
    refine run_seq (loop (evi_seqL (evi_list (ev_var (by rfl) ⟨_, rfl, rfl⟩))))
  · walk_at "ev"
    rw [e1]
    walk_at "ev"
    rw [e2]
    walk_at "ev"
    refine iteF (run_next (run_seq (run_own (eva_nil ⟨szr rfl, ?_⟩))))
    refine run_seq (loop (evi_seqT (evi_tup (ev_var (by rfl) ⟨_, rfl, rfl⟩))))
  · walk_at "ev"
    refine rvc_lenF ?_
    walk_at "ev"
    rw [e1]
    walk_at "ev"
    rw [e2]
    walk_at "ev"
    refine iteF (run_next (run_seq (run_own (eva_nil ⟨szr rfl, ?_⟩))))
    refine run_seq (loop (evi_seqL (evi_listF (ev_var (by rfl) ⟨_, rfl, rfl⟩))))
/-! ### the rule -/
abbrev fget (fs : List (Str × D)) (f : Str) : Option D := fs.lookup f
/-- the ranks of labels -/
def rkD (ws : List Str) : List (Key × D) := ws.zipIdx.map fun p => (.inr p.1, .int (p.2 : Nat))
theorem valD_cons {κ : Type} [DecidableEq κ] {k k' : κ} {d : D} {r : List (κ × D)} : valD ((k', d) :: r) k = if k' = k then some d else valD r k := by
  unfold valD
  rw [List.find?_cons]
  by_cases e : k' = k
  · simp [e]
  · simp [e]
theorem rk_val (ws : List Str) (x : Str) : ∀ n : Nat, valD ((ws.zipIdx n).map fun p => ((.inr p.1 : Key), D.int (p.2 : Nat))) (.inr x) = if x ∈ ws then some (.int ((ws.idxOf x + n : Nat) : Int)) else none := by
  induction ws with
  | nil => intro n; rfl
  | cons a r ih =>
    intro n
    rw [List.zipIdx_cons, List.map_cons, valD_cons]
    by_cases e : a = x
    · subst e
      simp
    · have e2 : ¬ (Sum.inr a : Key) = .inr x := fun z => e (Sum.inr.inj z)
      rw [if_neg e2, ih (n + 1)]
      have e3 : x ∈ a :: r ↔ x ∈ r := ⟨fun m => (List.mem_cons.mp m).resolve_left fun z => e z.symm, List.mem_cons_of_mem _⟩
      by_cases m : x ∈ r
      · rw [if_pos m, if_pos (e3.mpr m), List.idxOf_cons]
        have : (a == x) = false := by simpa using e
        rw [this]
        simp only [cond_false]
        congr 2
        omega
      · rw [if_neg m, if_neg fun z => m (e3.mp z)]
theorem rk_at (ws : List Str) (x : Str) : valD (rkD ws) (.inr x) = if x ∈ ws then some (.int (ws.idxOf x : Nat)) else none := rk_val ws x 0
def isIn (ws : List Str) : D → Bool
  | .str x => decide (x ∈ ws)
  | _ => false
def F_haslab (C : Addr) : Fn := ⟨fun ds Q => ∃ (fs : List (Str × D)) (d : D) (ws : List Str), ds = [.obj C fs, d] ∧ fget fs "ranks" = some (.dK (rkD ws)) ∧ basic d = true ∧ Q (.bl (isIn ws d)), fun _ _ _ h ⟨fs, d, ws, e, l, b, q⟩ => ⟨fs, d, ws, e, l, b, h _ q⟩⟩
theorem m_Rule_has_label (T : Hd K mg) : C8.Met P w K mg base 1 (He.ga K "Rule") "has_label" (spF (S0 K) (F_haslab (He.ga K "Rule"))) [] := by
  refine met_ofD T.cls_Rule T.me_Rule_has_label T.d_Rule_has_label sc_Rule_has_label (fun _ _ _ _ _ _ us hl => match us, hl with | [_, _], _ => rfl) (fun ds R ⟨_, _, _, e, _⟩ => by rw [e]; rfl) fun f cdv A outer s H E hr => ?_
  refine ⟨_, (pss_one (ps_ret (pe_and (pe_callB (R.call_isi K) rfl T.f_isinstance (by decide +kernel) (pa_cons (pv 1) (pa_cons (pe_bltn (v := .ty "str") (u := .type "str") rfl T.f_str (by decide +kernel) rfl) pa_nil))) (pe_one (pe_cmpR (op_dIn (un1 hr)) (pv 1) (pe_fldC T.cls_Rule T.na_Rule_ranks (pv 0)) (rfl)))))), ?_⟩
  rintro ds R ⟨fs, d, ws, rfl, l, b, q⟩
  walk_at "ev"
  have no : ∀ t, tyD d = t → kitB t "str" = some false → isIn ws d = false → RvC K (rIsi K) [d, .ty "str"] fun x => ∃ b, x = .bl b ∧ if b = true then Ev (S0 K) (tOp (rDIn false) (tVar 1) (tFldC (He.ga K "Rule") (tVar 0) "ranks")) (startD N_Rule_has_label [.obj (He.ga K "Rule") fs, d]) R else R (.bl false) := fun t e k z => by
    subst e
    rw [z] at q
    exact rvc_isi b k ⟨_, rfl, iteF q⟩
  cases d with
  | str x =>
    refine rvc_isi rfl (r := true) (show kitB "str" "str" = some true by decide +kernel) ⟨_, rfl, iteT ?_⟩
    refine ev_op (ev_var (by rfl) (ev_fldC (ev_var (by rfl) ⟨fs, _, rfl, l, ?_⟩)))
    refine rvr_dIn (.k (k := .inr x) rfl) ?_
    rw [rk_at, if_neg Bool.false_ne_true]
    have e : isIn ws (.str x) = (if x ∈ ws then some (D.int (ws.idxOf x : Nat)) else none).isSome := by
      show decide (x ∈ ws) = _
      by_cases m : x ∈ ws
      · rw [if_pos m, decide_eq_true m]; rfl
      · rw [if_neg m, decide_eq_false m]; rfl
    rw [← e]
    exact q
  | non => exact no _ rfl (show kitB "NoneType" "str" = some false by decide +kernel) rfl
  | bl _ => exact no _ rfl (show kitB "bool" "str" = some false by decide +kernel) rfl
  | int _ => exact no _ rfl (show kitB "int" "str" = some false by decide +kernel) rfl
  | tup _ => exact no _ rfl (show kitB "tuple" "str" = some false by decide +kernel) rfl
  | ktup _ => exact no _ rfl (show kitB "tuple" "str" = some false by decide +kernel) rfl
  | lst _ => exact no _ rfl (show kitB "list" "str" = some false by decide +kernel) rfl
  | lF _ => exact no _ rfl (show kitB "list" "str" = some false by decide +kernel) rfl
  | dK _ => exact no _ rfl (show kitB "dict" "str" = some false by decide +kernel) rfl
  | ty _ => cases b
  | loc _ => cases b
  | dT _ => cases b
  | dF _ => cases b
  | obj _ _ => cases b
/-- a triple of labels -/
def isTrip (ws : List Str) : D → Bool
  | .tup xs => decide (xs.length = 3) && xs.all (isIn ws)
  | _ => false
def basics : D → Bool
  | .tup xs => xs.all basic
  | .ktup _ => false
  | d => basic d
def F_istrip (C : Addr) : Fn := ⟨fun ds Q => ∃ (fs : List (Str × D)) (d : D) (ws : List Str), ds = [.obj C fs, d] ∧ fget fs "ranks" = some (.dK (rkD ws)) ∧ fget fs "has_label" = none ∧ basics d = true ∧ (∀ xs, d = .tup xs → xs.length ≤ sizeLine) ∧ Q (.bl (isTrip ws d)), fun _ _ _ h ⟨fs, d, ws, e, l, l2, b, z, q⟩ => ⟨fs, d, ws, e, l, l2, b, z, h _ q⟩⟩
theorem m_Rule_is_triple (T : Hd K mg) : C8.Met P w K mg base 2 (He.ga K "Rule") "is_triple" (spF (S0 K) (F_istrip (He.ga K "Rule"))) [] := by
  have m_Rule_has_label : C8.Met P w K mg base 1 (He.ga K "Rule") "has_label" (spF (S0 K) (F_haslab (He.ga K "Rule"))) [] := m_Rule_has_label T
  refine met_ofD T.cls_Rule T.me_Rule_is_triple T.d_Rule_is_triple sc_Rule_is_triple (fun _ _ _ _ _ _ us hl => match us, hl with | [_, _], _ => rfl) (fun ds R ⟨_, _, _, e, _⟩ => by rw [e]; rfl) fun f cdv A outer s H E hr => ?_
  refine ⟨_, (pss_one (ps_ret (pe_and (pe_callB (R.call_isi K) rfl T.f_isinstance (by decide +kernel) (pa_cons (pv 1) (pa_cons (pe_bltn (v := .ty "tuple") (u := .type "tuple") rfl T.f_tuple (by decide +kernel) rfl) pa_nil))) (pe_and (pe_cmpR op_eq (pe_callB (R.cr_len K) rfl T.f_len (by decide +kernel) (pa_cons (pv 1) pa_nil)) pe_int (nomark _)) (pe_one (pe_callB (R.cr_all K) rfl T.f_all (by decide +kernel) (pa_cons (pe_lc (own := [("part", 2)]) rfl sc_Rule_is_triple.nd (R.pi_tup K (pv 1)) (blkOk_by (N := N_Rule_is_triple) (sc := (defScope s_Rule_is_triple)) (by decide +kernel)) (fun _ _ _ _ _ => (pg_name (i := 2) sc_Rule_is_triple.nd rfl (by first | exact Or.inl rfl | exact Or.inr rfl))) (fun _ _ _ _ _ => pts_nil) (fun _ _ _ _ _ => (C8.pe_mt m_Rule_has_label hr (by first | decide | exact Nat.le_refl _ | omega) (pv 0) (pa_cons (pv 2) pa_nil)))) pa_nil))))))), ?_⟩
  rintro ds R ⟨fs, d, ws, rfl, l, l2, b, z, q⟩
  walk_at "ev"
  cases d with
  | tup xs =>
    refine rvc_isi rfl (r := true) (show kitB "tuple" "tuple" = some true by decide +kernel) ⟨_, rfl, iteT ?_⟩
    walk_at "ev"
    refine iteB (fun h1 => ?_) fun h1 => ?_
    · refine ev_cb (eva_cons (ev_lcG (evi_tup (ev_var (by rfl) ⟨xs, rfl, ?_⟩))))
      have := lc_map (S := S0 K) (l := xs) id (fun a => D.bl (isIn ws a)) (z xs rfl) (ρ := startD N_Rule_is_triple [.obj (He.ga K "Rule") fs, .tup xs]) (g := gName 2) (vs := [2]) (te := tMeth (He.ga K "Rule") "has_label" (spF (S0 K) (F_haslab (He.ga K "Rule"))) [] E0 (tVar 0) (tCons (tVar 2) tNil))
        (Q := fun x => EvA (S0 K) tNil (startD N_Rule_is_triple [.obj (He.ga K "Rule") fs, .tup xs]) fun ys => RvC K (rAll K) (x :: ys) R)
      rw [List.map_id] at this
      refine this (fun a ha => evg_name (by decide) ?_) ?_
      · refine ev_meth (ev_var (by rfl) ⟨fs, rfl, l2, ?_⟩)
        walk_at "ev"
        exact ⟨fs, a, ws, rfl, l, List.all_eq_true.mp b a ha, rfl⟩
      · walk_at "ev"
        refine rvc_allF ?_
        have e : isTrip ws (.tup xs) = xs.all (isIn ws) := by
          show (_ && _) = _
          have : (xs.length : Int) = 3 := of_decide_eq_true h1
          rw [decide_eq_true (by omega : xs.length = 3), Bool.true_and]
        rw [← e]
        exact q
    · have e : isTrip ws (.tup xs) = false := by
        show (_ && _) = _
        have h2 : ¬ xs.length = 3 := fun e => of_decide_eq_false h1 (by rw [e]; rfl)
        rw [decide_eq_false h2, Bool.false_and]
      rw [← e]
      exact q
  | non => exact rvc_isi rfl (r := false) (show kitB "NoneType" "tuple" = some false by decide +kernel) ⟨_, rfl, iteF q⟩
  | bl _ => exact rvc_isi rfl (r := false) (show kitB "bool" "tuple" = some false by decide +kernel) ⟨_, rfl, iteF q⟩
  | int _ => exact rvc_isi rfl (r := false) (show kitB "int" "tuple" = some false by decide +kernel) ⟨_, rfl, iteF q⟩
  | str _ => exact rvc_isi rfl (r := false) (show kitB "str" "tuple" = some false by decide +kernel) ⟨_, rfl, iteF q⟩
  | lst _ => exact rvc_isi rfl (r := false) (show kitB "list" "tuple" = some false by decide +kernel) ⟨_, rfl, iteF q⟩
  | lF _ => exact rvc_isi rfl (r := false) (show kitB "list" "tuple" = some false by decide +kernel) ⟨_, rfl, iteF q⟩
  | dK _ => exact rvc_isi rfl (r := false) (show kitB "dict" "tuple" = some false by decide +kernel) ⟨_, rfl, iteF q⟩
  | ktup _ => cases b
  | ty _ => cases b
  | loc _ => cases b
  | dT _ => cases b
  | dF _ => cases b
  | obj _ _ => cases b
abbrev Tr := Str × Str × Str
def t3 (t : Tr) : D := .tup [.str t.1, .str t.2.1, .str t.2.2]
def k3 (t : Tr) : List Key := [.inr t.1, .inr t.2.1, .inr t.2.2]
theorem t3_k3 (t : Tr) : t3 t = tupK (k3 t) := rfl
/-- the plain form -/
def plainT (ws : List Str) (t : Tr) : Tr := if ws.idxOf t.2.1 ≤ ws.idxOf t.2.2 then t else (t.1, t.2.2, t.2.1)
def inT (ws : List Str) (t : Tr) : Prop := t.1 ∈ ws ∧ t.2.1 ∈ ws ∧ t.2.2 ∈ ws
def F_plain (C : Addr) : Fn := ⟨fun ds Q => ∃ (fs : List (Str × D)) (t : Tr) (ws : List Str), ds = [.obj C fs, t3 t] ∧ fget fs "ranks" = some (.dK (rkD ws)) ∧ inT ws t ∧ Q (t3 (plainT ws t)), fun _ _ _ h ⟨fs, t, ws, e, l, b, q⟩ => ⟨fs, t, ws, e, l, b, h _ q⟩⟩
theorem m_Rule_plain (T : Hd K mg) : C8.Met P w K mg base 1 (He.ga K "Rule") "plain" (spF (S0 K) (F_plain (He.ga K "Rule"))) [] := by
  refine met_ofD T.cls_Rule T.me_Rule_plain T.d_Rule_plain sc_Rule_plain (fun _ _ _ _ _ _ us hl => match us, hl with | [_, _], _ => rfl) (fun ds R ⟨_, _, _, e, _⟩ => by rw [e]; rfl) fun f cdv A outer s H E hr => ?_
  refine ⟨_, (pss_cons (ps_asg (pv 1) (R.pg_tup K (n := 3) (pgs_cons (pg_name (i := 2) sc_Rule_plain.nd rfl (by first | exact Or.inl rfl | exact Or.inr rfl)) (pgs_cons (pg_name (i := 3) sc_Rule_plain.nd rfl (by first | exact Or.inl rfl | exact Or.inr rfl)) (pgs_cons (pg_name (i := 4) sc_Rule_plain.nd rfl (by first | exact Or.inl rfl | exact Or.inr rfl)) pgs_nil)))))
      (pss_one (ps_ret (pe_ifExp (pt_cmpR op_le (pe_dget (un1 hr) (pe_fldC T.cls_Rule T.na_Rule_ranks (pv 0)) (pv 3) (fun _ _ => rfl)) (pe_dget (un1 hr) (pe_fldC T.cls_Rule T.na_Rule_ranks (pv 0)) (pv 4) (fun _ _ => rfl)) (nomark _)) (pe_tup (pa_cons (pv 2) (pa_cons (pv 3) (pa_cons (pv 4) pa_nil)))) (pe_tup (pa_cons (pv 2) (pa_cons (pv 4) (pa_cons (pv 3) pa_nil)))))))), ?_⟩
  rintro ds R ⟨fs, ⟨a, b, c⟩, ws, rfl, l, ⟨ha, hb, hc⟩, q⟩
  have rk : ∀ x, x ∈ ws → valD (rkD ws) (.inr x) = some (.int (ws.idxOf x : Nat)) := fun x hx => by rw [rk_at, if_pos hx]
  refine run_seq (run_asg (vs := List.range 64) (ev_var (by rfl) ?_))
  show EvG _ _ _ _ (.tup [.str a, .str b, .str c]) _
  walk_at "ev"
  refine ev_dget (ev_fldC (ev_var (by rfl) ⟨fs, _, rfl, l, ev_var (by rfl) ⟨_, (rk b hb) ▸ DFind.k rfl, ?_⟩⟩))
  refine ev_dget (ev_fldC (ev_var (by rfl) ⟨fs, _, rfl, l, ev_var (by rfl) ⟨_, (rk c hc) ▸ DFind.k rfl, ?_⟩⟩))
  walk_at "ev"
  refine iteB (fun h => ?_) fun h => ?_
  · walk_at "ev"
    have h2 : ws.idxOf b ≤ ws.idxOf c := by have := of_decide_eq_true h; omega
    have e : plainT ws (a, b, c) = (a, b, c) := if_pos h2
    rw [e] at q
    exact q
  · walk_at "ev"
    have h2 : ¬ ws.idxOf b ≤ ws.idxOf c := by have := of_decide_eq_false h; omega
    have e : plainT ws (a, b, c) = (a, c, b) := if_neg h2
    rw [e] at q
    exact q
/-- all triples in plain form, rising -/
def forms (ws : List Str) : List Tr := ws.flatMap fun a => ws.zipIdx.flatMap fun b => (ws.drop b.2).map fun c => (a, b.1, c)
def cube (ws : List Str) : List Tr := ws.flatMap fun a => ws.flatMap fun b => ws.flatMap fun c => [(a, b, c)]
def p2 (t : Str × Str) : D := .tup [.str t.1, .str t.2]
def pairsOf (os : List Tr) (a : Str) : List (Str × Str) := (os.filter fun t => decide (t.1 = a)).map fun t => (t.2.1, t.2.2)
def prD (ws : List Str) (os : List Tr) : List (Key × D) := ws.map fun a => (.inr a, .lst ((pairsOf os a).map p2))
def ruleFs (ws : List Str) (kn : List (List Key × D)) (os : List Tr) : List (Str × D) :=
  [("own_labels", .lst (ws.map D.str)), ("ranks", .dK (rkD ws)), ("known", .dT kn), ("own_triples", .lst (os.map t3)), ("pairs", .dK (prD ws os))]
theorem k3_inj {s t : Tr} (h : k3 s = k3 t) : s = t := by
  obtain ⟨a, b, c⟩ := s
  obtain ⟨a', b', c'⟩ := t
  simp only [k3, List.cons.injEq, Sum.inr.injEq] at h
  obtain ⟨rfl, rfl, rfl, _⟩ := h
  rfl
theorem any_k3 (t : Tr) (l : List Tr) : (l.any ((fun p => decide (p.1 = k3 t)) ∘ fun t => (k3 t, D.bl true))) = decide (t ∈ l) := by
  rw [Bool.eq_iff_iff, List.any_eq_true, decide_eq_true_eq]
  constructor
  · rintro ⟨x, hx, e⟩
    rw [← k3_inj (of_decide_eq_true e)]
    exact hx
  · exact fun h => ⟨t, h, decide_eq_true rfl⟩
theorem cube_len {ws : List Str} (h : ws.length ≤ 5) : (cube ws).length ≤ 125 := by
  have h1 : (cube ws).length ≤ ws.length * 25 := flatMap_len fun a _ => by
    have h2 : (ws.flatMap fun b => ws.flatMap fun c => [(a, b, c)]).length ≤ ws.length * 5 := flatMap_len fun b _ => by
      have h3 : (ws.flatMap fun c => [(a, b, c)]).length ≤ ws.length * 1 := flatMap_len fun c _ => Nat.le_refl _
      omega
    omega
  omega
theorem keys_rk (ws : List Str) : ((rkD ws).map fun p => keyD p.1) = ws.map D.str := by
  unfold rkD
  rw [List.map_map]
  have : ((fun p : Key × D => keyD p.1) ∘ fun p : Str × Nat => ((.inr p.1 : Key), D.int (p.2 : Nat))) = D.str ∘ Prod.fst := rfl
  rw [this, ← List.map_map, List.zipIdx_map_fst]
theorem map_flat {α β : Type} (f : α → List β) (g : β → D) (l : List α) : (l.flatMap f).map g = l.flatMap fun a => (f a).map g := by rw [List.map_flatMap]
theorem putD_all {κ : Type} [DecidableEq κ] {p : D → Prop} {k : κ} {v : D} (hv : p v) {kvs : List (κ × D)} (h : ∀ q ∈ kvs, p q.2) : ∀ q ∈ putD kvs k v, p q.2 := fun q hq => by
  unfold putD at hq
  split at hq
  · obtain ⟨a, ha, rfl⟩ := List.mem_map.mp hq
    by_cases e : a.1 = k
    · rw [if_pos e]
      exact hv
    · rw [if_neg e]
      exact h a ha
  · rcases List.mem_append.mp hq with hq | hq
    · exact h q hq
    · rw [List.mem_singleton.mp hq]
      exact hv
theorem foldD_all {κ : Type} [DecidableEq κ] {p : D → Prop} : ∀ {ps kvs : List (κ × D)}, (∀ q ∈ kvs, p q.2) → (∀ q ∈ ps, p q.2) → ∀ q ∈ foldD kvs ps, p q.2
  | [], _, h, _, q, hq => h q hq
  | a :: r, kvs, h, h2, q, hq => foldD_all (ps := r) (kvs := putD kvs a.1 a.2) (putD_all (h2 a List.mem_cons_self) h) (fun q hq => h2 q (List.mem_cons_of_mem _ hq)) q hq
def FI_rule : FnI := ⟨fun ds Q => ∃ (x y : D) (ws : List Str) (ts : List Tr), ds = [x, y] ∧ (y = .lst (ts.map t3) ∨ (y = .tup (ts.map t3) ∨ y = .lF (ts.map t3)) ∨ (y = .ktup [] ∧ ts = [])) ∧ (x = .lst (ws.map D.str) ∨ x = .tup (ws.map D.str) ∨ x = .lF (ws.map D.str)) ∧ GoodWs ws ∧ (∀ t ∈ ts, inT ws t) ∧ ts.length ≤ 100000 ∧
  ∀ kn : List (List Key × D), (∀ t, (valD kn (k3 t)).isSome = decide (t ∈ ts.map (plainT ws))) → NoFs (kn.map Prod.snd) → Q (ruleFs ws kn ((cube ws).filter fun t => decide (t ∈ ts.map (plainT ws)))),
  fun _ _ _ h ⟨x, y, ws, ts, e, ey, ex, g, t, z, q⟩ => ⟨x, y, ws, ts, e, ey, ex, g, t, z, fun kn hk nf => h _ (q kn hk nf)⟩⟩
theorem mg_Rule (T : Hd K mg) {Φ : FuncData → Prop} (hΦ : ∀ fd, FunD K "__init__" "Rule.__init__" (defArgs s_Rule___init__) (defBody s_Rule___init__) (defScope s_Rule___init__) [.ref (He.dflAt ("Rule", some "__init__") 0 K)] [] (He.ma K (He.ga K "Rule") "__init__") fd → Φ fd) : MakG P w K mg base 4 "Rule" (He.ga K "Rule") P_Rule___init__ (spI K (He.ga K "Rule") FI_rule) Φ := by
  have h_checked_labels : Has P w K mg base "checked_labels" 3 P_checked_labels (spF (S0 K) F_checked) := h_checked_labels T
  have h_is_listed : Has P w K mg base "is_listed" 1 P_is_listed (spF (S0 K) F_listed) := h_is_listed T
  have m_Rule_is_triple : C8.Met P w K mg base 2 (He.ga K "Rule") "is_triple" (spF (S0 K) (F_istrip (He.ga K "Rule"))) [] := m_Rule_is_triple T
  have m_Rule_plain : C8.Met P w K mg base 1 (He.ga K "Rule") "plain" (spF (S0 K) (F_plain (He.ga K "Rule"))) [] := m_Rule_plain T
  refine makG_ofI T.mk_Rule T.g_Rule T.d_Rule___init__ sc_Rule___init__ hΦ (fun ds R ⟨_, _, _, _, e, _⟩ => by rw [e]; rfl) fun f cdv A outer s H E hr => ?_
  refine ⟨_, (pss_cons (ps_fldC T.cls_Rule T.na_Rule_own_labels (pv 0) (pe_has h_checked_labels hr (pa_cons (pv 1) pa_nil)))
      (pss_cons (ps_if (pt_not (pt_val (pe_has h_is_listed hr (pa_cons (pv 2) pa_nil)))) (pss_one ps_no) pss_nil)
      (pss_cons (ps_fldC T.cls_Rule T.na_Rule_ranks (pv 0) (NC.pe_of (NC.pc_d1 (own := [("rank", 7), ("label", 8)]) (o0 := .dK []) (.inl rfl) rfl (un0 hr) sc_Rule___init__.nd (R.pi_enum K rfl T.f_enumerate (pa_cons (pe_fldC T.cls_Rule T.na_Rule_own_labels (pv 0)) pa_nil)) (blkOk_by (N := N_Rule___init__) (sc := (defScope s_Rule___init__)) (by decide +kernel)) (fun _ _ _ _ _ => (R.pg_tup K (n := 2) (pgs_cons (pg_name (i := 7) sc_Rule___init__.nd rfl (by first | exact Or.inl rfl | exact Or.inr rfl)) (pgs_cons (pg_name (i := 8) sc_Rule___init__.nd rfl (by first | exact Or.inl rfl | exact Or.inr rfl)) pgs_nil)))) (fun _ _ _ _ _ => pts_nil) (fun _ _ _ _ _ => (pv 8)) (fun _ _ _ _ _ => (pv 7))) rfl))
      (pss_cons (ps_set (i := 3) sc_Rule___init__.nd rfl (Or.inl rfl) (pe_lst pa_nil))
      (pss_cons (ps_for PassesOwn.never rfl (R.pi_enumQ K rfl T.f_enumerate (pa_cons (pv 2) pa_nil)) (R.pg_tup K (n := 2) (pgs_cons (pg_name (i := 4) sc_Rule___init__.nd rfl (by first | exact Or.inl rfl | exact Or.inr rfl)) (pgs_cons (pg_name (i := 5) sc_Rule___init__.nd rfl (by first | exact Or.inl rfl | exact Or.inr rfl)) pgs_nil))) (pss_cons (ps_if (pt_not (pt_val (C8.pe_mt m_Rule_is_triple hr (by first | decide | exact Nat.le_refl _ | omega) (pv 0) (pa_cons (pv 5) pa_nil)))) (pss_one ps_no) pss_nil)
        (pss_one (ps_expr (pe_bm PySem.F.plainAttrs_list PySem.F.slot_list_append PySem.F.type_list_append mt_append (pv 3) (pa_cons (C8.pe_mt m_Rule_plain hr (by first | decide | exact Nat.le_refl _ | omega) (pv 0) (pa_cons (pv 5) pa_nil)) pa_nil))))))
      (pss_cons (ps_fldC T.cls_Rule T.na_Rule_known (pv 0) (NC.pe_of (NC.pc_d1 (own := [("triple", 5)]) (o0 := .dT []) (.inr rfl) rfl (un0 hr) sc_Rule___init__.nd (R.pi_list K (pv 3)) (blkOk_by (N := N_Rule___init__) (sc := (defScope s_Rule___init__)) (by decide +kernel)) (fun _ _ _ _ _ => (pg_name (i := 5) sc_Rule___init__.nd rfl (by first | exact Or.inl rfl | exact Or.inr rfl))) (fun _ _ _ _ _ => pts_nil) (fun _ _ _ _ _ => (pv 5)) (fun _ _ _ _ _ => pe_bl)) rfl))
      (pss_cons (ps_lockQ (NC.ps_of (i := 6) (NC.pc_l3 (own := [("top", 9), ("one", 10), ("other", 11)]) (vs1 := [10, 11]) (vs2 := [11]) rfl sc_Rule___init__.nd (pi_keys (pe_fldC T.cls_Rule T.na_Rule_ranks (pv 0))) (blkOk_by (N := N_Rule___init__) (sc := (defScope s_Rule___init__)) (by decide +kernel)) (by decide) (by decide) (fun _ _ _ _ _ => (pg_name (i := 9) sc_Rule___init__.nd rfl (by first | exact Or.inl rfl | exact Or.inr rfl))) (fun _ _ _ _ _ => pts_nil) (fun _ _ _ _ _ => (pi_keys (pe_fldC T.cls_Rule T.na_Rule_ranks (pv 0)))) (fun _ _ _ _ _ => (pg_name (i := 10) sc_Rule___init__.nd rfl (by first | exact Or.inl rfl | exact Or.inr rfl))) (fun _ _ _ _ _ => pts_nil) (fun _ _ _ _ _ => (pi_keys (pe_fldC T.cls_Rule T.na_Rule_ranks (pv 0)))) (fun _ _ _ _ _ => (pg_name (i := 11) sc_Rule___init__.nd rfl (by first | exact Or.inl rfl | exact Or.inr rfl))) (fun _ _ _ _ _ => pts_nil) (fun _ _ _ _ _ => (pe_tup (pa_cons (pv 9) (pa_cons (pv 10) (pa_cons (pv 11) pa_nil)))))) sc_Rule___init__.nd rfl rfl (NC.sw_truex rfl rfl rfl (by decide +kernel)) rfl))
      (pss_cons (ps_fldC T.cls_Rule T.na_Rule_own_triples (pv 0) (pe_lc (own := [("form", 12)]) rfl sc_Rule___init__.nd (R.pi_list K (pv 6)) (blkOk_by (N := N_Rule___init__) (sc := (defScope s_Rule___init__)) (by decide +kernel)) (fun _ _ _ _ _ => (pg_name (i := 12) sc_Rule___init__.nd rfl (by first | exact Or.inl rfl | exact Or.inr rfl))) (fun _ _ _ _ _ => (pts_one (pt_cmpR (op_dIn (un1 hr)) (pv 12) (pe_fldC T.cls_Rule T.na_Rule_known (pv 0)) (rfl)))) (fun _ _ _ _ _ => (pv 12))))
      (pss_one (ps_fldC T.cls_Rule T.na_Rule_pairs (pv 0) (pe_lockQ (NC.pe_of (NC.pc_d1 (own := [("label", 8)]) (o0 := .dK []) (.inl rfl) rfl (un0 hr) sc_Rule___init__.nd (pi_keys (pe_fldC T.cls_Rule T.na_Rule_ranks (pv 0))) (blkOk_by (N := N_Rule___init__) (sc := (defScope s_Rule___init__)) (by decide +kernel)) (fun _ _ _ _ _ => (pg_name (i := 8) sc_Rule___init__.nd rfl (by first | exact Or.inl rfl | exact Or.inr rfl))) (fun _ _ _ _ _ => pts_nil) (fun _ _ _ _ _ => (pv 8)) (fun _ _ _ _ _ => (pe_lc (own := [("triple", 5)]) rfl sc_Rule___init__.nd (R.pi_list K (pe_fldC T.cls_Rule T.na_Rule_own_triples (pv 0))) (blkOk_by (N := N_Rule___init__) (sc := (relS _ (defScope s_Rule___init__))) (by decide +kernel)) (fun _ _ _ _ _ => (pg_name (i := 5) sc_Rule___init__.nd rfl (by first | exact Or.inl rfl | exact Or.inr rfl))) (fun _ _ _ _ _ => (pts_one (pt_cmpR op_eq (pe_ix (R.ix_seq K) (pv 5) pe_int (fun _ _ => rfl)) (pv 8) (nomark _)))) (fun _ _ _ _ _ => (pe_slice (R.sl_any3 K) (pv 5) (po_some pe_int) po_none))))) rfl)))))))))))), ?_⟩
  rintro a ds R ⟨x, y, ws, ts, rfl, ey, ex, g, ht, hz, q⟩
  have yb : basic y = true ∧ isSeq y = true := by rcases ey with rfl | (rfl | rfl) | ⟨rfl, _⟩ <;> exact ⟨rfl, rfl⟩
  have lo := g.lo
  have hi := g.hi
  have e0 : putFD "own_labels" (.lst (ws.map D.str)) [] = [(("own_labels" : Str), D.lst (ws.map D.str))] := rfl
  refine run_seq (run_fld (by rfl) (by exact (show 0 < 1000 by decide)) (ev_call (eva_cons (ev_var (by rfl) (eva_nil ⟨x, ws, rfl, ex, g, ?_⟩)))))
  show NB.Run (S0 K) _ [some (.ownI a (He.ga K "Rule") [("own_labels", .lst (ws.map D.str))]), some (.dat x), some (.dat y), none, none, none, none, none, none, none, none, none, none] _
  refine run_seq (run_if ?_)
  walk_at "ev"
  refine ⟨_, rfl, yb.1, ?_⟩
  rw [yb.2]
  walk_at "ev"
  refine iteF (run_next ?_)
  have ndk : ((rkD ws).map (·.1)).Nodup := by
    have e : (rkD ws).map (·.1) = ws.map Sum.inr := by
      unfold rkD
      rw [List.map_map]
      have : ((fun x => x.1) ∘ fun p : Str × Nat => ((.inr p.1 : Key), D.int (p.2 : Nat))) = (Sum.inr : Str → Key) ∘ Prod.fst := rfl
      rw [this, ← List.map_map, List.zipIdx_map_fst]
    rw [e]
    exact List.Pairwise.map _ (fun a b h z => h (Sum.inr.inj z)) g.nd
  refine run_seq (run_fld (by rfl) (by exact (show 1 < 1000 by decide)) (ev_dcKn (ps := rkD ws) ndk ?_ ?_))
  rotate_left
  · refine evi_enum (eva_cons (ev_fldO (by rfl) rfl (eva_nil ⟨_, rfl, ?_⟩)))
    refine ⟨Str × Nat, ws.zipIdx, fun p => .tup [.int (p.2 : Nat), .str p.1], fun _ => true, fun p => (.inr p.1, .int (p.2 : Nat)), enum_strs ws 0, by rw [List.length_zipIdx]; exact szs (by omega), by unfold rkD; rw [List.filter_eq_self.mpr fun _ _ => rfl], fun p hp => ?_⟩
    walk_at "ev"
    exact ⟨rfl, fun _ => ev_var (by rfl) ⟨rfl, ev_var (by rfl) rfl⟩⟩
  show NB.Run (S0 K) _ [some (.ownI a (He.ga K "Rule") [("own_labels", .lst (ws.map D.str)), ("ranks", .dK (rkD ws))]), some (.dat x), some (.dat y), none, none, none, none, none, none, none, none, none, none] _
  have enumY : ∀ {ρ : DEnv} {Q : List D → Prop}, ρ[2]? = some (some (.dat y)) → Q (enumD 0 (ts.map t3)) → EvI (S0 K) (iEnumQ K (tCons (tVar 2) tNil)) ρ Q := fun h1 h2 => by
    rcases ey with rfl | (rfl | rfl) | ⟨rfl, rfl⟩
    · exact evi_enumQL (evi_enum (eva_cons (ev_var h1 (eva_nil ⟨_, rfl, h2⟩))))
    · exact evi_enumQT (evi_enumT (eva_cons (ev_var h1 (eva_nil ⟨_, .inl rfl, h2⟩))))
    · exact evi_enumQL (evi_enumF (eva_cons (ev_var h1 (eva_nil ⟨_, rfl, h2⟩))))
    · exact evi_enumQT (evi_enumT (eva_cons (ev_var h1 (eva_nil ⟨_, .inr rfl, h2⟩))))
  refine run_seq (run_own (eva_nil ⟨szr rfl, ?_⟩))
  refine run_seq (run_for (vs := List.range 64) (enumY (by rfl) ?_))
  have hget : ∀ (i : Nat) (y : D), (enumD 0 (ts.map t3))[i]? = some y → ∃ t, ts[i]? = some t ∧ y = .tup [.int (i : Nat), t3 t] := by
    have gen : ∀ (l : List Tr) (n i : Nat) (y : D), (enumD n (l.map t3))[i]? = some y → ∃ t, l[i]? = some t ∧ y = .tup [.int ((n + i : Nat) : Int), t3 t] := by
      intro l
      induction l with
      | nil => intro n i y h; simp [enumD] at h
      | cons t r ih =>
        intro n i y h
        rw [List.map_cons, enumD] at h
        cases i with
        | zero =>
          simp at h
          exact ⟨t, rfl, h.symm⟩
        | succ i =>
          obtain ⟨t', h1, h2⟩ := ih (n + 1) i y (by simpa using h)
          exact ⟨t', by simpa using h1, by rw [h2]; congr 3; omega⟩
    intro i y h
    obtain ⟨t, h1, h2⟩ := gen ts 0 i y h
    exact ⟨t, h1, by rw [h2]; simp⟩
  refine ⟨fun i ρ => ∃ o4 o5, ρ = [some (.ownI a (He.ga K "Rule") [("own_labels", .lst (ws.map D.str)), ("ranks", .dK (rkD ws))]), some (.dat x), some (.dat y), some (.own ((ts.take i).map fun t => t3 (plainT ws t))), o4, o5, none, none, none, none, none, none, none], ⟨none, none, rfl⟩, ?_, ?_⟩
  · rintro i y ρ1 hy ⟨o4, o5, rfl⟩
    obtain ⟨t, ht1, rfl⟩ := hget i y hy
    have hm : t ∈ ts := List.mem_of_getElem? ht1
    have hi' : i < ts.length := by
      by_cases q : i < ts.length
      · exact q
      · rw [List.getElem?_eq_none (by omega)] at ht1; cases ht1
    have hin := ht t hm
    walk_at "ev"
    refine ev_borrow (k := 0) (by rfl) rfl (ev_meth (ev_var (by rfl) ⟨_, rfl, rfl, eva_cons (ev_var (by rfl) (eva_nil ⟨_, _, ws, rfl, rfl, rfl, rfl, fun xs e => by cases e; exact szr rfl, rfl, ?_⟩))⟩))
    have e3 : isTrip ws (t3 t) = true := by
      obtain ⟨h1, h2, h3⟩ := hin
      show (_ && _) = _
      simp [t3, isIn, h1, h2, h3]
    refine ⟨_, rfl, ?_⟩
    rw [e3]
    refine iteF (run_next ?_)
    refine run_append (by rfl) (lt_size (m := 100000) (by rw [List.length_map, List.length_take]; omega)) ?_
    refine ev_borrowP (k := 0) (by rfl) rfl (ev_meth (ev_var (by rfl) ⟨_, rfl, rfl, eva_cons (ev_var (by rfl) (eva_nil ⟨_, t, ws, rfl, rfl, hin, ?_⟩))⟩))
    refine ⟨.tup (.cons (.str _) (.cons (.str _) (.cons (.str _) .nil))), ?_⟩
    refine ⟨some (.dat (.int (i : Nat))), some (.dat (t3 t)), ?_⟩
    rw [take_snoc ht1, List.map_append]
    rfl
  rintro ρ1 ⟨o4, o5, rfl⟩
  have el : (enumD 0 (ts.map t3)).length = ts.length := by rw [enumD_length, List.length_map]
  rw [el, List.take_length]
  refine run_freeze (k := 3) (by rfl) rfl ?_
  refine run_seq (run_fld (by rfl) (by exact (show 2 < 1000 by decide)) (ev_dcT (ps := (ts.map (plainT ws)).map fun t => (k3 t, .bl true)) ?_ ?_))
  rotate_left
  · refine evi_list (ev_var (by rfl) ⟨_, rfl, ?_⟩)
    refine ⟨Tr, ts.map (plainT ws), t3, fun _ => true, fun t => (k3 t, .bl true), by rw [List.map_map] <;> rfl, by rw [List.length_map]; exact szs hz, by rw [List.filter_eq_self.mpr fun _ _ => rfl], fun p hp => ?_⟩
    walk_at "ev"
    exact ⟨rfl, fun _ => ev_var (by rfl) ⟨rfl, ev_cbl rfl⟩⟩
  have hk : ∀ t, (valD (foldD [] ((ts.map (plainT ws)).map fun t => (k3 t, D.bl true))) (k3 t)).isSome = decide (t ∈ ts.map (plainT ws)) := fun t => by
    rw [fold_some]
    show (false || _) = _
    rw [Bool.false_or, List.any_map]
    exact any_k3 t _
  have nf : NoFs ((foldD [] ((ts.map (plainT ws)).map fun t => (k3 t, D.bl true))).map Prod.snd) := noFs_of fun d hd => by
    obtain ⟨q, hq, rfl⟩ := List.mem_map.mp hd
    refine foldD_all (p := NoF) (fun q hq => by cases hq) (fun q hq => ?_) q hq
    obtain ⟨t, _, rfl⟩ := List.mem_map.mp hq
    exact .bl _
  revert hk nf
  generalize foldD [] ((ts.map (plainT ws)).map fun t => (k3 t, D.bl true)) = kn
  intro hk nf
  show NB.Run (S0 K) _ [some (.ownI a (He.ga K "Rule") [("own_labels", .lst (ws.map D.str)), ("ranks", .dK (rkD ws)), ("known", .dT kn)]), some (.dat x), some (.dat y), some (.dat (.lst (ts.map fun t => t3 (plainT ws t)))), o4, o5, none, none, none, none, none, none, none] _
  -- forms
  have hkeys : ∀ {ρ : DEnv} {Q : List D → Prop}, (∃ a fs, ρ[0]? = some (some (.ownI a (He.ga K "Rule") fs)) ∧ fget fs "ranks" = some (.dF (rkD ws))) → Q (ws.map D.str) → EvI (S0 K) (iKeys (tFldC (He.ga K "Rule") (tVar 0) "ranks")) ρ Q := fun ⟨a, fs, h1, h2⟩ h => evi_keys (ev_fldO h1 h2 ⟨_, rfl, by rw [keys_rk]; exact h⟩)
  refine run_seq (run_lockSet (i := 0) (by rfl) (Lk.own (j := 1) (f := "ranks") (kvs := rkD ws) rfl) (ev_compL (ys := (cube ws).map t3) (by rw [List.length_map]; exact szs (Nat.le_trans (cube_len hi) (by decide))) ?_ (hkeys ⟨_, _, rfl, rfl⟩ ?_)))
  rotate_left
  · refine ⟨Str, ws, D.str, fun a => (ws.flatMap fun b => ws.flatMap fun c => [(a, b, c)]).map t3, rfl, fun a ha => evg_name (by decide) (evt_yes ?_), by unfold cube; rw [map_flat]⟩
    rw [if_pos rfl]
    refine tll_clause (hkeys ⟨_, _, rfl, rfl⟩ ⟨Str, ws, D.str, fun b => (ws.flatMap fun c => [(a, b, c)]).map t3, rfl, fun b hb => evg_name (by decide) (evt_yes ?_), map_flat _ _ _⟩)
    rw [if_pos rfl]
    refine tll_clause (hkeys ⟨_, _, rfl, rfl⟩ ⟨Str, ws, D.str, fun c => [t3 (a, b, c)], rfl, fun c hc => evg_name (by decide) (evt_yes ?_), map_flat _ _ _⟩)
    rw [if_pos rfl]
    refine tll_leaf ?_
    walk_at "ev"
    rfl
  refine ⟨.lst (noFs_of fun d hd => ?_), ?_⟩
  · obtain ⟨t, _, rfl⟩ := List.mem_map.mp hd
    exact .tup (.cons (.str _) (.cons (.str _) (.cons (.str _) .nil)))
  -- own_triples
  refine run_seq (run_fld (by rfl) (by exact (show 3 < 1000 by decide)) (ev_lcG (evi_list (ev_var (by rfl) ⟨_, rfl, lc_filter (l := cube ws) t3 (fun t => decide (t ∈ ts.map (plainT ws))) t3 (szs (Nat.le_trans (cube_len hi) (by decide))) (fun t ht => evg_name (by decide) ?_) ?_⟩))))
  · refine evt_test (ev_op (ev_var (by rfl) (ev_fldO (by rfl) rfl (rvr_dIn (.t (ks := k3 t) rfl) ⟨_, rfl, ?_⟩))))
    rw [if_neg Bool.false_ne_true, hk]
    exact ⟨rfl, fun _ => ev_var (by rfl) rfl⟩
  -- pairs
  have osl : ((cube ws).filter fun t => decide (t ∈ ts.map (plainT ws))).length ≤ sizeLine := Nat.le_trans (List.length_filter_le _ _) (szs (Nat.le_trans (cube_len hi) (by decide)))
  have q2 := q kn hk nf
  revert q2 osl
  generalize (cube ws).filter (fun t => decide (t ∈ ts.map (plainT ws))) = os
  intro osl q2
  have ndp : ((prD ws os).map (·.1)).Nodup := by
    have e : (prD ws os).map (·.1) = ws.map Sum.inr := by
      unfold prD
      rw [List.map_map]
      rfl
    rw [e]
    exact List.Pairwise.map _ (fun a b h z => h (Sum.inr.inj z)) g.nd
  have sl : ∀ t : Tr, cutD [D.str t.1, .str t.2.1, .str t.2.2] (some 1) none = [.str t.2.1, .str t.2.2] := fun t => rfl
  refine run_fld (by rfl) (by exact (show 4 < 1000 by decide)) (ev_lock (i := 0) (by rfl) (Lk.own (j := 1) (f := "ranks") (kvs := rkD ws) rfl) (ev_dcKn (ps := prD ws os) ndp ⟨.dK (noFs_of fun d hd => ?_), ?_⟩ (hkeys ⟨_, _, rfl, rfl⟩ ⟨Str, ws, D.str, fun _ => true, fun a => (.inr a, .lst ((pairsOf os a).map p2)), rfl, szs (by omega), by unfold prD; rw [List.filter_eq_self.mpr fun _ _ => rfl], fun a ha => evg_name (by decide) (evt_yes ⟨rfl, fun _ => ev_var (by rfl) ⟨rfl, ?_⟩⟩)⟩)))
  · unfold prD at hd
    rw [List.map_map] at hd
    obtain ⟨a, _, rfl⟩ := List.mem_map.mp hd
    refine .lst (noFs_of fun d hd => ?_)
    obtain ⟨t, _, rfl⟩ := List.mem_map.mp hd
    exact .tup (.cons (.str _) (.cons (.str _) .nil))
  · exact ⟨_, rfl, q2⟩
  · refine ev_lcG (evi_list (ev_fldO (by rfl) rfl ⟨_, rfl, lc_filter (l := os) t3 (fun t => decide (t.1 = a)) (fun t => p2 (t.2.1, t.2.2)) osl (fun t ht => evg_name (by decide) ?_) ?_⟩))
    · refine evt_test (ev_op (ev_op (ev_var (by rfl) (ev_cint (rvr_ixq_t (d := .str t.1) rfl ?_)))))
      walk_at "ev"
      refine ⟨rfl, fun _ => ?_⟩
      walk_at "ev"
      refine rvs_any_t ?_
      rw [sl t]
      rfl
    · unfold pairsOf
      refine congrArg D.lst ?_
      rw [List.map_map]
      rfl
theorem mk_RuleG (T : Hd K mg) {dvs : List V} (hb : ∀ fd, FunD K "__init__" "Rule.__init__" (defArgs s_Rule___init__) (defBody s_Rule___init__) (defScope s_Rule___init__) [.ref (He.dflAt ("Rule", some "__init__") 0 K)] [] (He.ma K (He.ga K "Rule") "__init__") fd → ∃ ds, Vals dvs ds ∧ Binds K fd P_Rule___init__ ds) : C8.Mak P w K mg base 4 "Rule" (He.ga K "Rule") (spI K (He.ga K "Rule") FI_rule) dvs := (mg_Rule T (Φ := fun fd => ∃ ds, Vals dvs ds ∧ Binds K fd P_Rule___init__ ds) hb).mak
theorem mkK_Rule_01 (T : Hd K mg) : MakG P w K mg base 4 "Rule" (He.ga K "Rule") P_Rule___init__ (spI K (He.ga K "Rule") FI_rule) (KwP K P_Rule___init__ 1 ["labels", "triples"] [0, 1]) := mg_Rule T fun fd F => kwp_ofD F (by simp) fun TT kV doc pm an cdv ct us ws its h1 h2 h3 => match us, h1, ws, h2, its, h3 with | [_], _, [_, _], _, [_], _ => ⟨_, rfl, rfl⟩
theorem mk_Rule (T : Hd K mg) : C8.Mak P w K mg base 4 "Rule" (He.ga K "Rule") (spI K (He.ga K "Rule") FI_rule) [] := mk_RuleG T fun fd F => by
  obtain ⟨ds, v, b⟩ := F.binds1 3 1 (ps := P_Rule___init__) (by simp) rfl fun TT kV doc pm an cdv ct us its hl h2 => by
    match us, hl, its, h2 with
    | [_, _, _], _, [_], _ => exact ⟨_, rfl, rfl⟩
  cases v
  exact ⟨[], .nil, b⟩

/-! ### Rule(labels) alone -/
theorem mk_Rule_1 (T : Hd K mg) : C8.Mak P w K mg base 4 "Rule" (He.ga K "Rule") (spI K (He.ga K "Rule") FI_rule) [.ref (He.dflAt ("Rule", some "__init__") 0 K)] := mk_RuleG T fun fd F => by
  obtain ⟨ds, v, b⟩ := F.binds1 2 0 (ps := P_Rule___init__) (by simp) rfl fun TT kV doc pm an cdv ct us its hl h2 => by
    match us, hl, its, h2 with
    | [_, _], _, [_], _ => exact ⟨_, rfl, rfl⟩
  exact ⟨ds, v, b⟩
theorem nil_dflt (T : Hd K mg) (H : Hp) : Iss K H [.ref (He.dflAt ("Rule", some "__init__") 0 K)] [.ktup []] := .cons (T.nil_Rule_0 H) .nil

/-! ### _law_pick: a number below many; the tape stays a tape -/
theorem rix_l {H : Hp} {a : Addr} {xs : List V} {i : Int} {v : V} {Q : VK} (h : H a = some (.lst xs)) (hv : atI xs i = some v) (q : Q v H) : rIx K (.ref a) (.int i) H Q := .inl ⟨a, xs, i, v, rfl, rfl, .inl (.inl h), hv, q⟩
theorem radd_i {H : Hp} {i j : Int} {Q : VK} (q : Q (.int (i + j)) H) : rAddX K (.int i) (.int j) H Q := .inl ⟨i, j, rfl, rfl, q⟩
theorem rmul_i {H : Hp} {i j : Int} {Q : VK} (c : CMul i j) (q : Q (.int (i * j)) H) : rMulX (.int i) (.int j) H Q := .inl ⟨i, j, rfl, rfl, c, q⟩
theorem rlen_l {H : Hp} {a : Addr} {xs : List V} {Q : VK} (h : H a = some (.lst xs)) (q : Q (.int xs.length) H) : rLenA K [.ref a] H Q := .inl ⟨a, xs, rfl, .inl (.inl (.inl h)), q⟩
def F_pick (pc : Addr × Addr) : Fn := ⟨fun ds Q => ∃ m : Int, ds = [.loc pc.1, .int m] ∧ 0 < m ∧ m.natAbs < 2 ^ 8000 ∧ ∀ k : Int, 0 ≤ k → k < m → Q (.int k), fun _ _ _ h ⟨m, e, b, z, q⟩ => ⟨m, e, b, z, fun k h0 h1 => h _ (q k h0 h1)⟩⟩
/-- what the tape's own cells hold -/
structure Tape (p c : Addr) (cells : List Int) (i r s : Int) (H : Hp) : Prop where
  p : H p = some (.lst [.ref c, .int i, .int r, .int s])
  c : H c = some (.lst (cells.map V.int))
  i0 : 0 ≤ i
  r0 : 0 ≤ r
  s0 : 0 ≤ s
  s1 : s < 2147483563
theorem Tape.ne {p c : Addr} {cells : List Int} {i r s : Int} {H : Hp} (t : Tape p c cells i r s H) : c ≠ p := fun e => by
  have h1 := t.p
  have h2 := t.c
  rw [e, h1] at h2
  cases cells with
  | nil => cases h2
  | cons x xs =>
    have h3 := Option.some.inj h2
    injection h3 with h4
    rw [List.map_cons] at h4
    injection h4 with h5 h6
    cases h5
theorem Tape.put {p c : Addr} {cells : List Int} {i r s i' r' s' : Int} {H : Hp} (t : Tape p c cells i r s H) (h1 : 0 ≤ i') (h2 : 0 ≤ r') (h3 : 0 ≤ s') (h4 : s' < 2147483563) : Tape p c cells i' r' s' (upd H p (.lst [.ref c, .int i', .int r', .int s'])) :=
  ⟨upd_same, by rw [upd_ne t.ne]; exact t.c, h1, h2, h3, h4⟩
theorem Tape.at_ {p c : Addr} {cells : List Int} {i r s : Int} {H : Hp} (t : Tape p c cells i r s H) : TapeAt p c H := ⟨⟨cells, i, r, s, t.p, t.c, t.i0, t.r0, t.s0, t.s1⟩⟩
theorem le_put {p c : Addr} {H H' : Hp} {o : HO} (l : Le [p, c] H H') : Le [p, c] H (upd H' p o) := fun a u n e => by
  rw [upd_ne fun z => n (by rw [z]; simp)]
  exact l a u n e
theorem set_l {H : Hp} {a : Addr} {xs : List V} {i : Int} {j : Nat} {v : V} {Q : Hp → Prop} (h : H a = some (.lst xs)) (hj : ixN xs.length i = some j) (q : Q (upd H a (.lst (xs.set j v)))) : rSetL (.ref a) (.int i) v H Q := ⟨a, xs, i, j, rfl, rfl, h, hj, q⟩
theorem cmul_r {i j : Int} (h : -(2 ^ 64) < j) (h' : j < 2 ^ 64) : CMul i j := .inr ⟨h, h'⟩
theorem h__law_pick (T : Hd K mg) : Has P w K mg base "_law_pick" 1 P__law_pick (spT (ST K) F_pick) := by
  refine has_of T.d__law_pick T.g__law_pick sc__law_pick (fun _ _ _ _ _ _ us hl => match us, hl with | [_, _], _ => rfl) (fun vs H Q E ⟨pc, O, ds, _, _, _, i, m, e, _⟩ => by rw [i.length, e]; rfl) fun f cdv A outer s0 H vs Q E hr h => ?_
  refine ⟨_, (C8.pss_cut (ps_if (PW.pt (pw_and (pt_cmpR op_eq (pe_ix (R.ix_seq K) (pv 0) pe_int (fun _ _ => rfl)) pe_int (nomark _)) (pw_and1 (pt_cmpR op_lt (pe_ix (R.ix_seq K) (pv 0) pe_int (fun _ _ => rfl)) (pe_callB (R.cr_len K) rfl T.f_len (by decide +kernel) (pa_cons (pe_ix (R.ix_seq K) (pv 0) pe_int (fun _ _ => rfl)) pa_nil)) (nomark _))))) (pss_cons (ps_set (i := 2) sc__law_pick.nd rfl (Or.inl rfl) (pe_ix (R.ix_seq K) (pe_ix (R.ix_seq K) (pv 0) pe_int (fun _ _ => rfl)) (pe_ix (R.ix_seq K) (pv 0) pe_int (fun _ _ => rfl)) (fun _ _ => rfl)))
        (pss_cons (ps_asg (pe_op (R.op_addX K) (pe_ix (R.ix_seq K) (pv 0) pe_int (fun _ _ => rfl)) pe_int) (pg_sub (pv 0) pe_int set_list))
        (pss_one (ps_if (pt_cmpR op_ge (pv 2) (pe_op op_pow pe_int pe_int) (nomark _)) (pss_one (ps_asg (pv 2) (pg_sub (pv 0) pe_int set_list))) (pss_one (ps_asg (pe_op op_mod (pe_callTy cr_int rfl T.f_int (by decide +kernel) (pa_cons (pe_op (R.op_addX K) (pe_op (R.op_addX K) (pe_op op_mulX (pe_ix (R.ix_seq K) (pv 0) pe_int (fun _ _ => rfl)) pe_int) (pe_op op_mulX (pe_op op_mod (pe_callTy cr_int rfl T.f_int (by decide +kernel) (pa_cons (pv 2) pa_nil)) pe_int) pe_int)) pe_int) pa_nil)) pe_int) (pg_sub (pv 0) pe_int set_list))))))) pss_nil)
      (pss_cons (ps_if (pt_cmpR op_gt (pe_ix (R.ix_seq K) (pv 0) pe_int (fun _ _ => rfl)) pe_int (nomark _)) (pss_cons (ps_set (i := 3) sc__law_pick.nd rfl (Or.inl rfl) (pe_op op_mod (pe_callTy cr_int rfl T.f_int (by decide +kernel) (pa_cons (pe_ix (R.ix_seq K) (pv 0) pe_int (fun _ _ => rfl)) pa_nil)) (pv 1)))
        (pss_cons (ps_asg (pe_op op_fdivW (pe_ix (R.ix_seq K) (pv 0) pe_int (fun _ _ => rfl)) (pv 1)) (pg_sub (pv 0) pe_int set_list))
        (pss_one (ps_ret (pv 3))))) pss_nil)
      (pss_cons (ps_set (i := 4) sc__law_pick.nd rfl (Or.inl rfl) (pe_op op_mod (pe_callTy cr_int rfl T.f_int (by decide +kernel) (pa_cons (pe_op op_mulX (pe_ix (R.ix_seq K) (pv 0) pe_int (fun _ _ => rfl)) (pe_ix (R.ix_seq K) (pv 0) pe_int (fun _ _ => rfl))) pa_nil)) pe_int))
      (pss_cons (ps_asg (pe_op op_mod (pe_callTy cr_int rfl T.f_int (by decide +kernel) (pa_cons (pe_op (R.op_addX K) (pe_op (R.op_addX K) (pe_op op_mulX (pv 4) pe_int) (pe_op op_mulX (pe_ix (R.ix_seq K) (pv 0) pe_int (fun _ _ => rfl)) pe_int)) pe_int) pa_nil)) pe_int) (pg_sub (pv 0) pe_int set_list))
      (pss_one (ps_ret (pe_op op_mod (pe_callTy cr_int rfl T.f_int (by decide +kernel) (pa_cons (pe_op (R.op_addX K) (pe_op op_fdivW (pe_ix (R.ix_seq K) (pv 0) pe_int (fun _ _ => rfl)) pe_int) (pe_op op_mulX (pe_op op_mod (pe_callTy cr_int rfl T.f_int (by decide +kernel) (pa_cons (pe_ix (R.ix_seq K) (pv 0) pe_int (fun _ _ => rfl)) pa_nil)) pe_int) pe_int)) pa_nil)) (pv 1)))))))), ?_⟩
  obtain ⟨⟨p, c⟩, O, ds, ⟨cells, i, r, s, hp, hc, i0, r0, s1, s2⟩, sub, live, is, m, rfl, m0, m1, q⟩ := h
  obtain ⟨v1, v2, rfl, is1, is2⟩ := iss2 is
  obtain rfl := is_loc is1
  obtain rfl := is_int is2
  have T0 : Tape p c cells i r s H := ⟨hp, hc, i0, r0, s1, s2⟩
  -- the end: a digit of the rest, or one of the seed
  have fin : ∀ (k : Int) (i' r' s' : Int) (H' : Hp), Tape p c cells i' r' s' H' → Le [p, c] H H' → 0 ≤ k → k < m → Q (.int k) H' := fun k i' r' s' H' t l h0 h1 => q k h0 h1 _ H' l t.at_ (.int k)
  refine ⟨fun σ' H' => ∃ o i r s, σ' = [some (.ref p), some (.int m), o, none, none] ∧ Tape p c cells i r s H' ∧ Le [p, c] H H', ?first, ?rest⟩
  case first =>
    have none0 : ∃ o i' r' s', L2.start N__law_pick [V.ref p, V.int m] = [some (.ref p), some (.int m), o, none, none] ∧ Tape p c cells i' r' s' H ∧ Le [p, c] H H := ⟨none, i, r, s, rfl, T0, Le.refl _ _⟩
    -- tape[2] == 0
    refine ⟨_, rfl, rix_l T0.p rfl ⟨rfl, ?_⟩⟩
    refine ⟨_, rfl, ?_⟩
    by_cases hr0 : r = 0
    · have e : decide (V.int r = V.int 0) = true := by rw [hr0]; rfl
      rw [e]
      refine iteT ?_
      -- tape[1] < len(tape[0])
      refine ⟨_, rfl, rix_l T0.p rfl ⟨_, rfl, rix_l T0.p rfl (rlen_l T0.c ⟨_, _, rfl, rfl, ?_⟩)⟩⟩
      refine ⟨_, rfl, ?_⟩
      by_cases hl : i < ((cells.map V.int).length : Int)
      · rw [decide_eq_true hl]
        refine iteT ?_
        -- cell = tape[0][tape[1]]
        obtain ⟨j, ej⟩ : ∃ j : Nat, i = (j : Int) := ⟨i.toNat, by omega⟩
        have hj : j < cells.length := by rw [List.length_map] at hl; omega
        have hv : (cells.map V.int)[j]? = some (.int cells[j]) := by rw [List.getElem?_map, List.getElem?_eq_getElem hj] <;> rfl
        refine ⟨_, rfl, rix_l T0.p rfl ⟨_, rfl, rix_l T0.p rfl (rix_l T0.c (atI_of ej hv) ?_)⟩⟩
        -- tape[1] = tape[1] + 1
        refine ⟨_, rfl, rix_l T0.p rfl (radd_i ⟨_, rfl, set_l T0.p rfl ?_⟩)⟩
        have T1 : Tape p c cells (i + 1) r s (upd H p (.lst [.ref c, .int (i + 1), .int r, .int s])) := T0.put (by omega) r0 s1 s2
        have L1 : Le [p, c] H (upd H p (.lst [.ref c, .int (i + 1), .int r, .int s])) := le_put (Le.refl _ _)
        -- cell >= 10 ** 18
        refine ⟨_, rfl, _, _, rfl, rfl, ⟨by decide, by decide, by decide⟩, _, _, rfl, rfl, _, rfl, ?_⟩
        refine iteB (fun hc => ?_) fun hc => ?_
        · refine ⟨_, rfl, _, rfl, set_l T1.p rfl ?_⟩
          have hge : (10 : Int) ^ (18 : Int).toNat ≤ cells[j] := of_decide_eq_true hc
          have hpos : (0 : Int) ≤ cells[j] := Int.le_trans (by decide) hge
          exact ⟨_, _, _, _, rfl, T1.put (by omega) hpos s1 s2, le_put L1⟩
        · refine ⟨_, rfl, rix_l T1.p rfl (rmul_i (cmul_r (by decide) (by decide)) ⟨_, rfl, .inl ⟨_, rfl, _, _, rfl, rfl, (by decide : (0 : Int) < 2147483579), rmul_i (cmul_r (by decide) (by decide)) (radd_i (radd_i (.inl ⟨_, rfl, _, _, rfl, rfl, (by decide : (0 : Int) < 2147483563), _, rfl, set_l T1.p rfl ?_⟩)))⟩⟩)⟩
          exact ⟨_, _, _, _, rfl, T1.put (by omega) r0 (Int.emod_nonneg _ (by decide)) (Int.emod_lt_of_pos _ (by decide)), le_put L1⟩
      · rw [decide_eq_false hl]
        exact iteF none0
    · have e : decide (V.int r = V.int 0) = false := decide_eq_false fun z => hr0 (V.int.inj z)
      rw [e]
      exact iteF (iteF none0)
  case rest =>
    clear hp hc i0 r0 s1 s2 T0 is is1 is2
    rintro σ' H1 ⟨o, i, r, s, rfl, T1, L1⟩
    -- tape[2] > 0
    refine ⟨_, rfl, rix_l T1.p rfl ⟨_, _, rfl, rfl, ?_⟩⟩
    refine ⟨_, rfl, ?_⟩
    refine iteB (fun h => ?_) fun h => ?_
    · have hr1 : 0 < r := of_decide_eq_true h
      refine ⟨_, rfl, rix_l T1.p rfl (.inl ⟨_, rfl, _, rfl, _, _, rfl, rfl, m0, ?_⟩)⟩
      refine ⟨_, rfl, rix_l T1.p rfl ⟨_, rfl, _, _, rfl, rfl, wide_div m0 m1 (by decide) (by decide), _, rfl, set_l T1.p rfl ⟨_, rfl, ?_⟩⟩⟩
      exact fin _ _ _ _ _ (T1.put T1.i0 (Int.ediv_nonneg T1.r0 (Int.le_of_lt m0)) T1.s0 T1.s1) (le_put L1) (Int.emod_nonneg _ (by omega)) (Int.emod_lt_of_pos _ m0)
    · have b0 := T1.s0
      have b1 := T1.s1
      refine ⟨_, rfl, rix_l T1.p rfl ⟨_, rfl, rix_l T1.p rfl (rmul_i (cmul_r (by omega) (by omega)) (.inl ⟨_, rfl, _, _, rfl, rfl, (by decide : (0 : Int) < 2147483563), ?_⟩))⟩⟩
      refine ⟨_, rfl, rmul_i (cmul_r (by decide) (by decide)) ⟨_, rfl, rix_l T1.p rfl (rmul_i (cmul_r (by decide) (by decide)) (radd_i (radd_i (.inl ⟨_, rfl, _, _, rfl, rfl, (by decide : (0 : Int) < 2147483563), _, rfl, set_l T1.p rfl ?_⟩))))⟩⟩
      have T2 := T1.put (i' := i) (r' := r) (s' := (s * s % 2147483563 * 27077 + s * 19391 + 50021) % 2147483563) T1.i0 T1.r0 (Int.emod_nonneg _ (by decide)) (Int.emod_lt_of_pos _ (by decide))
      refine ⟨_, rfl, rix_l T2.p rfl ⟨_, _, rfl, rfl, ⟨by decide, by decide⟩, _, rfl, rix_l T2.p rfl (.inl ⟨_, rfl, _, _, rfl, rfl, (by decide : (0 : Int) < 7793), rmul_i (cmul_r (by decide) (by decide)) (radd_i (.inl ⟨_, rfl, _, rfl, _, _, rfl, rfl, m0, ?_⟩))⟩)⟩⟩
      exact fin _ _ _ _ _ T2 (le_put L1) (Int.emod_nonneg _ (by omega)) (Int.emod_lt_of_pos _ m0)

/-! ### _law_of: an item, a sign -/
def itemsOf (x : D) : Option (List D) := match x with
  | .lst xs => some xs
  | .tup xs => some xs
  | .str z => some (signsD z)
  | _ => none
def F_of (pc : Addr × Addr) : Fn := ⟨fun ds Q => ∃ x xs, ds = [.loc pc.1, x] ∧ itemsOf x = some xs ∧ 0 < xs.length ∧ xs.length ≤ 100000 ∧ ∀ y ∈ xs, Q y, fun _ _ _ h ⟨x, xs, e, b, z, z2, q⟩ => ⟨x, xs, e, b, z, z2, fun y hy => h _ (q y hy)⟩⟩
theorem abs_small {n : Nat} (h : n ≤ 100000) : ((n : Int)).natAbs < 2 ^ 8000 := by
  have h1 : ((n : Int)).natAbs = n := by omega
  rw [h1]
  refine Nat.lt_of_le_of_lt h (Nat.lt_of_lt_of_le (by decide : 100000 < 2 ^ 20) ?_)
  exact Nat.pow_le_pow_right (by decide) (by decide)
theorem size_of_small {n : Nat} (h : n ≤ 100000) : n ≤ sizeLine := Nat.le_trans h (by rw [sizeLine_eq]; decide)
theorem get_int {α : Type} {xs : List α} {k : Int} (h0 : 0 ≤ k) (h1 : k < (xs.length : Int)) : ∃ x, x ∈ xs ∧ atI xs k = some x := by
  obtain ⟨j, ej⟩ : ∃ j : Nat, k = (j : Int) := ⟨k.toNat, by omega⟩
  have hj : j < xs.length := by omega
  exact ⟨xs[j], List.getElem_mem hj, atI_of ej (List.getElem?_eq_getElem hj)⟩
theorem h__law_of (T : Hd K mg) : Has P w K mg base "_law_of" 2 P__law_of (spT (ST K) F_of) := by
  have h__law_pick : Has P w K mg base "_law_pick" 1 P__law_pick (spT (ST K) F_pick) := h__law_pick T
  refine has_ofT T.d__law_of T.g__law_of sc__law_of (fun _ _ _ _ _ _ us hl => match us, hl with | [_, _], _ => rfl) (fun p ds R ⟨x, xs, e, _⟩ => by rw [e]; rfl) fun f cdv A outer s H E hr => ?_
  refine ⟨_, (pss_one (ps_ret (pe_ix (R.ix_seq K) (pv 1) (pe_has h__law_pick hr (pa_cons (pv 0) (pa_cons (pe_callB (R.cr_len K) rfl T.f_len (by decide +kernel) (pa_cons (pv 1) pa_nil)) pa_nil))) (fun _ _ => rfl)))), ?_⟩
  rintro ⟨p, c⟩ ds R ⟨x, xs, rfl, hx, h0, h1, q⟩
  cases x with
  | lst ys =>
    cases hx
    walk_at "ev"
    refine ⟨_, rfl, by omega, abs_small h1, fun k k0 k1 => ?_⟩
    obtain ⟨y, hy, ha⟩ := get_int k0 k1
    exact rvr_ixq_l ha (q y hy)
  | tup ys =>
    cases hx
    walk_at "ev"
    refine ⟨_, rfl, by omega, abs_small h1, fun k k0 k1 => ?_⟩
    obtain ⟨y, hy, ha⟩ := get_int k0 k1
    exact rvr_ixq_t ha (q y hy)
  | str z =>
    cases hx
    have hl : (signsD z).length = z.length := by simp [signsD, Str.length]
    rw [hl] at h0 h1
    walk_at "ev"
    refine rvc_lenS (size_of_small h1) ?_
    walk_at "ev"
    refine ⟨_, rfl, by omega, abs_small h1, fun k k0 k1 => ?_⟩
    have k1' : k < (z.cps.toList.length : Int) := by simpa [Str.length] using k1
    obtain ⟨y, hy, ha⟩ := get_int k0 k1'
    exact rvr_ixq_s (size_of_small h1) ha (q _ (List.mem_map.mpr ⟨y, hy, rfl⟩))
  | _ => cases hx

/-! ### _law_tape: what is made of the script -/
theorem h__law_tape (T : Hd K mg) : Has P w K mg base "_law_tape" 1 P__law_tape (spTape K) := by
  refine has_of T.d__law_tape T.g__law_tape sc__law_tape (fun _ _ _ _ _ _ us hl => match us, hl with | [_], _ => rfl) (fun vs H Q E ⟨a, ns, e, _⟩ => by rw [e]; rfl) fun f cdv A outer s0 H vs Q E hr h => ?_
  refine ⟨_, (pss_one (ps_ret (pe_lst (pa_cons (pe_callTy (R.cr_list K) rfl T.f_list (by decide +kernel) (pa_cons (pe_slice (R.sl_any K) (pv 0) po_none (po_some pe_int)) pa_nil)) (pa_cons pe_int (pa_cons pe_int (pa_cons (pe_op (R.op_addX K) pe_int (pe_op op_mulX pe_int (pe_callB (R.cr_len K) rfl T.f_len (by decide +kernel) (pa_cons (pe_slice (R.sl_any K) (pv 0) po_none (po_some pe_int)) pa_nil)))) pa_nil))))))), ?_⟩
  obtain ⟨a, ns, rfl, hS, q⟩ := h
  have hc : ∃ k, cutV (ns.map V.int) none (some 63) = (ns.take k).map V.int ∧ (ns.take k).length ≤ 63 := by
    refine ⟨min 63 ns.length, ?_, ?_⟩
    · unfold cutV
      rw [sIx_none, sIx_nat (by decide), List.drop_zero, Nat.sub_zero, List.length_map, List.map_take] <;> rfl
    · rw [List.length_take]
      omega
  obtain ⟨k, ek, hk⟩ := hc
  refine ⟨_, rfl, 63, rfl, .inl ⟨a, _, rfl, hS, fun p1 n1 => ⟨p1, _, rfl, .inl (.inl (.inl upd_same)), fun c nc => ?_⟩⟩⟩
  have s1 : Same H (upd H p1 (.lst (cutV (ns.map V.int) none (some 63)))) := NB.Same.upd n1
  have s2 : Same H (upd (upd H p1 (.lst (cutV (ns.map V.int) none (some 63)))) c (.lst (cutV (ns.map V.int) none (some 63)))) := s1.trans (NB.Same.upd nc)
  refine ⟨_, rfl, 63, rfl, .inl ⟨a, _, rfl, s2.seq hS, fun p2 n2 => .inl ⟨p2, _, rfl, .inl (.inl (.inl upd_same)), rmul_i (.inl ⟨by decide, by decide⟩) (radd_i ⟨szr rfl, fun p np => ?_⟩)⟩⟩⟩
  have s3 := s2.trans (NB.Same.upd (o := .lst (cutV (ns.map V.int) none (some 63))) n2)
  refine q p c _ (s3.trans (NB.Same.upd np)) ⟨⟨ns.take k, 0, 0, _, upd_same, ?_, by decide, by decide, ?_, ?_⟩⟩
  · rw [upd_ne (ne_of_none (by rw [upd_ne (ne_of_none upd_same n2)]; exact upd_same) np), upd_ne (ne_of_none upd_same n2), upd_same, ek]
  · rw [ek, List.length_map]
    omega
  · rw [ek, List.length_map]
    omega

/-! ### _law_same, of what is the same -/
mutual
def okD : D → Bool
  | .non => true
  | .bl _ => true
  | .int _ => true
  | .str _ => true
  | .tup xs => decide (xs.length ≤ 100000) && okDs xs
  | .lst xs => decide (xs.length ≤ 100000) && okDs xs
  | _ => false
def okDs : List D → Bool
  | [] => true
  | x :: xs => okD x && okDs xs
end
mutual
def depD : D → Nat
  | .tup xs => depDs xs + 1
  | .lst xs => depDs xs + 1
  | _ => 1
def depDs : List D → Nat
  | [] => 0
  | x :: xs => max (depD x) (depDs xs)
end
theorem okDs_mem : ∀ {xs : List D}, okDs xs = true → ∀ x ∈ xs, okD x = true
  | [], _, _, h => by cases h
  | y :: ys, h, x, m => by
    rw [okDs, Bool.and_eq_true] at h
    rcases List.mem_cons.mp m with rfl | m
    · exact h.1
    · exact okDs_mem h.2 x m
theorem depDs_mem : ∀ {xs : List D} {x : D}, x ∈ xs → depD x ≤ depDs xs
  | [], _, h => by cases h
  | y :: ys, x, m => by
    rw [depDs]
    rcases List.mem_cons.mp m with rfl | m
    · exact Nat.le_max_left _ _
    · exact Nat.le_trans (depDs_mem m) (Nat.le_max_right _ _)
theorem depD_pos (d : D) : 1 ≤ depD d := by cases d <;> simp [depD]
theorem okDs_of : ∀ {xs : List D}, (∀ x ∈ xs, okD x = true) → okDs xs = true
  | [], _ => rfl
  | y :: ys, h => by
    rw [okDs, h y List.mem_cons_self, okDs_of fun x m => h x (List.mem_cons_of_mem _ m)]
    rfl
theorem depDs_of {n : Nat} : ∀ {xs : List D}, (∀ x ∈ xs, depD x ≤ n) → depDs xs ≤ n
  | [], _ => Nat.zero_le _
  | y :: ys, h => by
    rw [depDs]
    exact Nat.max_le.mpr ⟨h y List.mem_cons_self, depDs_of fun x m => h x (List.mem_cons_of_mem _ m)⟩
def F_same (n : Nat) : Fn := ⟨fun ds Q => ∃ d, ds = [d, d] ∧ okD d = true ∧ depD d ≤ n ∧ Q (.bl true), fun _ _ _ h ⟨d, e, b, z, q⟩ => ⟨d, e, b, z, h _ q⟩⟩
theorem zip_self (xs : List D) : zipD xs xs = xs.map fun x => .tup [x, x] := by
  unfold zipD
  induction xs with
  | nil => rfl
  | cons x xs ih => rw [List.zip_cons_cons, List.map_cons, List.map_cons, ih]
theorem h__law_same (T : Hd K mg) : ∀ n : Nat, Has P w K mg base "_law_same" n P__law_same (spF (S0 K) (F_same n))
  | 0 => has_never T.d__law_same T.g__law_same (fun _ _ _ _ _ _ us hl => match us, hl with | [_, _], _ => rfl) (fun vs H Q E ⟨O, ds, _, _, _, _, d, _, _, z, _⟩ => absurd (depD_pos d) (by omega))
  | n + 1 => by
    have h__law_same : Has P w K mg base "_law_same" n P__law_same (spF (S0 K) (F_same n)) := h__law_same T n
    refine has_ofD T.d__law_same T.g__law_same sc__law_same (fun _ _ _ _ _ _ us hl => match us, hl with | [_, _], _ => rfl) (fun ds R ⟨d, e, _⟩ => by rw [e]; rfl) fun f cdv A outer s H E hr => ?_
    refine ⟨_, (pss_cons (ps_if (PW.pt (pw_or (pt_cmpR op_isN0 (pv 1) pe_non (nomark _)) (pw_or1 (pt_cmpR op_isN0 (pv 0) pe_non (nomark _))))) (pss_one (ps_ret (pe_and (pe_cmpR op_isN0 (pv 1) pe_non (nomark _)) (pe_one (pe_cmpR op_isN0 (pv 0) pe_non (nomark _)))))) pss_nil)
      (pss_cons (ps_if (PW.pt (pw_or (pt_val (pe_callB (R.call_isi K) rfl T.f_isinstance (by decide +kernel) (pa_cons (pv 1) (pa_cons (pe_bltn (v := .ty "list") (u := .type "list") rfl T.f_list (by decide +kernel) rfl) pa_nil)))) (pw_or1 (pt_val (pe_callB (R.call_isi K) rfl T.f_isinstance (by decide +kernel) (pa_cons (pv 1) (pa_cons (pe_bltn (v := .ty "tuple") (u := .type "tuple") rfl T.f_tuple (by decide +kernel) rfl) pa_nil))))))) (pss_cons (ps_set (i := 2) sc__law_same.nd rfl (Or.inl rfl) (pe_ifExp (pt_val (pe_callB (R.call_isi K) rfl T.f_isinstance (by decide +kernel) (pa_cons (pv 1) (pa_cons (pe_bltn (v := .ty "list") (u := .type "list") rfl T.f_list (by decide +kernel) rfl) pa_nil)))) (pe_callB (R.call_isi K) rfl T.f_isinstance (by decide +kernel) (pa_cons (pv 0) (pa_cons (pe_bltn (v := .ty "list") (u := .type "list") rfl T.f_list (by decide +kernel) rfl) pa_nil))) (pe_callB (R.call_isi K) rfl T.f_isinstance (by decide +kernel) (pa_cons (pv 0) (pa_cons (pe_bltn (v := .ty "tuple") (u := .type "tuple") rfl T.f_tuple (by decide +kernel) rfl) pa_nil)))))
        (pss_one (ps_ret (pe_and (pv 2) (pe_and (pe_cmpR op_eq (pe_callB (R.cr_len K) rfl T.f_len (by decide +kernel) (pa_cons (pv 0) pa_nil)) (pe_callB (R.cr_len K) rfl T.f_len (by decide +kernel) (pa_cons (pv 1) pa_nil)) (nomark _)) (pe_one (pe_callB (R.cr_all K) rfl T.f_all (by decide +kernel) (pa_cons (pe_lc (own := [("_law_a", 3), ("_law_b", 4)]) rfl sc__law_same.nd (R.pi_zipA K rfl T.f_zip (pa_cons (pv 0) (pa_cons (pv 1) pa_nil))) (blkOk_by (N := N__law_same) (sc := (defScope s__law_same)) (by decide +kernel)) (fun _ _ _ _ _ => (R.pg_tup K (n := 2) (pgs_cons (pg_name (i := 3) sc__law_same.nd rfl (by first | exact Or.inl rfl | exact Or.inr rfl)) (pgs_cons (pg_name (i := 4) sc__law_same.nd rfl (by first | exact Or.inl rfl | exact Or.inr rfl)) pgs_nil)))) (fun _ _ _ _ _ => pts_nil) (fun _ _ _ _ _ => (pe_has h__law_same hr (pa_cons (pv 3) (pa_cons (pv 4) pa_nil))))) pa_nil)))))))) pss_nil)
      (pss_cons (ps_if (pt_val (pe_callB (R.call_isi K) rfl T.f_isinstance (by decide +kernel) (pa_cons (pv 1) (pa_cons (pe_bltn (v := .ty "bool") (u := .type "bool") rfl T.f_bool (by decide +kernel) rfl) pa_nil)))) (pss_one (ps_ret (pe_and (pe_callB (R.call_isi K) rfl T.f_isinstance (by decide +kernel) (pa_cons (pv 0) (pa_cons (pe_bltn (v := .ty "bool") (u := .type "bool") rfl T.f_bool (by decide +kernel) rfl) pa_nil))) (pe_one (pe_cmpR op_eq (pv 0) (pv 1) (nomark _)))))) pss_nil)
      (pss_cons (ps_if (pt_val (pe_callB (R.call_isi K) rfl T.f_isinstance (by decide +kernel) (pa_cons (pv 1) (pa_cons (pe_bltn (v := .ty "int") (u := .type "int") rfl T.f_int (by decide +kernel) rfl) pa_nil)))) (pss_one (ps_ret (pe_and (pe_callB (R.call_isi K) rfl T.f_isinstance (by decide +kernel) (pa_cons (pv 0) (pa_cons (pe_bltn (v := .ty "int") (u := .type "int") rfl T.f_int (by decide +kernel) rfl) pa_nil))) (pe_and (pe_not (pe_callB (R.call_isi K) rfl T.f_isinstance (by decide +kernel) (pa_cons (pv 0) (pa_cons (pe_bltn (v := .ty "bool") (u := .type "bool") rfl T.f_bool (by decide +kernel) rfl) pa_nil)))) (pe_one (pe_cmpR op_eq (pv 0) (pv 1) (nomark _))))))) pss_nil)
      (pss_one (ps_ret (pe_and (pe_callB (R.call_isi K) rfl T.f_isinstance (by decide +kernel) (pa_cons (pv 0) (pa_cons (pe_bltn (v := .ty "str") (u := .type "str") rfl T.f_str (by decide +kernel) rfl) pa_nil))) (pe_one (pe_cmpR op_eq (pv 0) (pv 1) (nomark _)))))))))), ?_⟩
    rintro ds R ⟨d, rfl, hd, hn, q⟩
    have elt : ∀ (xs : List D), okDs xs = true → depDs xs ≤ n → ∀ ρ : DEnv, ρ.length = 5 → ∀ x ∈ xs, EvG (S0 K) [3, 4] (gTup K 2 (gCons (gName 3) (gCons (gName 4) gNil))) (wipeD ρ [3, 4]) (.tup [x, x]) fun ρ1 => Ev (S0 K) (tCall (spF (S0 K) (F_same n)) [] E0 (tCons (tVar 3) (tCons (tVar 4) tNil))) ρ1 fun y => y = .bl true := by
      intro xs ho hp ρ hρ x hx
      match ρ, hρ with
      | [r0, r1, r2, r3, r4], _ =>
        refine evg_tup rfl (evgs_cons (evg_name (by decide) (evgs_cons (evg_name (by decide) (evgs_nil ?_)))))
        walk_at "ev"
        exact ⟨x, rfl, okDs_mem ho x hx, Nat.le_trans (depDs_mem hx) hp, rfl⟩
    have all1 : ∀ xs : List D, (xs.all fun _ => true) = true := fun xs => List.all_eq_true.mpr fun _ _ => rfl
    cases d with
    | non =>
      walk_at "ev"
      refine iteT ?_
      walk_at "ev"
      refine iteT ?_
      walk_at "ev"
      exact q
    | lst xs =>
      rw [okD, Bool.and_eq_true] at hd
      have hz : xs.length ≤ 100000 := of_decide_eq_true hd.1
      rw [depD] at hn
      walk_at "ev"
      refine iteF ?_
      walk_at "ev"
      refine iteF ?_
      walk_at "ev"
      refine rvc_isi rfl (r := true) (show kitB "list" "list" = some true by decide +kernel) ⟨_, rfl, iteT ?_⟩
      walk_at "ev"
      refine rvc_isi rfl (r := true) (show kitB "list" "list" = some true by decide +kernel) ⟨_, rfl, iteT ?_⟩
      walk_at "ev"
      refine rvc_isi rfl (r := true) (show kitB "list" "list" = some true by decide +kernel) ?_
      walk_at "ev"
      refine iteD rfl (ev_cb (eva_cons (ev_lcG (evi_zipA ?_))))
      walk_at "ev"
      refine ⟨xs, xs, .inl rfl, ?_⟩
      rw [zip_self]
      refine lc_map _ (fun _ => .bl true) (Nat.le_trans hz (by rw [sizeLine_eq]; decide)) (elt xs hd.2 (by omega) _ rfl) (eva_nil (rvc_allF (p := fun _ => true) ?_))
      rw [all1]
      exact q
    | tup xs =>
      rw [okD, Bool.and_eq_true] at hd
      have hz : xs.length ≤ 100000 := of_decide_eq_true hd.1
      rw [depD] at hn
      walk_at "ev"
      refine iteF ?_
      walk_at "ev"
      refine iteF ?_
      walk_at "ev"
      refine rvc_isi rfl (r := false) (show kitB "tuple" "list" = some false by decide +kernel) ⟨_, rfl, iteF ?_⟩
      walk_at "ev"
      refine rvc_isi rfl (r := true) (show kitB "tuple" "tuple" = some true by decide +kernel) ⟨_, rfl, iteT ?_⟩
      walk_at "ev"
      refine rvc_isi rfl (r := false) (show kitB "tuple" "list" = some false by decide +kernel) ⟨_, rfl, iteF ?_⟩
      walk_at "ev"
      refine rvc_isi rfl (r := true) (show kitB "tuple" "tuple" = some true by decide +kernel) ?_
      walk_at "ev"
      refine iteD rfl (ev_cb (eva_cons (ev_lcG (evi_zipA ?_))))
      walk_at "ev"
      refine ⟨xs, xs, .inr rfl, ?_⟩
      rw [zip_self]
      refine lc_map _ (fun _ => .bl true) (Nat.le_trans hz (by rw [sizeLine_eq]; decide)) (elt xs hd.2 (by omega) _ rfl) (eva_nil (rvc_allF (p := fun _ => true) ?_))
      rw [all1]
      exact q
    | bl b =>
      walk_at "ev"
      refine iteF ?_
      walk_at "ev"
      refine iteF ?_
      walk_at "ev"
      refine rvc_isi rfl (r := false) (show kitB "bool" "list" = some false by decide +kernel) ⟨_, rfl, iteF ?_⟩
      walk_at "ev"
      refine rvc_isi rfl (r := false) (show kitB "bool" "tuple" = some false by decide +kernel) ⟨_, rfl, iteF ?_⟩
      walk_at "ev"
      refine rvc_isi rfl (r := true) (show kitB "bool" "bool" = some true by decide +kernel) ⟨_, rfl, iteT ?_⟩
      walk_at "ev"
      refine rvc_isi rfl (r := true) (show kitB "bool" "bool" = some true by decide +kernel) ⟨_, rfl, iteT ?_⟩
      walk_at "ev"
      rw [decide_eq_true rfl]
      exact q
    | int b =>
      walk_at "ev"
      refine iteF ?_
      walk_at "ev"
      refine iteF ?_
      walk_at "ev"
      refine rvc_isi rfl (r := false) (show kitB "int" "list" = some false by decide +kernel) ⟨_, rfl, iteF ?_⟩
      walk_at "ev"
      refine rvc_isi rfl (r := false) (show kitB "int" "tuple" = some false by decide +kernel) ⟨_, rfl, iteF ?_⟩
      walk_at "ev"
      refine rvc_isi rfl (r := false) (show kitB "int" "bool" = some false by decide +kernel) ⟨_, rfl, iteF ?_⟩
      walk_at "ev"
      refine rvc_isi rfl (r := true) (show kitB "int" "int" = some true by decide +kernel) ⟨_, rfl, iteT ?_⟩
      walk_at "ev"
      refine rvc_isi rfl (r := true) (show kitB "int" "int" = some true by decide +kernel) ⟨_, rfl, iteT ?_⟩
      walk_at "ev"
      refine rvc_isi rfl (r := false) (show kitB "int" "bool" = some false by decide +kernel) ⟨_, rfl, ?_⟩
      refine ⟨_, rfl, iteT ?_⟩
      walk_at "ev"
      rw [decide_eq_true rfl]
      exact q
    | str b =>
      walk_at "ev"
      refine iteF ?_
      walk_at "ev"
      refine iteF ?_
      walk_at "ev"
      refine rvc_isi rfl (r := false) (show kitB "str" "list" = some false by decide +kernel) ⟨_, rfl, iteF ?_⟩
      walk_at "ev"
      refine rvc_isi rfl (r := false) (show kitB "str" "tuple" = some false by decide +kernel) ⟨_, rfl, iteF ?_⟩
      walk_at "ev"
      refine rvc_isi rfl (r := false) (show kitB "str" "bool" = some false by decide +kernel) ⟨_, rfl, iteF ?_⟩
      walk_at "ev"
      refine rvc_isi rfl (r := false) (show kitB "str" "int" = some false by decide +kernel) ⟨_, rfl, iteF ?_⟩
      walk_at "ev"
      refine rvc_isi rfl (r := true) (show kitB "str" "str" = some true by decide +kernel) ⟨_, rfl, iteT ?_⟩
      walk_at "ev"
      rw [decide_eq_true rfl]
      exact q
    | _ => cases hd

/-! ### _law_names -/
theorem fixL_same {w : List Nat} {c : Nat} {r : List Nat} (h : fixL w = c :: r) (hc : c ≠ 113) : w = c :: r := by
  unfold fixL at h
  split at h
  · simp at h
    exact absurd h.1.symm hc
  · exact h
theorem names_far {cs : List Nat} {s : Nat} {start : Int} {n : Nat} (hs : s ≤ cs.length) : ¬ (("zzz" : Str) ∈ namesOf cs s start n ∧ ("yyy" : Str) ∈ namesOf cs s start n) := fun ⟨h1, h2⟩ => by
  obtain ⟨j, _, e1⟩ := List.mem_map.mp h1
  obtain ⟨k, _, e2⟩ := List.mem_map.mp h2
  have z1 : fixL (wordOf cs s (letterAt start (j : Int))) = [122, 122, 122] := mkS_inj (e1.trans (by decide +kernel))
  have z2 : fixL (wordOf cs s (letterAt start (k : Int))) = [121, 121, 121] := mkS_inj (e2.trans (by decide +kernel))
  have y1 := fixL_same z1 (by decide)
  have y2 := fixL_same z2 (by decide)
  have x1 := wordOf_erase (letterAt start (j : Int)) hs
  have x2 := wordOf_erase (letterAt start (k : Int)) hs
  rw [y1] at x1
  rw [y2] at x2
  have hl : cs.length + 1 = 3 := by rw [← wordOf_len cs s (letterAt start (j : Int)), y1]; rfl
  have hs' : s = 0 ∨ s = 1 ∨ s = 2 := by omega
  rw [← x2] at x1
  rcases hs' with rfl | rfl | rfl <;> simp at x1
def F_names (pc : Addr × Addr) : Fn := ⟨fun ds Q => ∃ n : Nat, ds = [.loc pc.1, .int (n : Int)] ∧ n ≤ 26 ∧ ∀ ws : List Str, ws.length = n → ws.Nodup → (∀ x ∈ ws, GoodL x) → ¬ (("zzz" : Str) ∈ ws ∧ ("yyy" : Str) ∈ ws) → Q (.lst (ws.map D.str)), fun _ _ _ h ⟨n, e, b, q⟩ => ⟨n, e, b, fun ws h1 h2 h3 h4 => h _ (q ws h1 h2 h3 h4)⟩⟩
theorem h__law_names (T : Hd K mg) : Has P w K mg base "_law_names" 3 P__law_names (spT (ST K) F_names) := by
  have h__law_pick : Has P w K mg base "_law_pick" 1 P__law_pick (spT (ST K) F_pick) := h__law_pick T
  have h__law_of : Has P w K mg base "_law_of" 2 P__law_of (spT (ST K) F_of) := h__law_of T
  refine has_ofT T.d__law_names T.g__law_names sc__law_names (fun _ _ _ _ _ _ us hl => match us, hl with | [_, _], _ => rfl) (fun p ds R ⟨n, e, _⟩ => by rw [e]; rfl) fun f cdv A outer s H E hr => ?_
  refine ⟨_, (pss_cons (ps_set (i := 2) sc__law_names.nd rfl (Or.inr rfl) pe_str)
      (pss_cons (ps_set (i := 3) sc__law_names.nd rfl (Or.inr rfl) (pe_m1 PySem.F.slot_str_join PySem.F.type_str_join (R.mt_joinS K) pe_str (pe_lc (own := [("_law_k", 8)]) rfl sc__law_names.nd (pi_range1 rfl T.f_range (pa_cons (pe_has h__law_pick hr (pa_cons (pv 0) (pa_cons pe_int pa_nil))) pa_nil)) (blkOk_by (N := N__law_names) (sc := (defScope s__law_names)) (by decide +kernel)) (fun _ _ _ _ _ => (pg_name (i := 8) sc__law_names.nd rfl (by first | exact Or.inl rfl | exact Or.inr rfl))) (fun _ _ _ _ _ => pts_nil) (fun _ _ _ _ _ => (pe_has h__law_of hr (pa_cons (pv 0) (pa_cons (pv 2) pa_nil)))))))
      (pss_cons (ps_asg (pe_tup (pa_cons (pe_has h__law_pick hr (pa_cons (pv 0) (pa_cons (pe_op (R.op_addX K) (pe_callB (R.cr_len K) rfl T.f_len (by decide +kernel) (pa_cons (pv 3) pa_nil)) pe_int) pa_nil))) (pa_cons (pe_has h__law_pick hr (pa_cons (pv 0) (pa_cons pe_int pa_nil))) pa_nil))) (R.pg_tup K (n := 2) (pgs_cons (pg_name (i := 4) sc__law_names.nd rfl (by first | exact Or.inl rfl | exact Or.inr rfl)) (pgs_cons (pg_name (i := 5) sc__law_names.nd rfl (by first | exact Or.inl rfl | exact Or.inr rfl)) pgs_nil))))
      (pss_cons (ps_setLc (i := 6) (own := [("_law_k", 8)]) rfl sc__law_names.nd rfl rfl (sw_true rfl rfl rfl (by decide +kernel)) (pi_range1 rfl T.f_range (pa_cons (pv 1) pa_nil)) (blkOk_by (N := N__law_names) (sc := (defScope s__law_names)) (by decide +kernel)) (fun _ _ _ _ _ => (pg_name (i := 8) sc__law_names.nd rfl (by first | exact Or.inl rfl | exact Or.inr rfl))) (fun _ _ _ _ _ => pts_nil) (fun _ _ _ _ _ => (pe_op (R.op_addX K) (pe_op (R.op_addX K) (pe_slice (R.sl_any K) (pv 3) po_none (po_some (pv 4))) (pe_ix (R.ix_seq K) (pv 2) (pe_op op_mod (pe_callTy cr_int rfl T.f_int (by decide +kernel) (pa_cons (pe_op (R.op_addX K) (pv 5) (pe_op op_mulX pe_int (pv 8))) pa_nil)) pe_int) (fun _ _ => rfl))) (pe_slice (R.sl_any K) (pv 3) (po_some (pv 4)) po_none))))
      (pss_cons (ps_set (i := 7) sc__law_names.nd rfl (Or.inr rfl) (pe_tup (pa_cons pe_str (pa_cons pe_str (pa_cons pe_str (pa_cons pe_str (pa_cons pe_str (pa_cons pe_str (pa_cons pe_str (pa_cons pe_str (pa_cons pe_str (pa_cons pe_str (pa_cons pe_str (pa_cons pe_str pa_nil))))))))))))))
      (pss_one (ps_ret (pe_lc (own := [("_law_word", 9)]) rfl sc__law_names.nd (R.pi_list K (pv 6)) (blkOk_by (N := N__law_names) (sc := (defScope s__law_names)) (by decide +kernel)) (fun _ _ _ _ _ => (pg_name (i := 9) sc__law_names.nd rfl (by first | exact Or.inl rfl | exact Or.inr rfl))) (fun _ _ _ _ _ => pts_nil) (fun _ _ _ _ _ => (pe_ifExp (pt_cmpR (R.op_inX K) (pv 9) (pv 7) (rfl)) (pe_slice (R.sl_any K) (pe_op (R.op_addX K) pe_str (pv 9)) po_none (po_some pe_int)) (pv 9))))))))))), ?_⟩
  rintro ⟨p, c⟩ ds R ⟨n, rfl, hn, q⟩
  walk_at "ev"
  refine ⟨6, rfl, by decide, by decide, fun k k0 k1 => ?_⟩
  walk_at "ev"
  refine ⟨k, rfl, by omega, by omega, ?_⟩
  refine lc_any (l := List.range k.toNat) (fun i => .int (0 + (i : Nat))) (fun _ y => ∃ c, c ∈ abcL ∧ y = .str (mkS [c])) (by rw [List.length_range]; exact size_of_small (by omega)) (fun i _ => evg_name (by decide) ?_) fun ys hys => ?_
  · walk_at "ev"
    refine ⟨.str abcS, signsD abcS, rfl, rfl, by decide +kernel, by decide +kernel, fun y hy => ?_⟩
    obtain ⟨c, hc, rfl⟩ := List.mem_map.mp hy
    exact ⟨c, hc, rfl⟩
  obtain ⟨cs, rfl, hl, hm⟩ := all2_ex hys
  rw [List.length_range] at hl
  have hl5 : cs.length ≤ 5 := by omega
  have e1 : (cs.map fun c => D.str (mkS [c])) = (cs.map fun c => mkS [c]).map D.str := by rw [List.map_map] <;> rfl
  rw [e1]
  refine rvm_join (a := mkS []) (by rw [signs_sum, List.length_map, mkS_length]; simp; omega) ?_
  rw [signs_join]
  walk_at "ev"
  refine rvc_lenS (by rw [mkS_length]; exact size_of_small (by omega)) ?_
  walk_at "ev"
  rw [mkS_length]
  refine ⟨_, rfl, by omega, abs_small (n := cs.length + 1) (by omega), fun s0 s1 s2 => ?_⟩
  walk_at "ev"
  refine ⟨26, rfl, by decide, by decide, fun st t0 t1 => ?_⟩
  walk_at "ev"
  refine ⟨n, rfl, by omega, by omega, ?_⟩
  have hz : ∀ l : List Nat, l.length ≤ 100000 → (mkS l).length ≤ sizeLine := fun l h => by rw [mkS_length]; exact szs h
  have hs : s0.toNat ≤ cs.length := by omega
  refine lc_map (l := List.range n) (fun i => .int (0 + (i : Nat))) (fun i : Nat => .str (mkS (wordOf cs s0.toNat (letterAt st (i : Int))))) (by rw [List.length_range]; exact szs (by omega)) (fun i hi => evg_name (by decide) ?_) ?_
  · have hi' : i < n := List.mem_range.mp hi
    walk_at "ev"
    refine rvs_any_s (hz _ (by omega)) ?_
    rw [cutS_take s1]
    walk_at "ev"
    refine rvr_mulX_i (.inl ⟨by decide, by decide⟩) ?_
    walk_at "ev"
    refine rvr_iic (g := fun i j => i % j) (by decide) ?_
    have hg : atI abcS.cps.toList ((st + 5 * (0 + (i : Int))) % 26) = some (letterAt st (i : Int)) := by
      have h := letterAt_get st (i : Int)
      rw [Int.zero_add]
      exact atI_of (by omega) h
    refine rvr_ixq_s (szr rfl) hg ?_
    refine rvr_addX_s (szs ?_) ?_
    · rw [mkS_length, List.length_take]
      show _ + 1 ≤ _
      omega
    walk_at "ev"
    refine rvs_any_s (hz _ (by omega)) ?_
    rw [cutS_drop s1, one_mkS, mkS_app]
    refine rvr_addX_s (szs ?_) ?_
    · rw [mkS_length, mkS_length, List.length_append, List.length_take, List.length_drop, List.length_singleton]
      omega
    rw [mkS_app]
    have e : cs.take s0.toNat ++ [letterAt st (i : Int)] ++ cs.drop s0.toNat = wordOf cs s0.toNat (letterAt st (i : Int)) := by
      unfold wordOf
      rw [List.append_assoc] <;> rfl
    rw [e]
  walk_at "ev"
  refine lc_map (l := List.range n) (fun i : Nat => .str (mkS (wordOf cs s0.toNat (letterAt st (i : Int))))) (fun i : Nat => .str (mkS (fixL (wordOf cs s0.toNat (letterAt st (i : Int)))))) (by rw [List.length_range]; exact szs (by omega)) (fun i hi => evg_name (by decide) ?_) ?_
  · have hw := wordOf_len cs s0.toNat (letterAt st (i : Int))
    revert hw
    generalize wordOf cs s0.toNat (letterAt st (i : Int)) = wd
    intro hw
    walk_at "ev"
    refine rvr_inX_t (ys := barred.map D.str) rfl (by decide +kernel) ?_
    rw [if_neg Bool.false_ne_true, inD_strs]
    walk_at "ev"
    by_cases hb : mkS wd ∈ barred
    · refine iteD hb ?_
      have e : fixL wd = (113 :: wd).take 6 := if_pos (mem_barred.mp hb)
      rw [e]
      walk_at "ev"
      have q1 : Str.ofString "q" = mkS [113] := by decide +kernel
      rw [q1]
      refine rvr_addX_s (szs ?_) ?_
      · rw [mkS_length, mkS_length, List.length_singleton]
        omega
      rw [mkS_app]
      walk_at "ev"
      refine rvs_any_s (hz _ ?_) ?_
      · rw [List.length_append, List.length_singleton]
        omega
      exact congrArg D.str (cutS_take (by decide))
    · refine iteDn hb ?_
      have e : fixL wd = wd := if_neg fun z => hb (mem_barred.mpr z)
      rw [e]
      walk_at "ev"
      rfl
  · have e : ((List.range n).map fun i : Nat => D.str (mkS (fixL (wordOf cs s0.toNat (letterAt st (i : Int)))))) = (NB.namesOf cs s0.toNat st n).map D.str := by
      unfold NB.namesOf
      rw [List.map_map] <;> rfl
    rw [e]
    exact q _ (namesOf_length _ _ _ _) (namesOf_nodup hl5 hs hn) (namesOf_good hl5 hm) (names_far hs)

/-! ### what is asked of a rule -/
def F_labels (C : Addr) : Fn := ⟨fun ds Q => ∃ (fs : List (Str × D)) (xs : List D), ds = [.obj C fs] ∧ fget fs "own_labels" = some (.lst xs) ∧ Q (.lst xs), fun _ _ _ h ⟨fs, xs, e, l, q⟩ => ⟨fs, xs, e, l, h _ q⟩⟩
theorem m_Rule_labels (T : Hd K mg) : C8.Met P w K mg base 1 (He.ga K "Rule") "labels" (spR K (F_labels (He.ga K "Rule"))) [] := by
  refine met_ofR T.cls_Rule T.me_Rule_labels T.d_Rule_labels sc_Rule_labels (fun _ _ _ _ _ _ us hl => match us, hl with | [_], _ => rfl) (fun ds R ⟨_, _, e, _⟩ => by rw [e]; rfl) fun f cdv A outer s H E hr => ?_
  refine ⟨_, (pss_one (ps_ret (pe_callTy (R.cr_list K) rfl T.f_list (by decide +kernel) (pa_cons (pe_fldC T.cls_Rule T.na_Rule_own_labels (pv 0)) pa_nil)))), ?_⟩
  rintro ds R ⟨fs, xs, rfl, l, q⟩
  exact run_retF (evf_list (eva_cons (ev_fldC (ev_var (by rfl) ⟨fs, _, rfl, l, eva_nil ⟨xs, .inl rfl, q⟩⟩))))
def F_below (C : Addr) : Fn := ⟨fun ds Q => ∃ (fs : List (Str × D)) (a : Str) (ws : List Str) (os : List Tr), ds = [.obj C fs, .str a] ∧ fget fs "ranks" = some (.dK (rkD ws)) ∧ fget fs "has_label" = none ∧ fget fs "pairs" = some (.dK (prD ws os)) ∧ a ∈ ws ∧ Q (.lst ((pairsOf os a).map p2)), fun _ _ _ h ⟨fs, a, ws, os, e, l1, l2, l3, m, q⟩ => ⟨fs, a, ws, os, e, l1, l2, l3, m, h _ q⟩⟩
theorem pr_at (os : List Tr) (a : Str) : ∀ ws : List Str, a ∈ ws → valD (prD ws os) (.inr a) = some (.lst ((pairsOf os a).map p2))
  | [], h => by cases h
  | b :: r, h => by
    unfold prD
    rw [List.map_cons, valD_cons]
    by_cases e : b = a
    · subst e
      rw [if_pos rfl]
    · rw [if_neg fun z => e (Sum.inr.inj z)]
      exact pr_at os a r ((List.mem_cons.mp h).resolve_left fun z => e z.symm)
theorem m_Rule_below (T : Hd K mg) : C8.Met P w K mg base 2 (He.ga K "Rule") "below" (spR K (F_below (He.ga K "Rule"))) [] := by
  have m_Rule_has_label : C8.Met P w K mg base 1 (He.ga K "Rule") "has_label" (spF (S0 K) (F_haslab (He.ga K "Rule"))) [] := m_Rule_has_label T
  refine met_ofR T.cls_Rule T.me_Rule_below T.d_Rule_below sc_Rule_below (fun _ _ _ _ _ _ us hl => match us, hl with | [_, _], _ => rfl) (fun ds R ⟨_, _, _, _, e, _⟩ => by rw [e]; rfl) fun f cdv A outer s H E hr => ?_
  refine ⟨_, (pss_cons (ps_if (pt_not (pt_val (C8.pe_mt m_Rule_has_label hr (by first | decide | exact Nat.le_refl _ | omega) (pv 0) (pa_cons (pv 1) pa_nil)))) (pss_one ps_no) pss_nil)
      (pss_one (ps_ret (pe_callTy (R.cr_list K) rfl T.f_list (by decide +kernel) (pa_cons (pe_dget (un1 hr) (pe_fldC T.cls_Rule T.na_Rule_pairs (pv 0)) (pv 1) (fun _ _ => rfl)) pa_nil))))), ?_⟩
  rintro ds R ⟨fs, a, ws, os, rfl, l1, l2, l3, m, q⟩
  refine run_seq (run_if (evt_not (evt_b (ev_meth (ev_var (by rfl) ⟨fs, rfl, l2, eva_cons (ev_var (by rfl) (eva_nil ⟨fs, _, ws, rfl, l1, rfl, ?_⟩))⟩)))))
  have e : isIn ws (.str a) = true := decide_eq_true m
  rw [e]
  refine ⟨_, rfl, iteF (run_next ?_)⟩
  exact run_retF (evf_list (eva_cons (ev_dget (ev_fldC (ev_var (by rfl) ⟨fs, _, rfl, l3, ev_var (by rfl) ⟨_, (pr_at os a ws m) ▸ DFind.k rfl, eva_nil ⟨_, .inl rfl, q⟩⟩⟩)))))
/-! ### steps -/
def belowL (os : List Tr) (a : Str) : List Str := (pairsOf os a).flatMap fun p => [p.1, p.2]
def rowL (ws : List Str) (os : List Tr) (a : Str) : List (Str × Str) := (ws.filter fun b => decide (b ∈ belowL os a)).map fun b => (a, b)
def stepsL (ws : List Str) (os : List Tr) : List (Str × Str) := ws.flatMap (rowL ws os)
/-- a rule as it stands -/
def ruleD (C : Addr) (ws : List Str) (kn : List (List Key × D)) (os : List Tr) : D := .obj C (ruleFs ws kn os)
theorem stepsL_len {ws : List Str} {os : List Tr} (l : ws.length ≤ 5) : (stepsL ws os).length ≤ 25 :=
  Nat.le_trans (flatMap_len (m := 5) fun c _ => by
    unfold rowL
    rw [List.length_map]
    exact Nat.le_trans (List.length_filter_le _ _) l) (by omega)
def strOf : D → Str
  | .str x => x
  | _ => ⟨#[]⟩
theorem abc_low : ∀ c ∈ abcL, decide (c < 1114112) = true := by decide +kernel
theorem good_lay {x : Str} (h : GoodL x) (n : Nat) : Lay n (NB.Tm.s x) := by
  refine ⟨?_, Nat.zero_le _⟩
  have h1 : isWordS x 6 = true := (Bool.and_eq_true_iff.mp (show (isWord (.str x) 6 && _) = true from h)).1
  have h2 : x.cps.toList.all smallC = true := (Bool.and_eq_true_iff.mp (Bool.and_eq_true_iff.mp h1).2).2
  show PyData.strOk x = true
  unfold PyData.strOk
  rw [← Array.all_toList, List.all_eq_true]
  intro c hc
  exact abc_low c (of_decide_eq_true (List.all_eq_true.mp h2 c hc))
theorem steps_mem {ws : List Str} {os : List Tr} {p : Str × Str} (h : p ∈ stepsL ws os) : p.1 ∈ ws ∧ p.2 ∈ ws := by
  obtain ⟨a, ha, hp⟩ := List.mem_flatMap.mp h
  obtain ⟨b, hb, rfl⟩ := List.mem_map.mp hp
  exact ⟨ha, (List.mem_filter.mp hb).1⟩
def tm2 (p : Str × Str) : NB.Tm := NB.Tm.t [NB.Tm.s p.1, NB.Tm.s p.2]
theorem tm2_D (l : List (Str × Str)) : l.map p2 = tDs (l.map tm2) := by
  rw [tDs_map, List.map_map]
  rfl
theorem tm2_mem {p : Str × Str} {l : List (Str × Str)} : tm2 p ∈ l.map tm2 ↔ p ∈ l := by
  constructor
  · intro h
    obtain ⟨q, hq, e⟩ := List.mem_map.mp h
    obtain ⟨a, b⟩ := p
    obtain ⟨c, d⟩ := q
    simp only [tm2, NB.Tm.t.injEq, List.cons.injEq, NB.Tm.s.injEq, and_true] at e
    obtain ⟨rfl, rfl⟩ := e
    exact hq
  · exact fun h => List.mem_map.mpr ⟨p, h, rfl⟩
theorem tm2_lay {p : Str × Str} (h1 : GoodL p.1) (h2 : GoodL p.2) : Lay 1 (tm2 p) := lay_t fun a m => by
  simp only [List.mem_cons, List.not_mem_nil, or_false] at m
  rcases m with rfl | rfl
  · exact good_lay h1 0
  · exact good_lay h2 0
theorem in_pairs {K : PySem.W.Frag} {Q : D → Prop} {p : Str × Str} {l : List (Str × Str)} {ys : List D} (hy : ys = l.map p2) (h1 : GoodL p.1) (h2 : GoodL p.2) (hl : ∀ q ∈ l, GoodL q.1 ∧ GoodL q.2) (q : Q (.bl (decide (p ∈ l)))) : RvR K (rInD K) (.tup [.str p.1, .str p.2]) (.lst ys) Q :=
  rvr_inD (a := tm2 p) (l := l.map tm2) rfl (by rw [hy, tm2_D]) (tm2_lay h1 h2) (lay_l (n := 1) fun a m => by
    obtain ⟨q, hq, rfl⟩ := List.mem_map.mp m
    exact tm2_lay (hl q hq).1 (hl q hq).2) (by decide) (by decide) fun r hr => by
    have e : r = decide (p ∈ l) := by
      rw [Bool.eq_iff_iff, hr, tm2_mem, decide_eq_true_eq]
    rw [e]; exact q

/-! ### the laws' drawn rules -/
def F_mixed (pc : Addr × Addr) : Fn := ⟨fun ds Q => ∃ xs : List D, ds = [.loc pc.1, .lst xs] ∧ xs.length ≤ 1000 ∧ ∀ ys, ys.Perm xs → Q (.lst ys), fun _ _ _ h ⟨xs, e, z, q⟩ => ⟨xs, e, z, fun ys p => h _ (q ys p)⟩⟩
theorem h__law_mixed (T : Hd K mg) : Has P w K mg base "_law_mixed" 2 P__law_mixed (spT (ST K) F_mixed) := by
  have h__law_pick : Has P w K mg base "_law_pick" 1 P__law_pick (spT (ST K) F_pick) := h__law_pick T
  refine has_ofT T.d__law_mixed T.g__law_mixed sc__law_mixed (fun _ _ _ _ _ _ us hl => match us, hl with | [_, _], _ => rfl) (fun p ds R ⟨_, e, _⟩ => by rw [e]; rfl) fun f cdv A outer s H E hr => ?_
  refine ⟨_, (pss_cons (ps_set (i := 2) sc__law_mixed.nd rfl (Or.inl rfl) (pe_lst pa_nil))
      (pss_cons (ps_for PassesOwn.never rfl (R.pi_list K (pv 1)) (pg_name (i := 3) sc__law_mixed.nd rfl (by first | exact Or.inl rfl | exact Or.inr rfl)) (pss_one (ps_expr (pe_bm PySem.F.plainAttrs_list PySem.F.slot_list_insert PySem.F.type_list_insert mt_insertR (pv 2) (pa_cons (pe_has h__law_pick hr (pa_cons (pv 0) (pa_cons (pe_op (R.op_addX K) (pe_callB (R.cr_len K) rfl T.f_len (by decide +kernel) (pa_cons (pv 2) pa_nil)) pe_int) pa_nil))) (pa_cons (pv 3) pa_nil))))))
      (pss_one (ps_ret (pv 2))))), ?_⟩
  rintro ⟨p, c⟩ ds R ⟨xs, rfl, hz, q⟩
  refine run_seq (run_own (eva_nil ⟨szr rfl, ?_⟩))
  refine run_seq (run_for (vs := [3]) (evi_list (ev_var (by rfl) ⟨_, rfl, ?_⟩)))
  refine ⟨fun i ρ => ∃ ys o, ys.Perm (xs.take i) ∧ ρ = [some (.dat (.loc p)), some (.dat (.lst xs)), some (.own ys), o], ⟨[], none, .nil, rfl⟩, ?_, ?_⟩
  · rintro i y ρ1 hy ⟨ys, o, hp, rfl⟩
    have hi : i < xs.length := by
      by_cases q : i < xs.length
      · exact q
      · rw [List.getElem?_eq_none (by omega)] at hy; cases hy
    have hl : ys.length = i := by rw [hp.length_eq, List.length_take]; omega
    refine evg_name (by simp) ?_
    refine run_insert (by rfl) (lt_size (m := 1000) (by omega)) ?_
    refine ev_callT (eva_cons (ev_var (by rfl) (eva_cons (ev_op (ev_borrow (k := 2) (by rfl) rfl (ev_cb (eva_cons (ev_var (by rfl) (eva_nil (rvc_lenL ⟨rfl, ev_cint (rvr_addX_i (eva_nil ?_))⟩))))))) )))
    refine ⟨_, rfl, by omega, abs_small (n := ys.length + 1) (by omega), fun k k0 k1 => ?_⟩
    refine ev_var (by rfl) ⟨k, rfl, k0, by omega, ?_⟩
    refine ⟨ys.take k.toNat ++ [y] ++ ys.drop k.toNat, some (.dat y), ?_, rfl⟩
    rw [take_snoc hy]
    have h1 : (ys.take k.toNat ++ [y] ++ ys.drop k.toNat).Perm (ys.take k.toNat ++ ys.drop k.toNat ++ [y]) := by
      rw [List.append_assoc, List.append_assoc]
      exact List.Perm.append_left _ List.perm_append_comm
    rw [List.take_append_drop] at h1
    exact h1.trans (hp.append_right _)
  · rintro ρ1 ⟨ys, o, hp, rfl⟩
    rw [List.take_length] at hp
    exact run_retO (by rfl) (q ys hp)
/-- all triples in plain form, rising, as the laws list them -/
def rowF (ws : List Str) (a : Str) (b : Nat) : List Tr := (ws.drop b).map fun c => (a, ws.getD b "", c)
def formsL (ws : List Str) : List Tr := ws.flatMap fun a => (List.range ws.length).flatMap (rowF ws a)
theorem rowF_len {ws : List Str} (h : ws.length ≤ 5) (a : Str) (b : Nat) : (rowF ws a b).length ≤ 5 := by
  unfold rowF
  rw [List.length_map, List.length_drop]
  omega
theorem rowsF_len {ws : List Str} (h : ws.length ≤ 5) (a : Str) (j : Nat) (hj : j ≤ ws.length) : ((List.range j).flatMap (rowF ws a)).length ≤ 25 :=
  Nat.le_trans (flatMap_len fun b _ => rowF_len h a b) (by rw [List.length_range]; omega)
def F_forms : Fn := ⟨fun ds Q => ∃ ws : List Str, ds = [.lst (ws.map D.str)] ∧ ws.length ≤ 5 ∧ Q (.lst ((formsL ws).map t3)), fun _ _ _ h ⟨ws, e, z, q⟩ => ⟨ws, e, z, h _ q⟩⟩
theorem cutD_drop {ds : List D} {j : Nat} (hj : j ≤ ds.length) : cutD ds (some (j : Int)) none = ds.drop j := by
  unfold NB.cutD
  rw [sIx_none, sIx_nat (by omega), Int.toNat_natCast, Nat.min_eq_left hj, List.take_of_length_le (by rw [List.length_drop]; omega)]
theorem range_snoc (n : Nat) : List.range (n + 1) = List.range n ++ [n] := List.range_succ
theorem h__law_forms (T : Hd K mg) : Has P w K mg base "_law_forms" 1 P__law_forms (spF (S0 K) F_forms) := by
  refine has_ofD T.d__law_forms T.g__law_forms sc__law_forms (fun _ _ _ _ _ _ us hl => match us, hl with | [_], _ => rfl) (fun ds R ⟨_, e, _⟩ => by rw [e]; rfl) fun f cdv A outer s H E hr => ?_
  refine ⟨_, (pss_cons (ps_set (i := 1) sc__law_forms.nd rfl (Or.inl rfl) (pe_lst pa_nil))
      (pss_cons (ps_for PassesOwn.never rfl (R.pi_list K (pv 0)) (pg_name (i := 2) sc__law_forms.nd rfl (by first | exact Or.inl rfl | exact Or.inr rfl)) (pss_one (ps_for PassesOwn.never rfl (pi_range1 rfl T.f_range (pa_cons (pe_callB (R.cr_len K) rfl T.f_len (by decide +kernel) (pa_cons (pv 0) pa_nil)) pa_nil)) (pg_name (i := 3) sc__law_forms.nd rfl (by first | exact Or.inl rfl | exact Or.inr rfl)) (pss_one (ps_set (i := 1) sc__law_forms.nd rfl (Or.inl rfl) (pe_op (R.op_addX K) (pv 1) (pe_lc (own := [("_law_word", 4)]) rfl sc__law_forms.nd (R.pi_list K (pe_slice (R.sl_any K) (pv 0) (po_some (pv 3)) po_none)) (blkOk_by (N := N__law_forms) (sc := (defScope s__law_forms)) (by decide +kernel)) (fun _ _ _ _ _ => (pg_name (i := 4) sc__law_forms.nd rfl (by first | exact Or.inl rfl | exact Or.inr rfl))) (fun _ _ _ _ _ => pts_nil) (fun _ _ _ _ _ => (pe_tup (pa_cons (pv 2) (pa_cons (pe_ix (R.ix_seq K) (pv 0) (pv 3) (fun _ _ => rfl)) (pa_cons (pv 4) pa_nil))))))))))))
      (pss_one (ps_ret (pv 1))))), ?_⟩
  rintro ds R ⟨ws, rfl, hz, q⟩
  refine run_seq (run_set (ev_lst (eva_nil ⟨szr rfl, ?_⟩)))
  refine run_seq (run_for (vs := [2]) (evi_list (ev_var (by rfl) ⟨_, rfl, ?_⟩)))
  refine ⟨fun i ρ => ∃ o2 o3, ρ = [some (.dat (.lst (ws.map D.str))), some (.dat (.lst (((ws.take i).flatMap fun a => (List.range ws.length).flatMap (rowF ws a)).map t3))), o2, o3, none], ⟨none, none, rfl⟩, ?_, ?_⟩
  · rintro i y ρ1 hy ⟨o2, o3, rfl⟩
    obtain ⟨a, ha, rfl⟩ := get_map_str hy
    refine evg_name (by simp) ?_
    refine run_for (vs := [3]) (evi_range1 (eva_cons (ev_cb (eva_cons (ev_var (by rfl) (eva_nil (rvc_lenL (eva_nil ⟨_, rfl, by omega, by rw [List.length_map]; omega, ?_⟩))))))))
    have hi : i < ws.length := by
      by_cases q : i < ws.length
      · exact q
      · rw [List.getElem?_eq_none (by omega)] at ha; cases ha
    have accl : (((ws.take i).flatMap fun a => (List.range ws.length).flatMap (rowF ws a))).length ≤ 125 := Nat.le_trans (flatMap_len fun a _ => rowsF_len hz a _ (Nat.le_refl _)) (by rw [List.length_take]; omega)
    refine ⟨fun j ρ => ∃ o3, ρ = [some (.dat (.lst (ws.map D.str))), some (.dat (.lst (((ws.take i).flatMap fun a => (List.range ws.length).flatMap (rowF ws a)).map t3 ++ ((List.range j).flatMap (rowF ws a)).map t3))), some (.dat (.str a)), o3, none], ⟨o3, by simp⟩, ?_, ?_⟩
    · rintro j y ρ2 hy2 ⟨o3', rfl⟩
      have hj : j < ws.length := by
        by_cases q : j < ws.length
        · exact q
        · rw [List.getElem?_eq_none (by rw [rngD_length, List.length_map]; omega)] at hy2; cases hy2
      rw [rngD_get (by rw [List.length_map]; omega)] at hy2
      cases hy2
      refine evg_name (by simp) ?_
      have e0 : (0 : Int) + (j : Nat) = (j : Nat) := by omega
      rw [e0]
      have gj : (ws.map D.str)[j]? = some (.str (ws.getD j "")) := by
        rw [List.getElem?_map, List.getElem?_eq_getElem hj, List.getD_eq_getElem?_getD, List.getElem?_eq_getElem hj]; rfl
      refine run_set (ev_op (ev_var (by rfl) (ev_lcG (evi_list (ev_sl (ev_var (by rfl) (evo_some (ev_var (by rfl) ⟨_, rfl, evo_none (rvs_any_l ⟨_, rfl, ?_⟩)⟩))))))))
      rw [cutD_drop (by rw [List.length_map]; omega), ← List.map_drop]
      refine lc_map (l := ws.drop j) D.str (fun c => t3 (a, ws.getD j "", c)) (szs (by rw [List.length_drop]; omega)) (fun c hc => evg_name (by decide) ?_) ?_
      · exact ev_tup (eva_cons (ev_var (by rfl) (eva_cons (ev_op (ev_var (by rfl) (ev_var (by rfl) (rvr_ixq_l (atI_ofNat gj) (eva_cons (ev_var (by rfl) (eva_nil ⟨szr rfl, rfl⟩))))))))))
      · have hr := rowsF_len hz a j (by omega)
        refine rvr_addX_l ?_ ⟨some (.dat (.int (j : Nat))), ?_⟩
        · rw [List.length_append, List.length_map, List.length_map, List.length_map, List.length_drop]
          exact szs (by omega)
        · rw [range_snoc, List.flatMap_append, List.map_append, List.flatMap_cons, List.flatMap_nil, List.append_nil, ← List.append_assoc]
          have er : (rowF ws a j).map t3 = (ws.drop j).map fun c => t3 (a, ws.getD j "", c) := by
            unfold rowF
            rw [List.map_map]
            rfl
          rw [er]
          rfl
    · rintro ρ2 ⟨o3', rfl⟩
      refine ⟨some (.dat (.str a)), o3', ?_⟩
      rw [take_snoc ha, List.flatMap_append, List.map_append, List.flatMap_cons, List.flatMap_nil, List.append_nil, rngD_length, List.length_map, Int.toNat_natCast]
  · rintro ρ1 ⟨o2, o3, rfl⟩
    rw [List.length_map, List.take_length]
    exact run_ret (ev_var (by rfl) q)
def F_lplain : Fn := ⟨fun ds Q => ∃ (ws : List Str) (t : Tr), ds = [.lst (ws.map D.str), t3 t] ∧ inT ws t ∧ Q (t3 (plainT ws t)), fun _ _ _ h ⟨ws, t, e, z, q⟩ => ⟨ws, t, e, z, h _ q⟩⟩
theorem h__law_plain (T : Hd K mg) : Has P w K mg base "_law_plain" 1 P__law_plain (spF (S0 K) F_lplain) := by
  refine has_ofD T.d__law_plain T.g__law_plain sc__law_plain (fun _ _ _ _ _ _ us hl => match us, hl with | [_, _], _ => rfl) (fun ds R ⟨_, _, e, _⟩ => by rw [e]; rfl) fun f cdv A outer s H E hr => ?_
  refine ⟨_, (pss_cons (ps_asg (pv 1) (R.pg_tup K (n := 3) (pgs_cons (pg_name (i := 2) sc__law_plain.nd rfl (by first | exact Or.inl rfl | exact Or.inr rfl)) (pgs_cons (pg_name (i := 3) sc__law_plain.nd rfl (by first | exact Or.inl rfl | exact Or.inr rfl)) (pgs_cons (pg_name (i := 4) sc__law_plain.nd rfl (by first | exact Or.inl rfl | exact Or.inr rfl)) pgs_nil)))))
      (pss_one (ps_ret (pe_ifExp (pt_cmpR op_le (pe_bm PySem.F.plainAttrs_list PySem.F.slot_list_index PySem.F.type_list_index (mt_indexR K) (pv 0) (pa_cons (pv 3) pa_nil)) (pe_bm PySem.F.plainAttrs_list PySem.F.slot_list_index PySem.F.type_list_index (mt_indexR K) (pv 0) (pa_cons (pv 4) pa_nil)) (nomark _)) (pe_tup (pa_cons (pv 2) (pa_cons (pv 3) (pa_cons (pv 4) pa_nil)))) (pe_tup (pa_cons (pv 2) (pa_cons (pv 4) (pa_cons (pv 3) pa_nil)))))))), ?_⟩
  rintro ds R ⟨ws, ⟨a, b, c⟩, rfl, ⟨ha, hb, hc⟩, q⟩
  refine run_seq (run_asg (vs := List.range 64) (ev_var (by rfl) ?_))
  show EvG _ _ _ _ (.tup [.str a, .str b, .str c]) _
  walk_at "ev"
  refine ev_indexS (x := b) (ev_var (by rfl) ⟨rfl, ev_var (by rfl) ⟨rfl, hb, ?_⟩⟩)
  refine ev_indexS (x := c) (ev_var (by rfl) ⟨rfl, ev_var (by rfl) ⟨rfl, hc, ?_⟩⟩)
  walk_at "ev"
  refine iteB (fun h => ?_) fun h => ?_
  · walk_at "ev"
    have h2 : ws.idxOf b ≤ ws.idxOf c := by have := of_decide_eq_true h; omega
    have e : plainT ws (a, b, c) = (a, b, c) := if_pos h2
    rw [e] at q
    exact q
  · walk_at "ev"
    have h2 : ¬ ws.idxOf b ≤ ws.idxOf c := by have := of_decide_eq_false h; omega
    have e : plainT ws (a, b, c) = (a, c, b) := if_neg h2
    rw [e] at q
    exact q
/-- what stands in a drawn rule: its labels, its triples -/
def specD (ws : List Str) (ts : List Tr) : D := .lst [.lst (ws.map D.str), .lst (ts.map t3)]
def F_lrule (C : Addr) : Fn := ⟨fun ds Q => ∃ (ws : List Str) (ts : List Tr), ds = [specD ws ts] ∧ GoodWs ws ∧ (∀ t ∈ ts, inT ws t) ∧ ts.length ≤ 100000 ∧
  ∀ kn : List (List Key × D), (∀ t, (valD kn (k3 t)).isSome = decide (t ∈ ts.map (plainT ws))) → NoFs (kn.map Prod.snd) → Q (ruleD C ws kn ((cube ws).filter fun t => decide (t ∈ ts.map (plainT ws)))), fun _ _ _ h ⟨ws, ts, e, g, i, z, q⟩ => ⟨ws, ts, e, g, i, z, fun kn hk nf => h _ (q kn hk nf)⟩⟩
/-- the steps within a set of labels, as the laws list them -/
def lstepsL (ts : List Tr) (ws : List Str) : List (Str × Str) := ts.flatMap fun t => if t.1 ∈ ws ∧ t.2.1 ∈ ws ∧ t.2.2 ∈ ws then [(t.1, t.2.1), (t.1, t.2.2)] else []
/-- the pairs in rising order -/
def risL (ws : List Str) (ps : List (Str × Str)) : List (Str × Str) := ws.flatMap fun a => (ws.filter fun b => decide ((a, b) ∈ ps)).map fun b => (a, b)
/-- the known kinds: how many labels, which places -/
def menuL : List (Nat × List (Nat × Nat × Nat)) := [(3, [(0, 1, 1), (0, 1, 2), (0, 2, 2), (1, 0, 0), (1, 0, 2), (1, 2, 2), (2, 0, 0), (2, 0, 1), (2, 1, 1)]), (2, [(0, 1, 1), (1, 0, 0)]), (4, [(0, 0, 1), (1, 2, 2), (2, 3, 3), (3, 2, 2)]), (4, [(0, 0, 1), (2, 3, 3), (3, 2, 2)]), (3, [(0, 1, 1), (1, 2, 2)]), (2, [(0, 0, 0), (0, 0, 1), (0, 1, 1), (1, 0, 0), (1, 0, 1), (1, 1, 1)]), (3, [(0, 1, 1), (1, 0, 2), (2, 0, 0)]), (1, []), (1, [(0, 0, 0)]), (2, [(0, 0, 1), (0, 1, 1), (1, 0, 0), (1, 0, 1)]), (4, [(0, 0, 0), (1, 1, 2), (2, 1, 1), (3, 0, 1)]), (3, [(0, 1, 1), (1, 2, 2), (2, 0, 0)]), (5, [(0, 0, 1), (1, 2, 2), (2, 3, 3), (3, 2, 2), (4, 0, 4)]), (5, [(0, 1, 1), (1, 0, 0), (2, 0, 3), (3, 4, 4)]), (5, [(0, 0, 1), (1, 2, 2), (1, 2, 4), (2, 2, 4), (2, 3, 3), (3, 2, 2)])]
def i3 (t : Nat × Nat × Nat) : D := .tup [.int (t.1 : Nat), .int (t.2.1 : Nat), .int (t.2.2 : Nat)]
def menuD (r : Nat × List (Nat × Nat × Nat)) : D := .tup [.int (r.1 : Nat), .lst (r.2.map i3)]
def F_menu : Fn := ⟨fun ds Q => ∃ k : Int, ds = [.int k] ∧ 0 ≤ k ∧ k < 15 ∧ ∀ r ∈ menuL, Q (menuD r), fun _ _ _ h ⟨k, e, a, b, q⟩ => ⟨k, e, a, b, fun r hr => h _ (q r hr)⟩⟩
theorem h__law_menu (T : Hd K mg) : Has P w K mg base "_law_menu" 1 P__law_menu (spF (S0 K) F_menu) := by
  refine has_ofD T.d__law_menu T.g__law_menu sc__law_menu (fun _ _ _ _ _ _ us hl => match us, hl with | [_], _ => rfl) (fun ds R ⟨_, e, _⟩ => by rw [e]; rfl) fun f cdv A outer s H E hr => ?_
  refine ⟨_, (pss_cons (ps_set (i := 1) sc__law_menu.nd rfl (Or.inl rfl) (pe_lst (pa_cons (pe_tup (pa_cons pe_int (pa_cons (pe_lst (pa_cons (pe_tup (pa_cons pe_int (pa_cons pe_int (pa_cons pe_int pa_nil)))) (pa_cons (pe_tup (pa_cons pe_int (pa_cons pe_int (pa_cons pe_int pa_nil)))) (pa_cons (pe_tup (pa_cons pe_int (pa_cons pe_int (pa_cons pe_int pa_nil)))) (pa_cons (pe_tup (pa_cons pe_int (pa_cons pe_int (pa_cons pe_int pa_nil)))) (pa_cons (pe_tup (pa_cons pe_int (pa_cons pe_int (pa_cons pe_int pa_nil)))) (pa_cons (pe_tup (pa_cons pe_int (pa_cons pe_int (pa_cons pe_int pa_nil)))) (pa_cons (pe_tup (pa_cons pe_int (pa_cons pe_int (pa_cons pe_int pa_nil)))) (pa_cons (pe_tup (pa_cons pe_int (pa_cons pe_int (pa_cons pe_int pa_nil)))) (pa_cons (pe_tup (pa_cons pe_int (pa_cons pe_int (pa_cons pe_int pa_nil)))) pa_nil)))))))))) pa_nil))) (pa_cons (pe_tup (pa_cons pe_int (pa_cons (pe_lst (pa_cons (pe_tup (pa_cons pe_int (pa_cons pe_int (pa_cons pe_int pa_nil)))) (pa_cons (pe_tup (pa_cons pe_int (pa_cons pe_int (pa_cons pe_int pa_nil)))) pa_nil))) pa_nil))) (pa_cons (pe_tup (pa_cons pe_int (pa_cons (pe_lst (pa_cons (pe_tup (pa_cons pe_int (pa_cons pe_int (pa_cons pe_int pa_nil)))) (pa_cons (pe_tup (pa_cons pe_int (pa_cons pe_int (pa_cons pe_int pa_nil)))) (pa_cons (pe_tup (pa_cons pe_int (pa_cons pe_int (pa_cons pe_int pa_nil)))) (pa_cons (pe_tup (pa_cons pe_int (pa_cons pe_int (pa_cons pe_int pa_nil)))) pa_nil))))) pa_nil))) (pa_cons (pe_tup (pa_cons pe_int (pa_cons (pe_lst (pa_cons (pe_tup (pa_cons pe_int (pa_cons pe_int (pa_cons pe_int pa_nil)))) (pa_cons (pe_tup (pa_cons pe_int (pa_cons pe_int (pa_cons pe_int pa_nil)))) (pa_cons (pe_tup (pa_cons pe_int (pa_cons pe_int (pa_cons pe_int pa_nil)))) pa_nil)))) pa_nil))) (pa_cons (pe_tup (pa_cons pe_int (pa_cons (pe_lst (pa_cons (pe_tup (pa_cons pe_int (pa_cons pe_int (pa_cons pe_int pa_nil)))) (pa_cons (pe_tup (pa_cons pe_int (pa_cons pe_int (pa_cons pe_int pa_nil)))) pa_nil))) pa_nil))) (pa_cons (pe_tup (pa_cons pe_int (pa_cons (pe_lst (pa_cons (pe_tup (pa_cons pe_int (pa_cons pe_int (pa_cons pe_int pa_nil)))) (pa_cons (pe_tup (pa_cons pe_int (pa_cons pe_int (pa_cons pe_int pa_nil)))) (pa_cons (pe_tup (pa_cons pe_int (pa_cons pe_int (pa_cons pe_int pa_nil)))) (pa_cons (pe_tup (pa_cons pe_int (pa_cons pe_int (pa_cons pe_int pa_nil)))) (pa_cons (pe_tup (pa_cons pe_int (pa_cons pe_int (pa_cons pe_int pa_nil)))) (pa_cons (pe_tup (pa_cons pe_int (pa_cons pe_int (pa_cons pe_int pa_nil)))) pa_nil))))))) pa_nil))) (pa_cons (pe_tup (pa_cons pe_int (pa_cons (pe_lst (pa_cons (pe_tup (pa_cons pe_int (pa_cons pe_int (pa_cons pe_int pa_nil)))) (pa_cons (pe_tup (pa_cons pe_int (pa_cons pe_int (pa_cons pe_int pa_nil)))) (pa_cons (pe_tup (pa_cons pe_int (pa_cons pe_int (pa_cons pe_int pa_nil)))) pa_nil)))) pa_nil))) (pa_cons (pe_tup (pa_cons pe_int (pa_cons (pe_lst pa_nil) pa_nil))) (pa_cons (pe_tup (pa_cons pe_int (pa_cons (pe_lst (pa_cons (pe_tup (pa_cons pe_int (pa_cons pe_int (pa_cons pe_int pa_nil)))) pa_nil)) pa_nil))) (pa_cons (pe_tup (pa_cons pe_int (pa_cons (pe_lst (pa_cons (pe_tup (pa_cons pe_int (pa_cons pe_int (pa_cons pe_int pa_nil)))) (pa_cons (pe_tup (pa_cons pe_int (pa_cons pe_int (pa_cons pe_int pa_nil)))) (pa_cons (pe_tup (pa_cons pe_int (pa_cons pe_int (pa_cons pe_int pa_nil)))) (pa_cons (pe_tup (pa_cons pe_int (pa_cons pe_int (pa_cons pe_int pa_nil)))) pa_nil))))) pa_nil))) (pa_cons (pe_tup (pa_cons pe_int (pa_cons (pe_lst (pa_cons (pe_tup (pa_cons pe_int (pa_cons pe_int (pa_cons pe_int pa_nil)))) (pa_cons (pe_tup (pa_cons pe_int (pa_cons pe_int (pa_cons pe_int pa_nil)))) (pa_cons (pe_tup (pa_cons pe_int (pa_cons pe_int (pa_cons pe_int pa_nil)))) (pa_cons (pe_tup (pa_cons pe_int (pa_cons pe_int (pa_cons pe_int pa_nil)))) pa_nil))))) pa_nil))) (pa_cons (pe_tup (pa_cons pe_int (pa_cons (pe_lst (pa_cons (pe_tup (pa_cons pe_int (pa_cons pe_int (pa_cons pe_int pa_nil)))) (pa_cons (pe_tup (pa_cons pe_int (pa_cons pe_int (pa_cons pe_int pa_nil)))) (pa_cons (pe_tup (pa_cons pe_int (pa_cons pe_int (pa_cons pe_int pa_nil)))) pa_nil)))) pa_nil))) (pa_cons (pe_tup (pa_cons pe_int (pa_cons (pe_lst (pa_cons (pe_tup (pa_cons pe_int (pa_cons pe_int (pa_cons pe_int pa_nil)))) (pa_cons (pe_tup (pa_cons pe_int (pa_cons pe_int (pa_cons pe_int pa_nil)))) (pa_cons (pe_tup (pa_cons pe_int (pa_cons pe_int (pa_cons pe_int pa_nil)))) (pa_cons (pe_tup (pa_cons pe_int (pa_cons pe_int (pa_cons pe_int pa_nil)))) (pa_cons (pe_tup (pa_cons pe_int (pa_cons pe_int (pa_cons pe_int pa_nil)))) pa_nil)))))) pa_nil))) (pa_cons (pe_tup (pa_cons pe_int (pa_cons (pe_lst (pa_cons (pe_tup (pa_cons pe_int (pa_cons pe_int (pa_cons pe_int pa_nil)))) (pa_cons (pe_tup (pa_cons pe_int (pa_cons pe_int (pa_cons pe_int pa_nil)))) (pa_cons (pe_tup (pa_cons pe_int (pa_cons pe_int (pa_cons pe_int pa_nil)))) (pa_cons (pe_tup (pa_cons pe_int (pa_cons pe_int (pa_cons pe_int pa_nil)))) pa_nil))))) pa_nil))) (pa_cons (pe_tup (pa_cons pe_int (pa_cons (pe_lst (pa_cons (pe_tup (pa_cons pe_int (pa_cons pe_int (pa_cons pe_int pa_nil)))) (pa_cons (pe_tup (pa_cons pe_int (pa_cons pe_int (pa_cons pe_int pa_nil)))) (pa_cons (pe_tup (pa_cons pe_int (pa_cons pe_int (pa_cons pe_int pa_nil)))) (pa_cons (pe_tup (pa_cons pe_int (pa_cons pe_int (pa_cons pe_int pa_nil)))) (pa_cons (pe_tup (pa_cons pe_int (pa_cons pe_int (pa_cons pe_int pa_nil)))) (pa_cons (pe_tup (pa_cons pe_int (pa_cons pe_int (pa_cons pe_int pa_nil)))) pa_nil))))))) pa_nil))) pa_nil)))))))))))))))))
      (pss_one (ps_ret (pe_ix (R.ix_seq K) (pv 1) (pv 0) (fun _ _ => rfl))))), ?_⟩
  rintro ds R ⟨k, rfl, h0, h1, q⟩
  walk_at "ev"
  obtain ⟨r, hr, e⟩ := get_int (xs := menuL) h0 (show k < 15 from h1)
  refine rvr_ixq_l (d := menuD r) ?_ (q r hr)
  have e2 : atI (menuL.map menuD) k = some (menuD r) := by
    unfold atI at e ⊢
    rw [List.length_map]
    cases h : ixN menuL.length k with
    | none => rw [h] at e; cases e
    | some j =>
      rw [h] at e
      show (menuL.map menuD)[j]? = _
      rw [List.getElem?_map, show menuL[j]? = some r from e]
      rfl
  exact e2
/-! ### drawn rules: labels, and some of their plain triples -/
structure GoodSpec (ws : List Str) (ts : List Tr) : Prop where
  g : GoodWs ws
  sub : ts.Sublist (formsL ws)
theorem forms_in {ws : List Str} {t : Tr} (h : t ∈ formsL ws) : inT ws t := by
  obtain ⟨a, ha, h⟩ := List.mem_flatMap.mp h
  obtain ⟨b, hb, h⟩ := List.mem_flatMap.mp h
  obtain ⟨c, hc, rfl⟩ := List.mem_map.mp h
  have hb' := List.mem_range.mp hb
  refine ⟨ha, ?_, List.mem_of_mem_drop hc⟩
  show ws.getD b "" ∈ ws
  rw [List.getD_eq_getElem?_getD, List.getElem?_eq_getElem hb']
  exact List.getElem_mem hb'
theorem formsL_len {ws : List Str} (h : ws.length ≤ 5) : (formsL ws).length ≤ 125 := Nat.le_trans (flatMap_len fun a _ => rowsF_len h a _ (Nat.le_refl _)) (by omega)
theorem GoodSpec.inn {ws : List Str} {ts : List Tr} (h : GoodSpec ws ts) : ∀ t ∈ ts, inT ws t := fun t ht => forms_in (h.sub.subset ht)
theorem GoodSpec.len {ws : List Str} {ts : List Tr} (h : GoodSpec ws ts) : ts.length ≤ 125 := Nat.le_trans h.sub.length_le (formsL_len h.g.hi)
theorem perm_strs {ws : List Str} {ys : List D} (h : ys.Perm (ws.map D.str)) : ∃ vs : List Str, ys = vs.map D.str ∧ vs.Perm ws := by
  refine ⟨ys.map strOf, ?_, ?_⟩
  · rw [List.map_map]
    have : ∀ y ∈ ys, (D.str ∘ strOf) y = y := fun y hy => by
      obtain ⟨x, _, rfl⟩ := List.mem_map.mp (h.mem_iff.mp hy)
      rfl
    rw [List.map_congr_left this, List.map_id']
  · have h2 := h.map strOf
    rw [List.map_map] at h2
    have e : (strOf ∘ D.str) = id := rfl
    rw [e, List.map_id] at h2
    exact h2
theorem GoodWs.perm {ws vs : List Str} (h : GoodWs ws) (p : vs.Perm ws) : GoodWs vs := ⟨p.nodup_iff.mpr h.nd, by rw [p.length_eq]; exact h.lo, by rw [p.length_eq]; exact h.hi, fun x hx => h.good x (p.mem_iff.mp hx), fun ⟨a, b⟩ => h.far ⟨p.mem_iff.mp a, p.mem_iff.mp b⟩⟩
def tm3 (p : Tr) : NB.Tm := NB.Tm.t [NB.Tm.s p.1, NB.Tm.s p.2.1, NB.Tm.s p.2.2]
theorem tm3_D (l : List Tr) : l.map t3 = tDs (l.map tm3) := by
  rw [tDs_map, List.map_map]
  rfl
theorem tm3_mem {p : Tr} {l : List Tr} : tm3 p ∈ l.map tm3 ↔ p ∈ l := by
  constructor
  · intro h
    obtain ⟨q, hq, e⟩ := List.mem_map.mp h
    obtain ⟨a, b, c⟩ := p
    obtain ⟨a', b', c'⟩ := q
    simp only [tm3, NB.Tm.t.injEq, List.cons.injEq, NB.Tm.s.injEq, and_true] at e
    obtain ⟨rfl, rfl, rfl⟩ := e
    exact hq
  · exact fun h => List.mem_map.mpr ⟨p, h, rfl⟩
theorem tm3_lay {p : Tr} (h1 : GoodL p.1) (h2 : GoodL p.2.1) (h3 : GoodL p.2.2) : Lay 1 (tm3 p) := lay_t fun a m => by
  simp only [List.mem_cons, List.not_mem_nil, or_false] at m
  rcases m with rfl | rfl | rfl
  · exact good_lay h1 0
  · exact good_lay h2 0
  · exact good_lay h3 0
theorem in_trips {K : PySem.W.Frag} {Q : D → Prop} {ws : List Str} (g : GoodWs ws) {p : Tr} {l : List Tr} {ys : List D} (hy : ys = l.map t3) (h1 : inT ws p) (hl : ∀ q ∈ l, inT ws q) (q : Q (.bl (decide (p ∈ l)))) : RvR K (rInD K) (t3 p) (.lst ys) Q :=
  have lay : ∀ t : Tr, inT ws t → Lay 1 (tm3 t) := fun t h => tm3_lay (g.good _ h.1) (g.good _ h.2.1) (g.good _ h.2.2)
  rvr_inD (a := tm3 p) (l := l.map tm3) rfl (by rw [hy, tm3_D]) (lay p h1) (lay_l (n := 1) fun a m => by
    obtain ⟨q, hq, rfl⟩ := List.mem_map.mp m
    exact lay q (hl q hq)) (by decide) (by decide) fun r hr => by
    have e : r = decide (p ∈ l) := by
      rw [Bool.eq_iff_iff, hr, tm3_mem, decide_eq_true_eq]
    rw [e]; exact q
theorem plainT_in {ws : List Str} {t : Tr} (h : inT ws t) : inT ws (plainT ws t) := by
  unfold plainT
  split
  · exact h
  · exact ⟨h.1, h.2.2, h.2.1⟩
theorem menu_facts : ∀ r ∈ menuL, 1 ≤ r.1 ∧ r.1 ≤ 5 ∧ r.2.length ≤ 20 ∧ ∀ t ∈ r.2, t.1 < r.1 ∧ t.2.1 < r.1 ∧ t.2.2 < r.1 := by decide +kernel

/-! ### drawn rules, as the laws draw them -/
def F_placed (pc : Addr × Addr) : Fn := ⟨fun ds Q => ∃ k : Int, ds = [.loc pc.1, .int k] ∧ 0 ≤ k ∧ k < 15 ∧ ∀ (ws : List Str) (ts : List Tr) (ws0 : List Str), GoodSpec ws ts → Q (.lst [.lst (ws.map D.str), .lst (ts.map t3), .lst (ws0.map D.str)]), fun _ _ _ h ⟨k, e, a, b, q⟩ => ⟨k, e, a, b, fun ws ts ws0 g => h _ (q ws ts ws0 g)⟩⟩
theorem h__law_placed (T : Hd K mg) : Has P w K mg base "_law_placed" 4 P__law_placed (spT (ST K) F_placed) := by
  have h__law_menu : Has P w K mg base "_law_menu" 1 P__law_menu (spF (S0 K) F_menu) := h__law_menu T
  have h__law_names : Has P w K mg base "_law_names" 3 P__law_names (spT (ST K) F_names) := h__law_names T
  have h__law_mixed : Has P w K mg base "_law_mixed" 2 P__law_mixed (spT (ST K) F_mixed) := h__law_mixed T
  have h__law_plain : Has P w K mg base "_law_plain" 1 P__law_plain (spF (S0 K) F_lplain) := h__law_plain T
  have h__law_forms : Has P w K mg base "_law_forms" 1 P__law_forms (spF (S0 K) F_forms) := h__law_forms T
  refine has_ofT T.d__law_placed T.g__law_placed sc__law_placed (fun _ _ _ _ _ _ us hl => match us, hl with | [_, _], _ => rfl) (fun p ds R ⟨_, e, _⟩ => by rw [e]; rfl) fun f cdv A outer s H E hr => ?_
  refine ⟨_, (pss_cons (ps_asg (pe_has h__law_menu hr (pa_cons (pv 1) pa_nil)) (R.pg_tup K (n := 2) (pgs_cons (pg_name (i := 2) sc__law_placed.nd rfl (by first | exact Or.inl rfl | exact Or.inr rfl)) (pgs_cons (pg_name (i := 3) sc__law_placed.nd rfl (by first | exact Or.inl rfl | exact Or.inr rfl)) pgs_nil))))
      (pss_cons (ps_set (i := 4) sc__law_placed.nd rfl (Or.inr rfl) (pe_has h__law_names hr (pa_cons (pv 0) (pa_cons (pv 2) pa_nil))))
      (pss_cons (ps_set (i := 5) sc__law_placed.nd rfl (Or.inr rfl) (pe_has h__law_mixed hr (pa_cons (pv 0) (pa_cons (pv 4) pa_nil))))
      (pss_cons (ps_set (i := 6) sc__law_placed.nd rfl (Or.inr rfl) (pe_lc (own := [("_law_a", 7), ("_law_b", 8), ("_law_c", 9)]) rfl sc__law_placed.nd (R.pi_list K (pv 3)) (blkOk_by (N := N__law_placed) (sc := (defScope s__law_placed)) (by decide +kernel)) (fun _ _ _ _ _ => (R.pg_tup K (n := 3) (pgs_cons (pg_name (i := 7) sc__law_placed.nd rfl (by first | exact Or.inl rfl | exact Or.inr rfl)) (pgs_cons (pg_name (i := 8) sc__law_placed.nd rfl (by first | exact Or.inl rfl | exact Or.inr rfl)) (pgs_cons (pg_name (i := 9) sc__law_placed.nd rfl (by first | exact Or.inl rfl | exact Or.inr rfl)) pgs_nil))))) (fun _ _ _ _ _ => pts_nil) (fun _ _ _ _ _ => (pe_has h__law_plain hr (pa_cons (pv 5) (pa_cons (pe_tup (pa_cons (pe_ix (R.ix_seq K) (pv 4) (pv 7) (fun _ _ => rfl)) (pa_cons (pe_ix (R.ix_seq K) (pv 4) (pv 8) (fun _ _ => rfl)) (pa_cons (pe_ix (R.ix_seq K) (pv 4) (pv 9) (fun _ _ => rfl)) pa_nil)))) pa_nil))))))
      (pss_one (ps_ret (pe_lst (pa_cons (pv 5) (pa_cons (pe_lc (own := [("_law_form", 10)]) rfl sc__law_placed.nd (R.pi_list K (pe_has h__law_forms hr (pa_cons (pv 5) pa_nil))) (blkOk_by (N := N__law_placed) (sc := (defScope s__law_placed)) (by decide +kernel)) (fun _ _ _ _ _ => (pg_name (i := 10) sc__law_placed.nd rfl (by first | exact Or.inl rfl | exact Or.inr rfl))) (fun _ _ _ _ _ => (pts_one (pt_cmpR (R.op_inD K (un65 hr)) (pv 10) (pv 6) (rfl)))) (fun _ _ _ _ _ => (pv 10))) (pa_cons (pv 4) pa_nil)))))))))), ?_⟩
  rintro ⟨p, c⟩ ds R ⟨k, rfl, k0, k1, q⟩
  refine run_seq (run_asg (vs := List.range 64) (ev_call0 (eva_cons (ev_var (by rfl) (eva_nil ⟨k, rfl, k0, k1, fun r hr => ?_⟩)))))
  obtain ⟨m1, m2, m3, m4⟩ := menu_facts r hr
  show EvG _ _ _ _ (.tup [.int (r.1 : Nat), .lst (r.2.map i3)]) _
  refine evg_tup rfl (evgs_cons (evg_name (by decide) (evgs_cons (evg_name (by decide) (evgs_nil ?_)))))
  refine run_seq (run_set (ev_callT (eva_cons (ev_var (by rfl) (eva_cons (ev_var (by rfl) (eva_nil ⟨r.1, rfl, by omega, fun ws0 w1 w2 w3 w4 => ?_⟩)))))))
  have g0 : GoodWs ws0 := ⟨w2, by omega, by omega, w3, w4⟩
  refine run_seq (run_set (ev_callT (eva_cons (ev_var (by rfl) (eva_cons (ev_var (by rfl) (eva_nil ⟨_, rfl, by rw [List.length_map]; omega, fun ys hy => ?_⟩)))))))
  obtain ⟨ws, rfl, hp⟩ := perm_strs hy
  have g : GoodWs ws := g0.perm hp
  have at0 : ∀ i, i < r.1 → (ws0.map D.str)[i]? = some (.str (ws0.getD i "")) ∧ ws0.getD i "" ∈ ws := fun i hi => by
    have hi' : i < ws0.length := by omega
    refine ⟨?_, hp.mem_iff.mpr ?_⟩
    · rw [List.getElem?_map, List.getElem?_eq_getElem hi', List.getD_eq_getElem?_getD, List.getElem?_eq_getElem hi']; rfl
    · rw [List.getD_eq_getElem?_getD, List.getElem?_eq_getElem hi']; exact List.getElem_mem hi'
  have tin : ∀ t ∈ r.2, inT ws (ws0.getD t.1 "", ws0.getD t.2.1 "", ws0.getD t.2.2 "") := fun t ht => ⟨(at0 _ (m4 t ht).1).2, (at0 _ (m4 t ht).2.1).2, (at0 _ (m4 t ht).2.2).2⟩
  refine run_seq (run_set (ev_lcG (evi_list (ev_var (by rfl) ⟨_, rfl, lc_map (l := r.2) i3 (fun t => t3 (plainT ws (ws0.getD t.1 "", ws0.getD t.2.1 "", ws0.getD t.2.2 ""))) (szs (by omega)) (fun t ht => ?_) ?_⟩))))
  · show EvG _ _ _ _ (.tup [.int (t.1 : Nat), .int (t.2.1 : Nat), .int (t.2.2 : Nat)]) _
    refine evg_tup rfl (evgs_cons (evg_name (by decide) (evgs_cons (evg_name (by decide) (evgs_cons (evg_name (by decide) (evgs_nil ?_)))))))
    have z1 := (at0 _ (m4 t ht).1).1
    have z2 := (at0 _ (m4 t ht).2.1).1
    have z3 := (at0 _ (m4 t ht).2.2).1
    exact ev_call0 (eva_cons (ev_var (by rfl) (eva_cons (ev_tup (eva_cons (ev_op (ev_var (by rfl) (ev_var (by rfl) (rvr_ixq_l (atI_ofNat z1) (eva_cons (ev_op (ev_var (by rfl) (ev_var (by rfl) (rvr_ixq_l (atI_ofNat z2) (eva_cons (ev_op (ev_var (by rfl) (ev_var (by rfl) (rvr_ixq_l (atI_ofNat z3) (eva_nil ⟨szr rfl, eva_nil ⟨ws, (_, _, _), rfl, tin t ht, rfl⟩⟩))))))))))))))))))))
  have pin : ∀ q ∈ (r.2.map fun t => plainT ws (ws0.getD t.1 "", ws0.getD t.2.1 "", ws0.getD t.2.2 "")), inT ws q := fun q hq => by
    obtain ⟨t, ht, rfl⟩ := List.mem_map.mp hq
    exact plainT_in (tin t ht)
  have fl := formsL_len g.hi
  refine run_ret (ev_lst (eva_cons (ev_var (by rfl) (eva_cons (ev_lcG (evi_list (ev_call0 (eva_cons (ev_var (by rfl) (eva_nil ⟨ws, rfl, g.hi, _, rfl, lc_filter (l := formsL ws) t3 (fun t => decide (t ∈ r.2.map fun t => plainT ws (ws0.getD t.1 "", ws0.getD t.2.1 "", ws0.getD t.2.2 ""))) t3 (szs (by omega)) (fun t ht => evg_name (by decide) ?_) ?_⟩))))))))))
  · exact evt_test (ev_op (ev_var (by rfl) (ev_var (by rfl) (in_trips g (p := t) (by rw [List.map_map]; rfl) (forms_in ht) pin ⟨_, rfl, rfl, fun _ => ev_var (by rfl) rfl⟩))))
  · exact eva_cons (ev_var (by rfl) (eva_nil ⟨szr rfl, q _ _ _ ⟨g, List.filter_sublist⟩⟩))
def F_known (pc : Addr × Addr) : Fn := ⟨fun ds Q => ∃ k : Int, ds = [.loc pc.1, .int k] ∧ 0 ≤ k ∧ k < 15 ∧ ∀ (ws : List Str) (ts : List Tr), GoodSpec ws ts → Q (specD ws ts), fun _ _ _ h ⟨k, e, a, b, q⟩ => ⟨k, e, a, b, fun ws ts g => h _ (q ws ts g)⟩⟩
theorem h__law_known (T : Hd K mg) : Has P w K mg base "_law_known" 5 P__law_known (spT (ST K) F_known) := by
  have h__law_placed : Has P w K mg base "_law_placed" 4 P__law_placed (spT (ST K) F_placed) := h__law_placed T
  refine has_ofT T.d__law_known T.g__law_known sc__law_known (fun _ _ _ _ _ _ us hl => match us, hl with | [_, _], _ => rfl) (fun p ds R ⟨_, e, _⟩ => by rw [e]; rfl) fun f cdv A outer s H E hr => ?_
  refine ⟨_, (pss_one (ps_ret (pe_slice (R.sl_any K) (pe_has h__law_placed hr (pa_cons (pv 0) (pa_cons (pv 1) pa_nil))) po_none (po_some pe_int)))), ?_⟩
  rintro ⟨p, c⟩ ds R ⟨k, rfl, k0, k1, q⟩
  refine run_ret (ev_sl (ev_callT (eva_cons (ev_var (by rfl) (eva_cons (ev_var (by rfl) (eva_nil ⟨k, rfl, k0, k1, fun ws ts ws0 g => ?_⟩)))))))
  walk_at "ev"
  exact rvs_any_l (q ws ts g)
def F_spec (pc : Addr × Addr) : Fn := ⟨fun ds Q => ds = [.loc pc.1] ∧ ∀ (ws : List Str) (ts : List Tr), GoodSpec ws ts → Q (specD ws ts), fun _ _ _ h ⟨e, q⟩ => ⟨e, fun ws ts g => h _ (q ws ts g)⟩⟩
theorem h__law_spec (T : Hd K mg) : Has P w K mg base "_law_spec" 6 P__law_spec (spT (ST K) F_spec) := by
  have h__law_known : Has P w K mg base "_law_known" 5 P__law_known (spT (ST K) F_known) := h__law_known T
  have h__law_pick : Has P w K mg base "_law_pick" 1 P__law_pick (spT (ST K) F_pick) := h__law_pick T
  have h__law_names : Has P w K mg base "_law_names" 3 P__law_names (spT (ST K) F_names) := h__law_names T
  have h__law_forms : Has P w K mg base "_law_forms" 1 P__law_forms (spF (S0 K) F_forms) := h__law_forms T
  refine has_ofT T.d__law_spec T.g__law_spec sc__law_spec (fun _ _ _ _ _ _ us hl => match us, hl with | [_], _ => rfl) (fun p ds R ⟨e, _⟩ => by rw [e]; rfl) fun f cdv A outer s H E hr => ?_
  refine ⟨_, (pss_cons (ps_if (pt_cmpR op_gt (pe_has h__law_pick hr (pa_cons (pv 0) (pa_cons pe_int pa_nil))) pe_int (nomark _)) (pss_one (ps_ret (pe_has h__law_known hr (pa_cons (pv 0) (pa_cons (pe_has h__law_pick hr (pa_cons (pv 0) (pa_cons pe_int pa_nil))) pa_nil))))) pss_nil)
      (pss_cons (ps_set (i := 1) sc__law_spec.nd rfl (Or.inl rfl) (pe_has h__law_names hr (pa_cons (pv 0) (pa_cons (pe_op (R.op_addX K) pe_int (pe_has h__law_pick hr (pa_cons (pv 0) (pa_cons pe_int pa_nil)))) pa_nil))))
      (pss_cons (ps_set (i := 2) sc__law_spec.nd rfl (Or.inr rfl) (pe_op (R.op_addX K) pe_int (pe_has h__law_pick hr (pa_cons (pv 0) (pa_cons pe_int pa_nil)))))
      (pss_one (ps_ret (pe_lst (pa_cons (pv 1) (pa_cons (pe_lc (own := [("_law_form", 3)]) rfl sc__law_spec.nd (R.pi_list K (pe_has h__law_forms hr (pa_cons (pv 1) pa_nil))) (blkOk_by (N := N__law_spec) (sc := (defScope s__law_spec)) (by decide +kernel)) (fun _ _ _ _ _ => (pg_name (i := 3) sc__law_spec.nd rfl (by first | exact Or.inl rfl | exact Or.inr rfl))) (fun _ _ _ _ _ => (pts_one (pt_cmpR op_eq (pe_has h__law_pick hr (pa_cons (pv 0) (pa_cons (pv 2) pa_nil))) pe_int (nomark _)))) (fun _ _ _ _ _ => (pv 3))) pa_nil)))))))), ?_⟩
  rintro ⟨p, c⟩ ds R ⟨rfl, q⟩
  walk_at "ev"
  refine ⟨3, rfl, by decide, abs_small (n := 3) (by decide), fun k k0 k1 => ?_⟩
  walk_at "ev"
  refine iteB (fun h => ?_) fun h => ?_
  · walk_at "ev"
    refine ⟨15, rfl, by decide, abs_small (n := 15) (by decide), fun k k0 k1 => ?_⟩
    walk_at "ev"
    exact ⟨k, rfl, k0, k1, q⟩
  · walk_at "ev"
    refine ⟨5, rfl, by decide, abs_small (n := 5) (by decide), fun n n0 n1 => ?_⟩
    obtain ⟨n, rfl⟩ : ∃ j : Nat, n = (j : Int) := ⟨n.toNat, by omega⟩
    walk_at "ev"
    refine ⟨1 + n, by rfl, by omega, fun ws w1 w2 w3 w4 => ?_⟩
    have g : GoodWs ws := ⟨w2, by omega, by omega, w3, w4⟩
    walk_at "ev"
    refine ⟨5, rfl, by decide, abs_small (n := 5) (by decide), fun m m0 m1 => ?_⟩
    walk_at "ev"
    refine ⟨ws, rfl, g.hi, _, rfl, ?_⟩
    have fl := formsL_len g.hi
    refine lc_some (l := formsL ws) t3 t3 (szs (by omega)) (fun t ht => evg_name (by decide) ?_) fun ts hs => ?_
    · refine evt_test (ev_op (ev_callT (eva_cons (ev_var (by rfl) (eva_cons (ev_var (by rfl) (eva_nil ⟨2 + m, rfl, by omega, ?_, fun k k0 k1 => ?_⟩)))))))
      · obtain ⟨m, rfl⟩ : ∃ j : Nat, m = (j : Int) := ⟨m.toNat, by omega⟩
        exact abs_small (n := 2 + m) (by omega)
      · walk_at "ev"
        exact fun _ => ev_var (by rfl) rfl
    · walk_at "ev"
      exact q ws ts ⟨g, hs⟩

/-! ### the triples of a drawn rule stand as they are -/
theorem filter_sub {α : Type} [BEq α] [LawfulBEq α] : ∀ {ts l : List α}, ts.Sublist l → l.Nodup → l.filter (fun t => decide (t ∈ ts)) = ts := by
  intro ts l h
  induction h with
  | slnil => intro _; rfl
  | @cons ts l a h ih =>
    intro nd
    have na : a ∉ l := (List.nodup_cons.mp nd).1
    rw [List.filter_cons, if_neg (by simpa using fun m => na (h.subset m))]
    exact ih (List.nodup_cons.mp nd).2
  | @cons_cons ts l a h ih =>
    intro nd
    have na : a ∉ l := (List.nodup_cons.mp nd).1
    rw [List.filter_cons, if_pos (by simp)]
    congr 1
    rw [← ih (List.nodup_cons.mp nd).2]
    refine List.filter_congr fun x hx => ?_
    have : ¬ x = a := fun e => na (e ▸ hx)
    rw [ih (List.nodup_cons.mp nd).2]
    simp [this]
theorem cube_mem {ws : List Str} {t : Tr} : t ∈ cube ws ↔ inT ws t := by
  obtain ⟨a, b, c⟩ := t
  unfold cube inT
  simp only [List.mem_flatMap, List.mem_cons, List.not_mem_nil, or_false, Prod.mk.injEq]
  constructor
  · rintro ⟨a', ha, b', hb, c', hc, rfl, rfl, rfl⟩
    exact ⟨ha, hb, hc⟩
  · rintro ⟨ha, hb, hc⟩
    exact ⟨a, ha, b, hb, c, hc, rfl, rfl, rfl⟩
theorem cube_nodup {ws : List Str} (h : ws.Nodup) : (cube ws).Nodup := by
  unfold cube List.Nodup
  rw [List.pairwise_flatMap]
  refine ⟨fun a _ => ?_, ?_⟩
  · rw [List.pairwise_flatMap]
    refine ⟨fun b _ => ?_, ?_⟩
    · rw [List.pairwise_flatMap]
      refine ⟨fun c _ => List.pairwise_singleton _ _, h.imp fun hab x hx y hy e => ?_⟩
      simp only [List.mem_cons, List.not_mem_nil, or_false] at hx hy
      subst hx hy
      simp only [Prod.mk.injEq, true_and] at e
      exact hab e
    · refine h.imp fun hab x hx y hy e => ?_
      simp only [List.mem_flatMap, List.mem_cons, List.not_mem_nil, or_false] at hx hy
      obtain ⟨c, _, rfl⟩ := hx
      obtain ⟨c', _, rfl⟩ := hy
      simp only [Prod.mk.injEq, true_and] at e
      exact hab e.1
  · refine h.imp fun hab x hx y hy e => ?_
    simp only [List.mem_flatMap, List.mem_cons, List.not_mem_nil, or_false] at hx hy
    obtain ⟨b, _, c, _, rfl⟩ := hx
    obtain ⟨b', _, c', _, rfl⟩ := hy
    simp only [Prod.mk.injEq] at e
    exact hab e.1
theorem flatMap_sub {α β : Type} {f g : α → List β} : ∀ {l : List α}, (∀ a ∈ l, (f a).Sublist (g a)) → (l.flatMap f).Sublist (l.flatMap g)
  | [], _ => .slnil
  | a :: l, h => by
    rw [List.flatMap_cons, List.flatMap_cons]
    exact (h a List.mem_cons_self).append (flatMap_sub fun b m => h b (List.mem_cons_of_mem _ m))
theorem range_getD (ws : List Str) : (List.range ws.length).map (fun b => ws.getD b "") = ws := by
  refine List.ext_getElem? fun i => ?_
  rw [List.getElem?_map]
  by_cases h : i < ws.length
  · rw [List.getElem?_range h]
    simp [h]
  · rw [List.getElem?_eq_none (by rw [List.length_range]; omega), List.getElem?_eq_none (by omega)]
    rfl
theorem forms_cube (ws : List Str) : (formsL ws).Sublist (cube ws) := by
  unfold formsL cube
  refine flatMap_sub fun a _ => ?_
  have e : (ws.flatMap fun b => ws.flatMap fun c => [((a, b, c) : Tr)]) = (List.range ws.length).flatMap fun b => ws.flatMap fun c => [((a, ws.getD b "", c) : Tr)] := by
    conv => lhs; rw [← range_getD ws]
    rw [List.flatMap_map, range_getD]
  rw [e]
  refine flatMap_sub fun b _ => ?_
  unfold rowF
  have e2 : (ws.flatMap fun c => [((a, ws.getD b "", c) : Tr)]) = ws.map fun c => (a, ws.getD b "", c) := List.map_eq_flatMap.symm
  rw [e2]
  exact (List.drop_sublist _ _).map _
theorem forms_plain {ws : List Str} (nd : ws.Nodup) {t : Tr} (h : t ∈ formsL ws) : plainT ws t = t := by
  obtain ⟨a, ha, h⟩ := List.mem_flatMap.mp h
  obtain ⟨b, hb, h⟩ := List.mem_flatMap.mp h
  obtain ⟨c, hc, rfl⟩ := List.mem_map.mp h
  have hb' := List.mem_range.mp hb
  refine if_pos ?_
  show ws.idxOf (ws.getD b "") ≤ ws.idxOf c
  obtain ⟨j, hj, e⟩ := List.mem_iff_getElem.mp hc
  rw [List.getElem_drop] at e
  rw [List.length_drop] at hj
  have e1 : ws.getD b "" = ws[b] := by rw [List.getD_eq_getElem?_getD, List.getElem?_eq_getElem hb']; rfl
  rw [e1, ← e, nd.idxOf_getElem, nd.idxOf_getElem]
  omega
theorem GoodSpec.plain {ws : List Str} {ts : List Tr} (h : GoodSpec ws ts) : ts.map (plainT ws) = ts := by
  have : ∀ t ∈ ts, plainT ws t = id t := fun t ht => forms_plain h.g.nd (h.sub.subset ht)
  rw [List.map_congr_left this, List.map_id]
theorem GoodSpec.os {ws : List Str} {ts : List Tr} (h : GoodSpec ws ts) : (cube ws).filter (fun t => decide (t ∈ ts.map (plainT ws))) = ts := by
  rw [h.plain]
  exact filter_sub (h.sub.trans (forms_cube ws)) (cube_nodup h.g.nd)
theorem GoodSpec.nd {ws : List Str} {ts : List Tr} (h : GoodSpec ws ts) : ts.Nodup := (h.sub.trans (forms_cube ws)).nodup (cube_nodup h.g.nd)
theorem below_mem {os : List Tr} {a b : Str} : b ∈ belowL os a ↔ ∃ t ∈ os, t.1 = a ∧ (b = t.2.1 ∨ b = t.2.2) := by
  unfold belowL pairsOf
  simp only [List.mem_flatMap, List.mem_map, List.mem_filter, List.mem_cons, List.not_mem_nil, or_false, decide_eq_true_eq]
  constructor
  · rintro ⟨p, ⟨t, ⟨h1, h2⟩, rfl⟩, h3⟩
    exact ⟨t, h1, h2, h3⟩
  · rintro ⟨t, h1, h2, h3⟩
    exact ⟨_, ⟨t, ⟨h1, h2⟩, rfl⟩, h3⟩
theorem lsteps_mem {ws : List Str} {ts : List Tr} {a b : Str} : (a, b) ∈ lstepsL ts ws ↔ ∃ t ∈ ts, inT ws t ∧ t.1 = a ∧ (b = t.2.1 ∨ b = t.2.2) := by
  unfold lstepsL
  rw [List.mem_flatMap]
  constructor
  · rintro ⟨t, ht, h⟩
    by_cases c : t.1 ∈ ws ∧ t.2.1 ∈ ws ∧ t.2.2 ∈ ws
    · rw [if_pos c] at h
      simp only [List.mem_cons, List.not_mem_nil, or_false, Prod.mk.injEq] at h
      rcases h with ⟨rfl, rfl⟩ | ⟨rfl, rfl⟩
      · exact ⟨t, ht, c, rfl, .inl rfl⟩
      · exact ⟨t, ht, c, rfl, .inr rfl⟩
    · rw [if_neg c] at h; cases h
  · rintro ⟨t, ht, c, rfl, h⟩
    refine ⟨t, ht, ?_⟩
    rw [if_pos (show t.1 ∈ ws ∧ t.2.1 ∈ ws ∧ t.2.2 ∈ ws from c)]
    rcases h with rfl | rfl <;> simp
theorem ris_steps {ws : List Str} {ts : List Tr} (h : ∀ t ∈ ts, inT ws t) : risL ws (lstepsL ts ws) = stepsL ws ts := by
  unfold risL stepsL rowL
  have e : ∀ a b, decide ((a, b) ∈ lstepsL ts ws) = decide (b ∈ belowL ts a) := fun a b => by
    rw [decide_eq_decide, below_mem, lsteps_mem]
    exact ⟨fun ⟨t, h1, _, h2⟩ => ⟨t, h1, h2⟩, fun ⟨t, h1, h2⟩ => ⟨t, h1, h t h1, h2⟩⟩
  simp only [e]
theorem steps_iff {ws : List Str} {ts : List Tr} (h : ∀ t ∈ ts, inT ws t) {p : Str × Str} : p ∈ stepsL ws ts ↔ p ∈ lstepsL ts ws := by
  rw [← ris_steps h]
  unfold risL
  simp only [List.mem_flatMap, List.mem_map, List.mem_filter, decide_eq_true_eq]
  constructor
  · rintro ⟨a, _, b, ⟨_, m⟩, rfl⟩
    exact m
  · intro m
    obtain ⟨t, h1, h2, h3, h4⟩ := lsteps_mem (a := p.1) (b := p.2).mp m
    refine ⟨p.1, h3 ▸ h2.1, p.2, ⟨?_, m⟩, rfl⟩
    rcases h4 with e | e
    · rw [e]; exact h2.2.1
    · rw [e]; exact h2.2.2
theorem lsteps_good {ws : List Str} {ts : List Tr} (g : GoodWs ws) : ∀ q ∈ lstepsL ts ws, GoodL q.1 ∧ GoodL q.2 := fun q hq => by
  obtain ⟨t, h1, h2, h3, h4⟩ := lsteps_mem (a := q.1) (b := q.2).mp hq
  refine ⟨g.good _ (h3 ▸ h2.1), ?_⟩
  rcases h4 with e | e
  · rw [e]; exact g.good _ h2.2.1
  · rw [e]; exact g.good _ h2.2.2
/-- the promise of a drawn rule, said by its own triples -/
theorem lrule_good {C : Addr} {ws : List Str} {ts : List Tr} {Q : D → Prop} (h : GoodSpec ws ts) (q : ∀ kn, (∀ t, (valD kn (k3 t)).isSome = decide (t ∈ ts)) → Q (ruleD C ws kn ts)) : (F_lrule C).f [specD ws ts] Q := by
  refine ⟨ws, ts, rfl, h.g, h.inn, Nat.le_trans h.len (by decide), fun kn hk nf => ?_⟩
  rw [h.os]
  rw [h.plain] at hk
  exact q kn hk
theorem lrule_goodN {C : Addr} {ws : List Str} {ts : List Tr} {Q : D → Prop} (h : GoodSpec ws ts) (q : ∀ kn : List (List Key × D), (∀ t, (valD kn (k3 t)).isSome = decide (t ∈ ts)) → NoFs (kn.map Prod.snd) → Q (ruleD C ws kn ts)) : (F_lrule C).f [specD ws ts] Q := by
  refine ⟨ws, ts, rfl, h.g, h.inn, Nat.le_trans h.len (by decide), fun kn hk nf => ?_⟩
  rw [h.os]
  rw [h.plain] at hk
  exact q kn hk nf

/-! ### Rule.__eq__ -/
theorem tmS_D (l : List Str) : D.lst (l.map D.str) = tD (.l (l.map NB.Tm.s)) := by
  show _ = D.lst (tDs _)
  rw [tDs_map, List.map_map]
  rfl
theorem tm3L_D (l : List Tr) : D.lst (l.map t3) = tD (.l (l.map tm3)) := by
  show _ = D.lst (tDs _)
  rw [tm3_D]
theorem tmS_inj {a b : List Str} : NB.Tm.l (a.map NB.Tm.s) = .l (b.map NB.Tm.s) ↔ a = b := by
  constructor
  · intro h
    injection h with h
    exact List.map_inj_right (fun x y e => by injection e) |>.mp h
  · exact fun h => by rw [h]
theorem tm3_inj {p q : Tr} (h : tm3 p = tm3 q) : p = q := by
  obtain ⟨a, b, c⟩ := p
  obtain ⟨a', b', c'⟩ := q
  simp only [tm3, NB.Tm.t.injEq, List.cons.injEq, NB.Tm.s.injEq, and_true] at h
  obtain ⟨rfl, rfl, rfl⟩ := h
  rfl
theorem tm3L_inj {a b : List Tr} : NB.Tm.l (a.map tm3) = .l (b.map tm3) ↔ a = b := by
  constructor
  · intro h
    injection h with h
    exact List.map_inj_right (fun x y e => tm3_inj e) |>.mp h
  · exact fun h => by rw [h]
theorem tmS_lay {l : List Str} (h : ∀ x ∈ l, GoodL x) : Lay 1 (.l (l.map NB.Tm.s)) := lay_l fun a m => by
  obtain ⟨x, hx, rfl⟩ := List.mem_map.mp m
  exact good_lay (h x hx) 0
theorem tm3L_lay {ws : List Str} (g : ∀ x ∈ ws, GoodL x) {l : List Tr} (h : ∀ t ∈ l, inT ws t) : Lay 2 (.l (l.map tm3)) := lay_l fun a m => by
  obtain ⟨t, ht, rfl⟩ := List.mem_map.mp m
  obtain ⟨h1, h2, h3⟩ := h t ht
  exact tm3_lay (g _ h1) (g _ h2) (g _ h3)
structure RuleOk (ws : List Str) (ts : List Tr) : Prop where
  good : ∀ x ∈ ws, GoodL x
  inn : ∀ t ∈ ts, inT ws t

/-! ### Rule.__eq__ itself -/
def F_req (C : Addr) : Fn := ⟨fun ds Q => ∃ (ws : List Str) (kn : List (List Key × D)) (ts : List Tr) (y : D), ds = [ruleD C ws kn ts, y] ∧ RuleOk ws ts ∧
  ((∃ (vs : List Str) (kn2 : List (List Key × D)) (us : List Tr), y = ruleD C vs kn2 us ∧ RuleOk vs us ∧ Q (.bl (decide (ws = vs ∧ ts = us)))) ∨ ((∃ xs, y = .lst xs) ∧ Q (.bl false))),
  fun _ _ _ h ⟨ws, kn, ts, y, e, g, q⟩ => ⟨ws, kn, ts, y, e, g, q.imp (fun ⟨vs, kn2, us, e, g2, q⟩ => ⟨vs, kn2, us, e, g2, h _ q⟩) fun ⟨e, q⟩ => ⟨e, h _ q⟩⟩⟩
theorem m_Rule___eq__ (T : Hd K mg) : C8.Met P w K mg base 1 (He.ga K "Rule") "__eq__" (spF (S0 K) (F_req (He.ga K "Rule"))) [] := by
  refine met_ofD T.cls_Rule T.me_Rule___eq__ T.d_Rule___eq__ sc_Rule___eq__ (fun _ _ _ _ _ _ us hl => match us, hl with | [_, _], _ => rfl) (fun ds R ⟨_, _, _, _, e, _⟩ => by rw [e]; rfl) fun f cdv A outer s H E hr => ?_
  refine ⟨_, (pss_cons (ps_if (pt_not (pt_val (pe_callB (R.call_isi K) rfl T.f_isinstance (by decide +kernel) (pa_cons (pv 1) (pa_cons (C8.pe_gc (v := .ref (He.ga K "Rule")) rfl ⟨_, T.g_Rule, rfl⟩) pa_nil))))) (pss_one (ps_ret pe_bl)) pss_nil)
      (pss_one (ps_ret (pe_and (pe_cmpR (R.op_eqD K (un64 hr)) (pe_fldC T.cls_Rule T.na_Rule_own_labels (pv 0)) (pe_fldC T.cls_Rule T.na_Rule_own_labels (pv 1)) (nomark _)) (pe_one (pe_cmpR (R.op_eqD K (un64 hr)) (pe_fldC T.cls_Rule T.na_Rule_own_triples (pv 0)) (pe_fldC T.cls_Rule T.na_Rule_own_triples (pv 1)) (nomark _))))))), ?_⟩
  rintro ds R ⟨ws, kn, ts, y, rfl, g, h⟩
  rcases h with ⟨vs, kn2, us, rfl, g2, q⟩ | ⟨⟨xs, rfl⟩, q⟩
  · refine run_seq (run_if (evt_not (evt_b (ev_cb (eva_cons (ev_var (by rfl) (eva_cons (ev_cloc (eva_nil (rvc_isiO T.ins_Rule kit_self ⟨_, rfl, iteF (run_next ?_)⟩))))))))))
    refine run_ret (ev_andV (ev_op (ev_fldC (ev_var (by rfl) ⟨_, _, rfl, rfl, ev_fldC (ev_var (by rfl) ⟨_, _, rfl, rfl, rvr_eqD (tmS_D ws) (tmS_D vs) (tmS_lay g.good) (tmS_lay g2.good) (by decide) (by decide) fun r1 h1 => ⟨_, rfl, ?_⟩⟩)⟩))))
    rw [tmS_inj] at h1
    cases r1 with
    | false =>
      refine iteF ?_
      have : decide (ws = vs ∧ ts = us) = false := decide_eq_false fun e => Bool.false_ne_true (h1.mpr e.1)
      rw [this] at q
      exact q
    | true =>
      refine iteT ?_
      have e1 := h1.mp rfl
      refine ev_op (ev_fldC (ev_var (by rfl) ⟨_, _, rfl, rfl, ev_fldC (ev_var (by rfl) ⟨_, _, rfl, rfl, rvr_eqD (tm3L_D ts) (tm3L_D us) (tm3L_lay g.good g.inn) (tm3L_lay g2.good g2.inn) (by decide) (by decide) fun r2 h2 => ?_⟩)⟩))
      rw [tm3L_inj] at h2
      have : r2 = decide (ws = vs ∧ ts = us) := by
        rw [Bool.eq_iff_iff, h2, decide_eq_true_eq]
        exact ⟨fun e => ⟨e1, e⟩, fun e => e.2⟩
      rw [this]
      exact q
  · refine run_seq (run_if (evt_not (evt_b (ev_cb (eva_cons (ev_var (by rfl) (eva_cons (ev_cloc (eva_nil (rvc_isiN T.ins_Rule rfl (by show "list" ∈ _; decide) ⟨_, rfl, iteT ?_⟩))))))))))
    exact run_ret (ev_cbl q)

/-! ### how many triples [ac] -/
def F_rlen (C : Addr) : Fn := ⟨fun ds Q => ∃ (ws : List Str) (kn : List (List Key × D)) (ts : List Tr), ds = [ruleD C ws kn ts] ∧ Q (.int (ts.length : Nat)), fun _ _ _ h ⟨ws, kn, ts, e, q⟩ => ⟨ws, kn, ts, e, h _ q⟩⟩
theorem m_Rule___len__ (T : Hd K mg) : C8.Met P w K mg base 1 (He.ga K "Rule") "__len__" (spF (S0 K) (F_rlen (He.ga K "Rule"))) [] := by
  refine met_ofD T.cls_Rule T.me_Rule___len__ T.d_Rule___len__ sc_Rule___len__ (fun _ _ _ _ _ _ us hl => match us, hl with | [_], _ => rfl) (fun ds R ⟨_, _, _, e, _⟩ => by rw [e]; rfl) fun f cdv A outer s H E hr => ?_
  refine ⟨_, (pss_one (ps_ret (pe_callB (R.cr_len K) rfl T.f_len (by decide +kernel) (pa_cons (pe_fldC T.cls_Rule T.na_Rule_own_triples (pv 0)) pa_nil)))), ?_⟩
  rintro ds R ⟨ws, kn, ts, rfl, q⟩
  refine run_ret (ev_cb (eva_cons (ev_fldC (ev_var (by rfl) ⟨_, .lst (ts.map t3), rfl, rfl, eva_nil (rvc_lenL ?_)⟩))))
  rw [List.length_map]
  exact q

/-! ### labels by their places [ac] -/
theorem getD_at {ws : List Str} {i : Nat} (hi : i < ws.length) : ws[i]? = some (ws.getD i "") := by
  rw [List.getD_eq_getElem?_getD, List.getElem?_eq_getElem hi]; rfl
theorem getD_inj {ws : List Str} (nd : ws.Nodup) {i j : Nat} (hi : i < ws.length) (hj : j < ws.length) : ws.getD i "" = ws.getD j "" ↔ i = j := by
  constructor
  · intro e
    have a := getD_at hi
    have b := getD_at hj
    rw [e] at a
    have a1 := nd.idxOf_getElem i hi
    have b1 := nd.idxOf_getElem j hj
    rw [List.getElem?_eq_getElem hi] at a
    rw [List.getElem?_eq_getElem hj] at b
    rw [Option.some.inj a] at a1
    rw [Option.some.inj b] at b1
    omega
  · exact fun e => by rw [e]
theorem idx_getD {ws : List Str} (nd : ws.Nodup) {i : Nat} (hi : i < ws.length) : ws.idxOf (ws.getD i "") = i := by
  have a := getD_at hi
  have a1 := nd.idxOf_getElem i hi
  rw [List.getElem?_eq_getElem hi] at a
  rw [← Option.some.inj a]
  exact a1
theorem get_strs' {ws : List Str} {i : Nat} (hi : i < ws.length) : (ws.map D.str)[i]? = some (.str (ws.getD i "")) := by
  rw [List.getElem?_map, getD_at hi]
  rfl
theorem str_get {ws : List Str} {i : Nat} {y : D} (h : (ws.map D.str)[i]? = some y) : i < ws.length ∧ y = .str (ws.getD i "") := by
  by_cases hi : i < ws.length
  · rw [get_strs' hi] at h
    exact ⟨hi, (Option.some.inj h).symm⟩
  · rw [List.getElem?_eq_none (by rw [List.length_map]; omega)] at h
    cases h
theorem enum_ats (ws : List Str) : enumD 0 (ws.map D.str) = (List.range ws.length).map fun j => .tup [.int (j : Nat), .str (ws.getD j "")] := by
  apply List.ext_getElem?
  intro i
  by_cases hi : i < ws.length
  · have h : (ws.map D.str)[i]? = some (.str (ws.getD i "")) := by rw [List.getElem?_map, getD_at hi]; rfl
    rw [enumD_get h, List.getElem?_map, List.getElem?_range hi, Nat.zero_add]
    rfl
  · rw [List.getElem?_eq_none (by rw [enumD_length, List.length_map]; omega), List.getElem?_eq_none (by rw [List.length_map, List.length_range]; omega)]
theorem enum_get {ws : List Str} {i : Nat} {y : D} (h : (enumD 0 (ws.map D.str))[i]? = some y) : i < ws.length ∧ y = .tup [.int (i : Nat), .str (ws.getD i "")] := by
  rw [enum_ats, List.getElem?_map] at h
  by_cases hi : i < ws.length
  · rw [List.getElem?_range hi] at h
    exact ⟨hi, (Option.some.inj h).symm⟩
  · rw [List.getElem?_eq_none (by rw [List.length_range]; omega)] at h
    cases h
theorem getD_mem' {ws : List Str} {i : Nat} (hi : i < ws.length) : ws.getD i "" ∈ ws := List.mem_of_getElem? (getD_at hi)
theorem ats_self (ws : List Str) : (List.range ws.length).map (fun i => ws.getD i "") = ws := by
  apply List.ext_getElem?
  intro i
  by_cases hi : i < ws.length
  · rw [List.getElem?_map, List.getElem?_range hi, getD_at hi]
    rfl
  · rw [List.getElem?_eq_none (by rw [List.length_map, List.length_range]; omega), List.getElem?_eq_none (by omega)]
theorem mem_at {ws : List Str} {x : Str} (h : x ∈ ws) : ∃ i, i < ws.length ∧ x = ws.getD i "" := by
  rw [← ats_self ws] at h
  obtain ⟨i, hi, e⟩ := List.mem_map.mp h
  exact ⟨i, List.mem_range.mp hi, e.symm⟩
theorem lc_filterS {S : Sys} {ρ : DEnv} {g : TG} {tt : TT} {te : TE} {vs : List Nat} {Q : D → Prop} {α : Type} {l : List α} (src : α → D) (p : α → Bool) (f : α → Str) (hz : l.length ≤ sizeLine) (he : ∀ a ∈ l, EvG S vs g (wipeD ρ vs) (src a) fun ρ1 => EvT S tt ρ1 fun b => b = p a ∧ (b = true → Ev S te ρ1 fun y => y = .str (f a))) (q : Q (.lst (((l.filter p).map f).map D.str))) : LcGoal S ρ g tt te vs Q (l.map src) :=
  lc_filter src p (fun a => .str (f a)) hz he (by rw [List.map_map] at q; exact q)
theorem memA {K : PySem.W.Frag} {x : Str} {l : List Str} {Q : D → Prop} (q : Q (.bl (decide (x ∈ l)))) : RvR K (rInX K false) (.str x) (.lst (l.map D.str)) Q := rvr_inX_l rfl (strs_plain _) (by rw [if_neg Bool.false_ne_true, inD_strs]; exact q)

theorem spec0 {ws : List Str} {ts : List Tr} {Q : D → Prop} (q : Q (.lst (ws.map D.str))) : RvR K (rIx K) (specD ws ts) (.int 0) Q := rvr_ixq_l (d := .lst (ws.map D.str)) rfl q
theorem spec1 {ws : List Str} {ts : List Tr} {Q : D → Prop} (q : Q (.lst (ts.map t3))) : RvR K (rIx K) (specD ws ts) (.int 1) Q := rvr_ixq_l (d := .lst (ts.map t3)) rfl q

/-! ### allows, in, repr, triples [ac] -/
theorem trip_of {ws : List Str} {d : D} (h : isTrip ws d = true) : ∃ t : Tr, d = t3 t ∧ inT ws t := by
  have key : ∀ d, isIn ws d = true → ∃ x, d = .str x ∧ x ∈ ws := fun d h => by
    cases d with
    | str x => exact ⟨x, rfl, of_decide_eq_true h⟩
    | _ => exact absurd h (by simp [isIn])
  cases d with
  | tup xs =>
    have h' : (decide (xs.length = 3) && xs.all (isIn ws)) = true := h
    rw [Bool.and_eq_true] at h'
    obtain ⟨h1, h2⟩ := h'
    match xs, of_decide_eq_true h1 with
    | [a, b, c], _ =>
      simp only [List.all_cons, List.all_nil, Bool.and_true, Bool.and_eq_true] at h2
      obtain ⟨ha, hb, hc⟩ := h2
      obtain ⟨x, rfl, mx⟩ := key a ha
      obtain ⟨y, rfl, my⟩ := key b hb
      obtain ⟨z, rfl, mz⟩ := key c hc
      exact ⟨(x, y, z), rfl, mx, my, mz⟩
  | _ => exact absurd h (by simp [isTrip])
/-- whether it is a triple of the rule -/
def trB (ws : List Str) (ts : List Tr) : D → Bool
  | .tup [.str x, .str y, .str z] => isTrip ws (.tup [.str x, .str y, .str z]) && decide (plainT ws (x, y, z) ∈ ts)
  | _ => false
theorem trB_t {ws : List Str} {ts : List Tr} {t : Tr} (h : isTrip ws (t3 t) = true) : trB ws ts (t3 t) = decide (plainT ws t ∈ ts) := by
  show (isTrip ws (t3 t) && _) = _
  rw [h]
  rfl
theorem trB_f {ws : List Str} {ts : List Tr} {d : D} (h : isTrip ws d = false) : trB ws ts d = false := by
  unfold trB
  split
  · rw [h]
    rfl
  · rfl
def F_allows (C : Addr) : Fn := ⟨fun ds Q => ∃ (ws : List Str) (kn : List (List Key × D)) (ts : List Tr) (a b c : D), ds = [ruleD C ws kn ts, a, b, c] ∧ (∀ t, (valD kn (k3 t)).isSome = decide (t ∈ ts)) ∧ basic a = true ∧ basic b = true ∧ basic c = true ∧ Q (.bl (trB ws ts (.tup [a, b, c]))),
  fun _ _ _ h ⟨ws, kn, ts, a, b, c, e, k, h1, h2, h3, q⟩ => ⟨ws, kn, ts, a, b, c, e, k, h1, h2, h3, h _ q⟩⟩
theorem mg_Rule_allows (T : Hd K mg) {Φ : FuncData → Prop} (hΦ : ∀ fd, FunD K "allows" "Rule.allows" (defArgs s_Rule_allows) (defBody s_Rule_allows) (defScope s_Rule_allows) [] [] (He.ma K (He.ga K "Rule") "allows") fd → Φ fd) : MetG P w K mg base 3 (He.ga K "Rule") "allows" P_Rule_allows (spF (S0 K) (F_allows (He.ga K "Rule"))) Φ := by
  have m_Rule_is_triple : C8.Met P w K mg base 2 (He.ga K "Rule") "is_triple" (spF (S0 K) (F_istrip (He.ga K "Rule"))) [] := m_Rule_is_triple T
  have m_Rule_plain : C8.Met P w K mg base 1 (He.ga K "Rule") "plain" (spF (S0 K) (F_plain (He.ga K "Rule"))) [] := m_Rule_plain T
  refine metG_ofD T.cls_Rule T.me_Rule_allows T.d_Rule_allows sc_Rule_allows hΦ (fun ds R ⟨_, _, _, _, _, _, e, _⟩ => by rw [e]; rfl) fun f cdv A outer s H E hr => ?_
  refine ⟨_, (pss_one (ps_ret (pe_and (C8.pe_mt m_Rule_is_triple hr (by first | decide | exact Nat.le_refl _ | omega) (pv 0) (pa_cons (pe_tup (pa_cons (pv 1) (pa_cons (pv 2) (pa_cons (pv 3) pa_nil)))) pa_nil)) (pe_one (pe_cmpR (op_dIn (un1 hr)) (C8.pe_mt m_Rule_plain hr (by first | decide | exact Nat.le_refl _ | omega) (pv 0) (pa_cons (pe_tup (pa_cons (pv 1) (pa_cons (pv 2) (pa_cons (pv 3) pa_nil)))) pa_nil)) (pe_fldC T.cls_Rule T.na_Rule_known (pv 0)) (rfl)))))), ?_⟩
  rintro ds R ⟨ws, kn, ts, a, b, c, rfl, hk, h1, h2, h3, q⟩
  have hb : basics (.tup [a, b, c]) = true := by
    show (basic a && (basic b && (basic c && true))) = true
    rw [h1, h2, h3]
    rfl
  refine run_ret (ev_andV (ev_meth (ev_var (by rfl) ⟨_, rfl, rfl, eva_cons (ev_tup (eva_cons (ev_var (by rfl) (eva_cons (ev_var (by rfl) (eva_cons (ev_var (by rfl) (eva_nil ⟨szr rfl, eva_nil ⟨_, _, ws, rfl, rfl, rfl, hb, fun xs e => by cases e; exact szr rfl, _, rfl, ?_⟩⟩))))))))⟩)))
  refine iteB (fun h => ?_) fun h => ?_
  · obtain ⟨t, et, it⟩ := trip_of h
    have e3 : a = .str t.1 ∧ b = .str t.2.1 ∧ c = .str t.2.2 := by
      unfold t3 at et
      injection et with et
      injection et with e1 et
      injection et with e2 et
      injection et with e3 _
      exact ⟨e1, e2, e3⟩
    obtain ⟨rfl, rfl, rfl⟩ := e3
    have eq := trB_t (ts := ts) (t := t) h
    refine ev_op (ev_meth (ev_var (by rfl) ⟨_, rfl, rfl, eva_cons (ev_tup (eva_cons (ev_var (by rfl) (eva_cons (ev_var (by rfl) (eva_cons (ev_var (by rfl) (eva_nil ⟨szr rfl, eva_nil ⟨_, t, ws, rfl, rfl, it, ev_fldC (ev_var (by rfl) ⟨_, .dT kn, rfl, rfl, rvr_dIn (.t (ks := k3 (plainT ws t)) rfl) ?_⟩)⟩⟩))))))))⟩))
    rw [if_neg Bool.false_ne_true, hk, ← eq]
    exact q
  · rw [trB_f h] at q
    exact q
theorem m_Rule_allows (T : Hd K mg) : C8.Met P w K mg base 3 (He.ga K "Rule") "allows" (spF (S0 K) (F_allows (He.ga K "Rule"))) [] := (mg_Rule_allows T (Φ := fun fd => Binds K fd P_Rule_allows []) fun fd F => F.bindsN fun _ _ _ _ _ _ us hl => match us, hl with | [_, _, _, _], _ => rfl).met
theorem mK_Rule_allows_120 (T : Hd K mg) : MetG P w K mg base 3 (He.ga K "Rule") "allows" P_Rule_allows (spF (S0 K) (F_allows (He.ga K "Rule"))) (KwP K P_Rule_allows 1 ["other", "top", "one"] [1, 2, 0]) := mg_Rule_allows T fun fd F => kwp_ofN F fun kV doc pm an cdv ct us ws h1 h2 => match us, h1, ws, h2 with | [_], _, [_, _, _], _ => rfl
def F_rcont (C : Addr) : Fn := ⟨fun ds Q => ∃ (ws : List Str) (kn : List (List Key × D)) (ts : List Tr) (d : D), ds = [ruleD C ws kn ts, d] ∧ (∀ t, (valD kn (k3 t)).isSome = decide (t ∈ ts)) ∧ basics d = true ∧ (∀ xs, d = .tup xs → xs.length ≤ sizeLine) ∧ Q (.bl (trB ws ts d)),
  fun _ _ _ h ⟨ws, kn, ts, d, e, k, h1, h2, q⟩ => ⟨ws, kn, ts, d, e, k, h1, h2, h _ q⟩⟩
theorem m_Rule___contains__ (T : Hd K mg) : C8.Met P w K mg base 3 (He.ga K "Rule") "__contains__" (spF (S0 K) (F_rcont (He.ga K "Rule"))) [] := by
  have m_Rule_is_triple : C8.Met P w K mg base 2 (He.ga K "Rule") "is_triple" (spF (S0 K) (F_istrip (He.ga K "Rule"))) [] := m_Rule_is_triple T
  have m_Rule_plain : C8.Met P w K mg base 1 (He.ga K "Rule") "plain" (spF (S0 K) (F_plain (He.ga K "Rule"))) [] := m_Rule_plain T
  refine met_ofD T.cls_Rule T.me_Rule___contains__ T.d_Rule___contains__ sc_Rule___contains__ (fun _ _ _ _ _ _ us hl => match us, hl with | [_, _], _ => rfl) (fun ds R ⟨_, _, _, _, e, _⟩ => by rw [e]; rfl) fun f cdv A outer s H E hr => ?_
  refine ⟨_, (pss_one (ps_ret (pe_and (C8.pe_mt m_Rule_is_triple hr (by first | decide | exact Nat.le_refl _ | omega) (pv 0) (pa_cons (pv 1) pa_nil)) (pe_one (pe_cmpR (op_dIn (un1 hr)) (C8.pe_mt m_Rule_plain hr (by first | decide | exact Nat.le_refl _ | omega) (pv 0) (pa_cons (pv 1) pa_nil)) (pe_fldC T.cls_Rule T.na_Rule_known (pv 0)) (rfl)))))), ?_⟩
  rintro ds R ⟨ws, kn, ts, d, rfl, hk, hb, hz, q⟩
  refine run_ret (ev_andV (ev_meth (ev_var (by rfl) ⟨_, rfl, rfl, eva_cons (ev_var (by rfl) (eva_nil ⟨_, _, ws, rfl, rfl, rfl, hb, hz, _, rfl, ?_⟩))⟩)))
  refine iteB (fun h => ?_) fun h => ?_
  · obtain ⟨t, rfl, it⟩ := trip_of h
    have eq := trB_t (ts := ts) (t := t) h
    refine ev_op (ev_meth (ev_var (by rfl) ⟨_, rfl, rfl, eva_cons (ev_var (by rfl) (eva_nil ⟨_, t, ws, rfl, rfl, it, ev_fldC (ev_var (by rfl) ⟨_, .dT kn, rfl, rfl, rvr_dIn (.t (ks := k3 (plainT ws t)) rfl) ?_⟩)⟩))⟩))
    rw [if_neg Bool.false_ne_true, hk, ← eq]
    exact q
  · rw [trB_f h] at q
    exact q
def F_rtriples (C : Addr) : Fn := ⟨fun ds Q => ∃ (fs : List (Str × D)) (xs : List D), ds = [.obj C fs] ∧ fget fs "own_triples" = some (.lst xs) ∧ Q (.lst xs), fun _ _ _ h ⟨fs, xs, e, l, q⟩ => ⟨fs, xs, e, l, h _ q⟩⟩
theorem m_Rule_triples (T : Hd K mg) : C8.Met P w K mg base 1 (He.ga K "Rule") "triples" (spR K (F_rtriples (He.ga K "Rule"))) [] := by
  refine met_ofR T.cls_Rule T.me_Rule_triples T.d_Rule_triples sc_Rule_triples (fun _ _ _ _ _ _ us hl => match us, hl with | [_], _ => rfl) (fun ds R ⟨_, _, e, _⟩ => by rw [e]; rfl) fun f cdv A outer s H E hr => ?_
  refine ⟨_, (pss_one (ps_ret (pe_callTy (R.cr_list K) rfl T.f_list (by decide +kernel) (pa_cons (pe_fldC T.cls_Rule T.na_Rule_own_triples (pv 0)) pa_nil)))), ?_⟩
  rintro ds R ⟨fs, xs, rfl, l, q⟩
  exact run_retF (evf_list (eva_cons (ev_fldC (ev_var (by rfl) ⟨fs, _, rfl, l, eva_nil ⟨xs, .inl rfl, q⟩⟩))))
/-- what a rule shows -/
def ruleS (n m : Nat) : Str := ((("Rule(" ++ numS n) ++ " labels, ") ++ numS m) ++ " triples)"
theorem emptyApp (x : Str) : Str.empty ++ x = x := by
  obtain ⟨c⟩ := x
  show Str.mk (#[] ++ c) = Str.mk c
  rw [Array.empty_append]
theorem app_len (x y : Str) : (x ++ y).length = x.length + y.length := Array.size_append
def F_rrepr (C : Addr) : Fn := ⟨fun ds Q => ∃ (ws : List Str) (kn : List (List Key × D)) (ts : List Tr), ds = [ruleD C ws kn ts] ∧ ws.length ≤ 5 ∧ ts.length ≤ 125 ∧ Q (.str (ruleS ws.length ts.length)), fun _ _ _ h ⟨ws, kn, ts, e, l1, l2, q⟩ => ⟨ws, kn, ts, e, l1, l2, h _ q⟩⟩
theorem m_Rule___repr__ (T : Hd K mg) : C8.Met P w K mg base 1 (He.ga K "Rule") "__repr__" (spF (S0 K) (F_rrepr (He.ga K "Rule"))) [] := by
  refine met_ofD T.cls_Rule T.me_Rule___repr__ T.d_Rule___repr__ sc_Rule___repr__ (fun _ _ _ _ _ _ us hl => match us, hl with | [_], _ => rfl) (fun ds R ⟨_, _, _, e, _⟩ => by rw [e]; rfl) fun f cdv A outer s H E hr => ?_
  refine ⟨_, (pss_one (ps_ret (pe_join (PJ.cons pe_str (PJ.cons (pe_fmt (pe_callB (R.cr_len K) rfl T.f_len (by decide +kernel) (pa_cons (pe_fldC T.cls_Rule T.na_Rule_own_labels (pv 0)) pa_nil))) (PJ.cons pe_str (PJ.cons (pe_fmt (pe_callB (R.cr_len K) rfl T.f_len (by decide +kernel) (pa_cons (pe_fldC T.cls_Rule T.na_Rule_own_triples (pv 0)) pa_nil))) (PJ.cons pe_str PJ.nil)))))))), ?_⟩
  rintro ds R ⟨ws, kn, ts, rfl, l1, l2, q⟩
  have n1 := numS_len (show ws.length ≤ 1000 by omega)
  have n2 := numS_len (show ts.length ≤ 1000 by omega)
  have e1 : ("Rule(" : Str).length = 5 := by decide +kernel
  have e2 : (" labels, " : Str).length = 9 := by decide +kernel
  have e3 : (" triples)" : Str).length = 9 := by decide +kernel
  have z0 : (Str.empty ++ "Rule(").length = 5 := by rw [emptyApp]; exact e1
  refine run_ret (ev_join (evj_cons (ev_cstr ⟨_, rfl, by omega, evj_cons (ev_fmtN (ev_cb (eva_cons (ev_fldC (ev_var (by rfl) ⟨_, .lst (ws.map D.str), rfl, rfl, eva_nil (rvc_lenL ⟨ws.length, by rw [List.length_map], by omega, _, rfl, ?_, ?_⟩)⟩)))))⟩)))
  · rw [app_len]
    omega
  refine evj_cons (ev_cstr ⟨_, rfl, ?_, evj_cons (ev_fmtN (ev_cb (eva_cons (ev_fldC (ev_var (by rfl) ⟨_, .lst (ts.map t3), rfl, rfl, eva_nil (rvc_lenL ⟨ts.length, by rw [List.length_map], by omega, _, rfl, ?_, evj_cons (ev_cstr ⟨_, rfl, ?_, evj_nil ?_⟩)⟩)⟩)))))⟩)
  · rw [app_len, app_len]
    omega
  · rw [app_len, app_len, app_len]
    omega
  · rw [app_len, app_len, app_len, app_len]
    omega
  · rw [emptyApp]
    exact q

/-! ### the law [ac] -/
local macro_rules | `(tactic| walk_at "en") => `(tactic| refine run_env (by dsimp only [List.set]) ?_)
theorem rvr_neBB {K : PySem.W.Frag} {a b : Bool} {Q : D → Prop} (q : Q (.bl (!decide (a = b)))) : RvR K rNe (.bl a) (.bl b) Q := by
  refine rvr_ne rfl rfl rfl ?_
  have e : decide (dV (.bl a) = dV (.bl b)) = decide (a = b) := by cases a <;> cases b <;> rfl
  rw [e]
  exact q
theorem oth_self {C : Addr} {fs : List (Str × D)} : othD C (.obj C fs) = true := decide_eq_true rfl
def turnT (t : Tr) : Tr := (t.1, t.2.2, t.2.1)
theorem idx_inj {ws : List Str} {x y : Str} (hx : x ∈ ws) (e : ws.idxOf x = ws.idxOf y) : x = y := by
  have hx' : ws.idxOf x < ws.length := List.idxOf_lt_length_of_mem hx
  have h1 : ws[ws.idxOf x]? = some x := by rw [List.getElem?_eq_getElem hx', List.getElem_idxOf hx']
  have hy' : ws.idxOf y < ws.length := by omega
  have h2 : ws[ws.idxOf y]? = some y := by rw [List.getElem?_eq_getElem hy', List.getElem_idxOf hy']
  rw [e, h2] at h1
  exact (Option.some.inj h1).symm
theorem plain_turn {ws : List Str} {t : Tr} (h : inT ws t) : plainT ws (turnT t) = plainT ws t := by
  obtain ⟨a, b, c⟩ := t
  obtain ⟨_, h2, h3⟩ := h
  show (if ws.idxOf c ≤ ws.idxOf b then (a, c, b) else (a, b, c)) = if ws.idxOf b ≤ ws.idxOf c then (a, b, c) else (a, c, b)
  by_cases e1 : ws.idxOf b ≤ ws.idxOf c
  · rw [if_pos e1]
    by_cases e2 : ws.idxOf c ≤ ws.idxOf b
    · rw [if_pos e2]
      have := idx_inj h2 (show ws.idxOf b = ws.idxOf c by omega)
      rw [show b = c from this]
    · rw [if_neg e2]
  · rw [if_neg e1, if_pos (by omega)]
theorem turn_in {ws : List Str} {t : Tr} (h : inT ws t) : inT ws (turnT t) := ⟨h.1, h.2.2, h.2.1⟩
def F_turned (pc : Addr × Addr) : Fn := ⟨fun ds Q => ∃ t : Tr, ds = [.loc pc.1, t3 t] ∧ Q (t3 t) ∧ Q (t3 (turnT t)), fun _ _ _ h ⟨t, e, q1, q2⟩ => ⟨t, e, h _ q1, h _ q2⟩⟩
theorem h__law_turned (T : Hd K mg) : Has P w K mg base "_law_turned" 2 P__law_turned (spT (ST K) F_turned) := by
  have h__law_pick : Has P w K mg base "_law_pick" 1 P__law_pick (spT (ST K) F_pick) := h__law_pick T
  refine has_ofT T.d__law_turned T.g__law_turned sc__law_turned (fun _ _ _ _ _ _ us hl => match us, hl with | [_, _], _ => rfl) (fun p ds R ⟨_, e, _⟩ => by rw [e]; rfl) fun f cdv A outer s H E hr => ?_
  refine ⟨_, (pss_one (ps_ret (pe_ifExp (pt_cmpR op_eq (pe_has h__law_pick hr (pa_cons (pv 0) (pa_cons pe_int pa_nil))) pe_int (nomark _)) (pv 1) (pe_tup (pa_cons (pe_ix (R.ix_seq K) (pv 1) pe_int (fun _ _ => rfl)) (pa_cons (pe_ix (R.ix_seq K) (pv 1) pe_int (fun _ _ => rfl)) (pa_cons (pe_ix (R.ix_seq K) (pv 1) pe_int (fun _ _ => rfl)) pa_nil))))))), ?_⟩
  rintro ⟨p, c⟩ ds R ⟨t, rfl, q1, q2⟩
  refine run_ret (ev_if (evt_test (ev_op (ev_callT (eva_cons (ev_var (by rfl) (eva_cons (ev_cint (eva_nil ⟨2, rfl, by decide, abs_small (n := 2) (by decide), fun k _ _ => ev_cint (rvr_eqI ⟨_, rfl, iteB (fun _ => ev_var (by rfl) q1) fun _ => ?_⟩)⟩)))))))))
  exact ev_tup (eva_cons (ev_op (ev_var (d := t3 t) (by rfl) (ev_cint (rvr_ixq_t (d := .str t.1) rfl (eva_cons (ev_op (ev_var (d := t3 t) (by rfl) (ev_cint (rvr_ixq_t (d := .str t.2.2) rfl (eva_cons (ev_op (ev_var (d := t3 t) (by rfl) (ev_cint (rvr_ixq_t (d := .str t.2.1) rfl (eva_nil ⟨szr rfl, q2⟩))))))))))))))))
/-- triples, some of them turned -/
theorem turned_all {ws : List Str} {l : List Tr} {ys : List D} (h : ∀ t ∈ l, inT ws t) (a : All2 (fun t y => y = t3 t ∨ y = t3 (turnT t)) l ys) : ∃ us : List Tr, ys = us.map t3 ∧ us.map (plainT ws) = l.map (plainT ws) ∧ ∀ u ∈ us, inT ws u := by
  induction a with
  | nil => exact ⟨[], rfl, rfl, fun _ h => by cases h⟩
  | @cons t y l ys r a ih =>
    obtain ⟨us, rfl, e, i⟩ := ih fun t ht => h t (List.mem_cons_of_mem _ ht)
    have ht := h t List.mem_cons_self
    rcases r with rfl | rfl
    · refine ⟨t :: us, rfl, by rw [List.map_cons, List.map_cons, e], fun u hu => ?_⟩
      rcases List.mem_cons.mp hu with rfl | hu
      · exact ht
      · exact i u hu
    · refine ⟨turnT t :: us, rfl, by rw [List.map_cons, List.map_cons, e, plain_turn ht], fun u hu => ?_⟩
      rcases List.mem_cons.mp hu with rfl | hu
      · exact turn_in ht
      · exact i u hu
theorem turned_some {ws : List Str} {l : List Tr} {yss : List (List D)} (h : ∀ t ∈ l, inT ws t) (a : All2 (fun t ys => ys = [] ∨ ys = [t3 t] ∨ ys = [t3 (turnT t)]) l yss) : ∃ us : List Tr, yss.flatten = us.map t3 ∧ (∀ u ∈ us, inT ws u ∧ plainT ws u ∈ l.map (plainT ws)) ∧ us.length ≤ l.length := by
  induction a with
  | nil => exact ⟨[], rfl, ⟨fun _ h => absurd h List.not_mem_nil, Nat.le_refl _⟩⟩
  | @cons t y l ys r a ih =>
    obtain ⟨us, e, i, n⟩ := ih fun t ht => h t (List.mem_cons_of_mem _ ht)
    have ht := h t List.mem_cons_self
    have old : ∀ u ∈ us, inT ws u ∧ plainT ws u ∈ (t :: l).map (plainT ws) := fun u hu => ⟨(i u hu).1, List.mem_cons_of_mem _ (i u hu).2⟩
    rcases r with rfl | rfl | rfl
    · exact ⟨us, by rw [List.flatten_cons, e]; rfl, old, Nat.le_succ_of_le n⟩
    · refine ⟨t :: us, by rw [List.flatten_cons, e]; rfl, fun u hu => ?_, Nat.succ_le_succ n⟩
      rcases List.mem_cons.mp hu with rfl | hu
      · exact ⟨ht, List.mem_cons_self⟩
      · exact old u hu
    · refine ⟨turnT t :: us, by rw [List.flatten_cons, e]; rfl, fun u hu => ?_, Nat.succ_le_succ n⟩
      rcases List.mem_cons.mp hu with rfl | hu
      · exact ⟨turn_in ht, by rw [plain_turn ht]; exact List.mem_cons_self⟩
      · exact old u hu
theorem perm_t3 {ts : List Tr} {ys : List D} (h : ys.Perm (ts.map t3)) : ∃ l : List Tr, ys = l.map t3 ∧ l.Perm ts := by
  let g : D → Tr := fun d => match d with
    | .tup [.str x, .str y, .str z] => (x, y, z)
    | _ => default
  refine ⟨ys.map g, ?_, ?_⟩
  · rw [List.map_map]
    have : ∀ y ∈ ys, (t3 ∘ g) y = y := fun y hy => by
      obtain ⟨x, _, rfl⟩ := List.mem_map.mp (h.mem_iff.mp hy)
      rfl
    rw [List.map_congr_left this, List.map_id']
  · have h2 := h.map g
    rw [List.map_map] at h2
    have e : (g ∘ t3) = id := rfl
    rw [e, List.map_id] at h2
    exact h2
/-- triples that are, in plain form, those of a rule -/
theorem os_like {ws : List Str} {ts us : List Tr} (g : GoodSpec ws ts) (h1 : ∀ u ∈ us, plainT ws u ∈ ts) (h2 : ∀ t ∈ ts, ∃ u ∈ us, plainT ws u = t) : (fun t => decide (t ∈ us.map (plainT ws))) = fun t => decide (t ∈ ts) := by
  funext t
  rw [decide_eq_decide]
  constructor
  · intro h
    obtain ⟨u, hu, rfl⟩ := List.mem_map.mp h
    exact h1 u hu
  · intro h
    obtain ⟨u, hu, rfl⟩ := h2 t h
    exact List.mem_map.mpr ⟨u, hu, rfl⟩
theorem spec_os {ws : List Str} {ts : List Tr} (g : GoodSpec ws ts) : (cube ws).filter (fun t => decide (t ∈ ts)) = ts := by
  have := g.os
  rw [g.plain] at this
  exact this
def F_asked (C : Addr) (pc : Addr × Addr) : Fn := ⟨fun ds Q => ∃ (ws : List Str) (kn : List (List Key × D)) (ts : List Tr), ds = [.loc pc.1, .lst (ws.map D.str), .lst (ts.map t3), ruleD C ws kn ts] ∧ GoodSpec ws ts ∧ (∀ t, (valD kn (k3 t)).isSome = decide (t ∈ ts)) ∧ Q (.bl true),
  fun _ _ _ h ⟨ws, kn, ts, e, g, k, q⟩ => ⟨ws, kn, ts, e, g, k, h _ q⟩⟩
theorem asked_due {ws : List Str} {far : Str} (hf : far ∉ ws) {a b c : Str} (ha : a ∈ ws ++ [far]) (hb : b ∈ ws ++ [far]) (hc : c ∈ ws ++ [far]) : (inT ws (a, b, c) ∧ far ∉ [a, b, c]) ∨ (¬ inT ws (a, b, c) ∧ far ∈ [a, b, c]) := by
  have key : ∀ x, x ∈ ws ++ [far] → (x ∈ ws ∧ x ≠ far) ∨ (x ∉ ws ∧ x = far) := fun x hx => by
    rcases List.mem_append.mp hx with h | h
    · exact .inl ⟨h, fun e => hf (e ▸ h)⟩
    · have := List.mem_singleton.mp h
      exact .inr ⟨this ▸ hf, this⟩
  rcases key a ha with ⟨a1, a2⟩ | ⟨a1, a2⟩
  · rcases key b hb with ⟨b1, b2⟩ | ⟨b1, b2⟩
    · rcases key c hc with ⟨c1, c2⟩ | ⟨c1, c2⟩
      · refine .inl ⟨⟨a1, b1, c1⟩, ?_⟩
        simp only [List.mem_cons, List.not_mem_nil, or_false, not_or]
        exact ⟨fun e => a2 e.symm, fun e => b2 e.symm, fun e => c2 e.symm⟩
      · exact .inr ⟨fun h => c1 h.2.2, by simp [c2]⟩
    · exact .inr ⟨fun h => b1 h.2.1, by simp [b2]⟩
  · exact .inr ⟨fun h => a1 h.1, by simp [a2]⟩
theorem isTrip_t3 {ws : List Str} {t : Tr} : isTrip ws (t3 t) = true ↔ inT ws t := by
  constructor
  · intro h
    obtain ⟨t', e, i⟩ := trip_of h
    have : t = t' := by
      obtain ⟨a, b, c⟩ := t
      obtain ⟨a', b', c'⟩ := t'
      unfold t3 at e
      injection e with e
      injection e with e1 e
      injection e with e2 e
      injection e with e3 _
      injection e1 with e1
      injection e2 with e2
      injection e3 with e3
      exact Prod.ext e1 (Prod.ext e2 e3)
    rw [this]
    exact i
  · rintro ⟨h1, h2, h3⟩
    show (_ && _) = _
    simp [t3, isIn, h1, h2, h3]
theorem trB_turn {ws : List Str} {ts : List Tr} {t : Tr} : trB ws ts (t3 (turnT t)) = trB ws ts (t3 t) := by
  by_cases h : inT ws t
  · rw [trB_t (isTrip_t3.mpr h), trB_t (isTrip_t3.mpr (turn_in h)), plain_turn h]
  · have h2 : ¬ inT ws (turnT t) := fun z => h (turn_in z)
    rw [trB_f (Bool.eq_false_iff.mpr fun z => h (isTrip_t3.mp z)), trB_f (Bool.eq_false_iff.mpr fun z => h2 (isTrip_t3.mp z))]
theorem h__law_asked_so (T : Hd K mg) : Has P w K mg base "_law_asked_so" 6 P__law_asked_so (spT (ST K) (F_asked (He.ga K "Rule"))) := by
  have h__law_of : Has P w K mg base "_law_of" 2 P__law_of (spT (ST K) F_of) := h__law_of T
  have h__law_plain : Has P w K mg base "_law_plain" 1 P__law_plain (spF (S0 K) F_lplain) := h__law_plain T
  have h__law_same : Has P w K mg base "_law_same" 5 P__law_same (spF (S0 K) (F_same 5)) := h__law_same T 5
  have m_Rule_allows : C8.Met P w K mg base 3 (He.ga K "Rule") "allows" (spF (S0 K) (F_allows (He.ga K "Rule"))) [] := m_Rule_allows T
  have mK_Rule_allows_120 := mK_Rule_allows_120 (P := P) (w := w) (base := base) T
  have m_Rule___contains__ : C8.Met P w K mg base 3 (He.ga K "Rule") "__contains__" (spF (S0 K) (F_rcont (He.ga K "Rule"))) [] := m_Rule___contains__ T
  refine has_ofT T.d__law_asked_so T.g__law_asked_so sc__law_asked_so (fun _ _ _ _ _ _ us hl => match us, hl with | [_, _, _, _], _ => rfl) (fun p ds R ⟨_, _, _, e, _⟩ => by rw [e]; rfl) fun f cdv A outer s H E hr => ?_
  refine ⟨_, (pss_cons (ps_set (i := 4) sc__law_asked_so.nd rfl (Or.inr rfl) (pe_ifExp (pt_cmpR (R.op_notInX K) pe_str (pv 1) (rfl)) pe_str pe_str))
      (pss_cons (ps_for PassesOwn.never rfl (pi_range1 rfl T.f_range (pa_cons pe_int pa_nil)) (pg_name (i := 5) sc__law_asked_so.nd rfl (by first | exact Or.inl rfl | exact Or.inr rfl)) (pss_cons (ps_asg (pe_lc (own := [("_law_j", 12)]) rfl sc__law_asked_so.nd (pi_range1 rfl T.f_range (pa_cons pe_int pa_nil)) (blkOk_by (N := N__law_asked_so) (sc := (defScope s__law_asked_so)) (by decide +kernel)) (fun _ _ _ _ _ => (pg_name (i := 12) sc__law_asked_so.nd rfl (by first | exact Or.inl rfl | exact Or.inr rfl))) (fun _ _ _ _ _ => pts_nil) (fun _ _ _ _ _ => (pe_has h__law_of hr (pa_cons (pv 0) (pa_cons (pe_op (R.op_addX K) (pv 1) (pe_lst (pa_cons (pv 4) pa_nil))) pa_nil))))) (R.pg_unl K (n := 3) (pgs_cons (pg_name (i := 6) sc__law_asked_so.nd rfl (by first | exact Or.inl rfl | exact Or.inr rfl)) (pgs_cons (pg_name (i := 7) sc__law_asked_so.nd rfl (by first | exact Or.inl rfl | exact Or.inr rfl)) (pgs_cons (pg_name (i := 8) sc__law_asked_so.nd rfl (by first | exact Or.inl rfl | exact Or.inr rfl)) pgs_nil)))))
        (pss_cons (ps_set (i := 9) sc__law_asked_so.nd rfl (Or.inl rfl) (pe_and (pe_cmpR (R.op_notInX K) (pv 4) (pe_tup (pa_cons (pv 6) (pa_cons (pv 7) (pa_cons (pv 8) pa_nil)))) (rfl)) (pe_one (pe_cmpR (R.op_inD K (un65 hr)) (pe_has h__law_plain hr (pa_cons (pv 1) (pa_cons (pe_tup (pa_cons (pv 6) (pa_cons (pv 7) (pa_cons (pv 8) pa_nil)))) pa_nil))) (pv 2) (rfl)))))
        (pss_cons (ps_set (i := 10) sc__law_asked_so.nd rfl (Or.inl rfl) (pe_lst (pa_cons (C8.pe_mt m_Rule_allows hr (by first | decide | exact Nat.le_refl _ | omega) (pv 3) (pa_cons (pv 6) (pa_cons (pv 7) (pa_cons (pv 8) pa_nil)))) (pa_cons (C8.pe_mt m_Rule_allows hr (by first | decide | exact Nat.le_refl _ | omega) (pv 3) (pa_cons (pv 6) (pa_cons (pv 8) (pa_cons (pv 7) pa_nil)))) (pa_cons (pe_mtK0 [1, 2, 0] mK_Rule_allows_120 hr (pv 3) (pk_cons (pv 8) (pk_cons (pv 6) (pk_cons (pv 7) pk_nil)))) (pa_cons (pe_cmpR (op_inI m_Rule___contains__ hr) (pe_tup (pa_cons (pv 6) (pa_cons (pv 7) (pa_cons (pv 8) pa_nil)))) (pv 3) (rfl)) pa_nil))))))
        (pss_one (ps_if (pt_not (pt_val (pe_has h__law_same hr (pa_cons (pv 10) (pa_cons (pe_op op_mulX (pe_lst (pa_cons (pv 9) pa_nil)) pe_int) pa_nil))))) (pss_one (ps_ret pe_bl)) pss_nil))))))
      (pss_cons (ps_par (i := 11) (j := 6) rfl sc__law_asked_so.nd rfl rfl (by decide) rfl rfl (pa_cons (pe_has h__law_of hr (pa_cons (pv 0) (pa_cons (pe_lst (pa_cons pe_non (pa_cons pe_int (pa_cons (pe_lst (pa_cons (pe_ix (R.ix_seq K) (pv 1) pe_int (fun _ _ => rfl)) pa_nil)) (pa_cons pe_bl (pa_cons pe_str (pa_cons (pe_tup (pa_cons pe_str pa_nil)) pa_nil))))))) pa_nil))) (pa_cons (pe_ix (R.ix_seq K) (pv 1) pe_int (fun _ _ => rfl)) pa_nil)) rfl)
      (pss_cons (ps_set (i := 10) sc__law_asked_so.nd rfl (Or.inl rfl) (pe_lst (pa_cons (C8.pe_mt m_Rule_allows hr (by first | decide | exact Nat.le_refl _ | omega) (pv 3) (pa_cons (pv 11) (pa_cons (pv 6) (pa_cons (pv 6) pa_nil)))) (pa_cons (C8.pe_mt m_Rule_allows hr (by first | decide | exact Nat.le_refl _ | omega) (pv 3) (pa_cons (pv 6) (pa_cons (pv 11) (pa_cons (pv 6) pa_nil)))) (pa_cons (pe_cmpR (op_inI m_Rule___contains__ hr) (pv 11) (pv 3) (rfl)) (pa_cons (pe_cmpR (op_inI m_Rule___contains__ hr) (pe_lst (pa_cons (pv 6) (pa_cons (pv 6) (pa_cons (pv 6) pa_nil)))) (pv 3) (rfl)) (pa_cons (pe_cmpR (op_inI m_Rule___contains__ hr) (pe_tup (pa_cons (pv 6) (pa_cons (pv 6) pa_nil))) (pv 3) (rfl)) (pa_cons (C8.pe_mt m_Rule_allows hr (by first | decide | exact Nat.le_refl _ | omega) (pv 3) (pa_cons (pv 6) (pa_cons (pv 6) (pa_cons (pv 11) pa_nil)))) (pa_cons (pe_cmpR (op_inI m_Rule___contains__ hr) (pe_tup (pa_cons (pv 6) (pa_cons (pv 6) (pa_cons (pv 11) pa_nil)))) (pv 3) (rfl)) pa_nil)))))))))
      (pss_one (ps_ret (pe_has h__law_same hr (pa_cons (pv 10) (pa_cons (pe_op op_mulX (pe_lst (pa_cons pe_bl pa_nil)) pe_int) pa_nil))))))))), ?_⟩
  rintro ⟨p, c⟩ ds R ⟨ws, kn, ts, rfl, g, hk, q⟩
  have hws := g.g.hi
  have lo := g.g.lo
  refine run_cut (Mid := fun ρ' => ∃ far : Str, far ∉ ws ∧ ρ' = [some (.dat (.loc p)), some (.dat (.lst (ws.map D.str))), some (.dat (.lst (ts.map t3))), some (.dat (ruleD (He.ga K "Rule") ws kn ts)), some (.dat (.str far)), none, none, none, none, none, none, none, none]) ?_ ?_
  · refine run_set (ev_if (evt_test (ev_op (ev_cstr (ev_var (by rfl) (rvr_inX_l rfl (strs_plain _) ?_))))))
    rw [if_pos rfl, inD_strs]
    refine ⟨_, rfl, ?_⟩
    cases hz : decide ((Str.ofString "zzz" : Str) ∈ ws) with
    | false => exact iteT (ev_cstr ⟨_, of_decide_eq_false hz, rfl⟩)
    | true => exact iteF (ev_cstr ⟨_, fun h => g.g.far ⟨of_decide_eq_true hz, h⟩, rfl⟩)
  rintro ρ' ⟨far, hfar, rfl⟩
  refine run_seq (run_for (vs := [5]) (evi_range1 (eva_cons (ev_cint (eva_nil ⟨6, rfl, by decide, by decide, ?_⟩)))))
  refine ⟨fun i ρ => ∃ o5 o6 o7 o8 o9 o10, ρ = [some (.dat (.loc p)), some (.dat (.lst (ws.map D.str))), some (.dat (.lst (ts.map t3))), some (.dat (ruleD (He.ga K "Rule") ws kn ts)), some (.dat (.str far)), o5, o6, o7, o8, o9, o10, none, none], ⟨none, none, none, none, none, none, rfl⟩, ?_, ?_⟩
  · rintro i y ρ1 hy ⟨o5, o6, o7, o8, o9, o10, rfl⟩
    refine evg_name (by simp) ?_
    have items : ∀ {d : D}, d ∈ ws.map D.str ++ [D.str far] → ∃ x, d = .str x ∧ x ∈ ws ++ [far] := fun {d} h => by
      rcases List.mem_append.mp h with h | h
      · obtain ⟨x, hx, rfl⟩ := List.mem_map.mp h
        exact ⟨x, rfl, List.mem_append.mpr (.inl hx)⟩
      · exact ⟨far, List.mem_singleton.mp h, List.mem_append.mpr (.inr (List.mem_singleton.mpr rfl))⟩
    refine run_seq (run_asg (vs := List.range 64) (ev_lcG (evi_range1 (eva_cons (ev_cint (eva_nil ⟨3, rfl, by decide, by decide, ?_⟩))))))
    refine lc_any (l := [0, 1, 2]) (fun i : Nat => .int (0 + (i : Nat))) (fun _ d => ∃ x, d = .str x ∧ x ∈ ws ++ [far]) (szs (by decide)) (fun j hj => evg_name (by decide) ?_) ?_
    · refine ev_callT (eva_cons (ev_var (by rfl) (eva_cons (ev_op (ev_var (by rfl) (ev_lst (eva_cons (ev_var (by rfl) (eva_nil ⟨szr rfl, rvr_addX_l (szs ?_) (eva_nil ⟨_, _, rfl, rfl, ?_, ?_, fun d hd => items hd⟩)⟩)))))))))
      · rw [List.length_map]
        show ws.length + 1 ≤ _
        omega
      · rw [List.length_append]
        exact Nat.succ_pos _
      · rw [List.length_append, List.length_map]
        show ws.length + 1 ≤ _
        omega
    intro ys hys
    obtain ⟨a, b, c', rfl, ha, hb, hc⟩ : ∃ a b c' : Str, ys = [.str a, .str b, .str c'] ∧ a ∈ ws ++ [far] ∧ b ∈ ws ++ [far] ∧ c' ∈ ws ++ [far] := by
      cases hys with
      | cons h1 t => cases t with
        | cons h2 t => cases t with
          | cons h3 t => cases t with
            | nil =>
              obtain ⟨a, rfl, ha⟩ := h1
              obtain ⟨b, rfl, hb⟩ := h2
              obtain ⟨c', rfl, hc⟩ := h3
              exact ⟨a, b, c', rfl, ha, hb, hc⟩
    refine evg_unl rfl (evgs_cons (evg_name (by decide) (evgs_cons (evg_name (by decide) (evgs_cons (evg_name (by decide) (evgs_nil ?_)))))))
    refine run_seq (run_set (Ev.imp (Q := fun d => d = .bl (trB ws ts (t3 (a, b, c')))) ?_ fun d ed => ?_))
    · refine ev_andV (ev_op (ev_var (by rfl) (ev_tup (eva_cons (ev_var (by rfl) (eva_cons (ev_var (by rfl) (eva_cons (ev_var (by rfl) (eva_nil ⟨szr rfl, rvr_inX_t rfl rfl ?_⟩))))))))))
      rw [if_pos rfl]
      have ein : inD (.str far) [.str a, .str b, .str c'] = decide (far ∈ [a, b, c']) := inD_strs far [a, b, c']
      rw [ein]
      refine ⟨_, rfl, ?_⟩
      cases hd : decide (far ∈ [a, b, c']) with
      | false =>
        have h1 : inT ws (a, b, c') := (asked_due hfar ha hb hc).elim (·.1) fun z => absurd z.2 (of_decide_eq_false hd)
        exact iteT (ev_op (ev_call (eva_cons (ev_var (by rfl) (eva_cons (ev_tup (eva_cons (ev_var (by rfl) (eva_cons (ev_var (by rfl) (eva_cons (ev_var (by rfl) (eva_nil ⟨szr rfl, eva_nil ⟨ws, (a, b, c'), rfl, h1, ev_var (by rfl) (in_trips (p := plainT ws (a, b, c')) (l := ts) g.g rfl (plainT_in h1) g.inn (congrArg D.bl (trB_t (isTrip_t3.mpr h1)).symm))⟩⟩)))))))))))))
      | true =>
        have h1 : ¬ inT ws (a, b, c') := (asked_due hfar ha hb hc).elim (fun z => absurd (of_decide_eq_true hd) z.2) (·.1)
        rw [trB_f (ts := ts) (d := t3 (a, b, c')) (Bool.eq_false_iff.mpr fun z => h1 (isTrip_t3.mp z))]
        exact iteF rfl
    subst ed
    have eq1 : trB ws ts (.tup [.str a, .str b, .str c']) = trB ws ts (t3 (a, b, c')) := rfl
    have eq2 : trB ws ts (.tup [.str a, .str c', .str b]) = trB ws ts (t3 (a, b, c')) := trB_turn (t := (a, b, c'))
    generalize hB : trB ws ts (t3 (a, b, c')) = B at eq1 eq2
    refine run_seq (run_set (ev_lst (eva_cons (ev_meth (ev_var (by rfl) ⟨_, rfl, rfl, eva_cons (ev_var (by rfl) (eva_cons (ev_var (by rfl) (eva_cons (ev_var (by rfl) (eva_nil ⟨ws, kn, ts, _, _, _, rfl, hk, rfl, rfl, rfl, ?_⟩))))))⟩)))))
    rw [eq1]
    refine eva_cons (ev_meth (ev_var (by rfl) ⟨_, rfl, rfl, eva_cons (ev_var (by rfl) (eva_cons (ev_var (by rfl) (eva_cons (ev_var (by rfl) (eva_nil ⟨ws, kn, ts, _, _, _, rfl, hk, rfl, rfl, rfl, ?_⟩))))))⟩))
    rw [eq2]
    refine eva_cons (ev_methK (ev_var (by rfl) ⟨_, rfl, rfl, eva_cons (ev_var (by rfl) (eva_cons (ev_var (by rfl) (eva_cons (ev_var (by rfl) (eva_nil ⟨rfl, ws, kn, ts, _, _, _, rfl, hk, rfl, rfl, rfl, ?_⟩))))))⟩))
    rw [eq1]
    refine eva_cons (ev_op (ev_tup (eva_cons (ev_var (by rfl) (eva_cons (ev_var (by rfl) (eva_cons (ev_var (by rfl) (eva_nil ⟨szr rfl, ev_var (by rfl) (rvr_inO ⟨ws, kn, ts, _, rfl, hk, rfl, fun xs e => by cases e; exact szr rfl, _, rfl, ?_⟩)⟩)))))))))
    rw [if_neg Bool.false_ne_true, eq1]
    refine eva_nil ⟨szr rfl, ?_⟩
    exact run_if (evt_not (evt_b (ev_call (eva_cons (ev_var (by rfl) (eva_cons (ev_op (ev_lst (eva_cons (ev_var (by rfl) (eva_nil ⟨szr rfl, ev_cint (rvr_mulX_l (by decide) (by decide) (szs (by show 1 * 4 ≤ _; decide)) (eva_nil ⟨_, rfl, rfl, Nat.le_of_ble_eq_true rfl, _, rfl, iteF (run_next ⟨_, _, _, _, _, _, rfl⟩)⟩))⟩)))))))))))
  rintro ρ1 ⟨o5, o6, o7, o8, o9, o10, rfl⟩
  have x0 : ws.getD 0 "" ∈ ws := getD_mem' lo
  have ix0 : atI (ws.map D.str) 0 = some (.str (ws.getD 0 "")) := atI_ofNat (j := 0) (get_strs' lo)
  generalize ws.getD 0 "" = x at x0 ix0
  have w0 : ∀ {ρ : DEnv} {Q : D → Prop}, ρ[1]? = some (some (.dat (.lst (ws.map D.str)))) → Q (.str x) → Ev (ST K (p, c)) (tOp (rIx K) (tVar 1) (tC (.int 0))) ρ Q := fun h q => ev_op (ev_var h (ev_cint (rvr_ixq_l ix0 q)))
  refine run_seq (run_par (eva_cons (ev_callT (eva_cons (ev_var (by rfl) (eva_cons (ev_lst (eva_cons (ev_cnon (eva_cons (ev_cint (eva_cons (ev_lst (eva_cons (w0 (by rfl) (eva_nil ⟨szr rfl, eva_cons (ev_cbl (eva_cons (ev_cstr (eva_cons (ev_tup (eva_cons (ev_cstr (eva_nil ⟨szr rfl, eva_nil ⟨szr rfl, eva_nil ⟨_, _, rfl, rfl, Nat.succ_pos _, Nat.le_of_ble_eq_true rfl, fun odd hodd => eva_cons (w0 (by rfl) (eva_nil ⟨_, _, rfl, ?_⟩))⟩⟩⟩))))))))⟩))))))))))))))))
  have no : basic odd = true ∧ basics odd = true ∧ isIn ws odd = false ∧ isTrip ws odd = false ∧ (∀ xs, odd = .tup xs → xs.length ≤ sizeLine) := by
    simp only [List.mem_cons, List.not_mem_nil, or_false] at hodd
    rcases hodd with rfl | rfl | rfl | rfl | rfl | rfl
    · exact ⟨rfl, rfl, rfl, rfl, fun _ e => by cases e⟩
    · exact ⟨rfl, rfl, rfl, rfl, fun _ e => by cases e⟩
    · exact ⟨rfl, rfl, rfl, rfl, fun _ e => by cases e⟩
    · exact ⟨rfl, rfl, rfl, rfl, fun _ e => by cases e⟩
    · refine ⟨rfl, rfl, decide_eq_false fun h => ?_, rfl, fun _ e => by cases e⟩
      have := (g.g.good _ h).len
      exact absurd this.1 (by decide)
    · exact ⟨rfl, rfl, rfl, rfl, fun xs e => by cases e; exact szr rfl⟩
  obtain ⟨n1, n2, n3, n4, n5⟩ := no
  have t1 : ∀ b c, isTrip ws (.tup [odd, b, c]) = false := fun b c => by simp [isTrip, n3]
  have t2 : ∀ b c, isTrip ws (.tup [b, odd, c]) = false := fun b c => by simp [isTrip, n3]
  have t3' : ∀ b c, isTrip ws (.tup [b, c, odd]) = false := fun b c => by simp [isTrip, n3]
  refine run_seq (run_set (ev_lst (eva_cons (ev_meth (ev_var (by rfl) ⟨_, rfl, rfl, eva_cons (ev_var (by rfl) (eva_cons (ev_var (by rfl) (eva_cons (ev_var (by rfl) (eva_nil ⟨ws, kn, ts, _, _, _, rfl, hk, n1, rfl, rfl, ?_⟩))))))⟩)))))
  rw [trB_f (t1 _ _)]
  refine eva_cons (ev_meth (ev_var (by rfl) ⟨_, rfl, rfl, eva_cons (ev_var (by rfl) (eva_cons (ev_var (by rfl) (eva_cons (ev_var (by rfl) (eva_nil ⟨ws, kn, ts, _, _, _, rfl, hk, rfl, n1, rfl, ?_⟩))))))⟩))
  rw [trB_f (t2 _ _)]
  refine eva_cons (ev_op (ev_var (by rfl) (ev_var (by rfl) (rvr_inO ⟨ws, kn, ts, _, rfl, hk, n2, n5, _, rfl, ?_⟩))))
  rw [if_neg Bool.false_ne_true, trB_f n4]
  refine eva_cons (ev_op (ev_lst (eva_cons (ev_var (by rfl) (eva_cons (ev_var (by rfl) (eva_cons (ev_var (by rfl) (eva_nil ⟨szr rfl, ev_var (by rfl) (rvr_inO ⟨ws, kn, ts, _, rfl, hk, rfl, fun xs e => (by cases e), _, rfl, ?_⟩)⟩)))))))))
  rw [if_neg Bool.false_ne_true, trB_f rfl]
  refine eva_cons (ev_op (ev_tup (eva_cons (ev_var (by rfl) (eva_cons (ev_var (by rfl) (eva_nil ⟨szr rfl, ev_var (by rfl) (rvr_inO ⟨ws, kn, ts, _, rfl, hk, rfl, fun xs e => by cases e; exact szr rfl, _, rfl, ?_⟩)⟩)))))))
  rw [if_neg Bool.false_ne_true, trB_f rfl]
  refine eva_cons (ev_meth (ev_var (by rfl) ⟨_, rfl, rfl, eva_cons (ev_var (by rfl) (eva_cons (ev_var (by rfl) (eva_cons (ev_var (by rfl) (eva_nil ⟨ws, kn, ts, _, _, _, rfl, hk, rfl, rfl, n1, ?_⟩))))))⟩))
  rw [trB_f (t3' _ _)]
  refine eva_cons (ev_op (ev_tup (eva_cons (ev_var (by rfl) (eva_cons (ev_var (by rfl) (eva_cons (ev_var (by rfl) (eva_nil ⟨szr rfl, ev_var (by rfl) (rvr_inO ⟨ws, kn, ts, _, rfl, hk, ?_, fun xs e => by cases e; exact szr rfl, _, rfl, ?_⟩)⟩)))))))))
  · show (true && (true && (basic odd && true))) = true
    rw [n1]
    rfl
  rw [if_neg Bool.false_ne_true, trB_f (t3' _ _)]
  refine eva_nil ⟨szr rfl, ?_⟩
  exact run_ret (ev_call (eva_cons (ev_var (by rfl) (eva_cons (ev_op (ev_lst (eva_cons (ev_cbl (eva_nil ⟨szr rfl, ev_cint (rvr_mulX_l (by decide) (by decide) (szs (by show 1 * 7 ≤ _; decide)) (eva_nil ⟨_, rfl, rfl, Nat.le_of_ble_eq_true rfl, q⟩))⟩)))))))))
/-! ### the law itself -/
theorem filter_map_t3 (p : Tr → Bool) (l : List Tr) : (l.filter p).map t3 = (l.filter p).map t3 := rfl
theorem tail_os {ws : List Str} {ts : List Tr} (g : GoodSpec ws ts) : (cube ws).filter (fun t => decide (t ∈ (ts.drop 1).map (plainT ws))) = ts.drop 1 := by
  have e : (ts.drop 1).map (plainT ws) = ts.drop 1 := by
    rw [List.map_drop, g.plain]
  rw [e]
  exact filter_sub ((List.drop_sublist 1 ts).trans (g.sub.trans (forms_cube ws))) (cube_nodup g.g.nd)
theorem rev_good {ws : List Str} (g : GoodWs ws) : GoodWs ws.reverse := g.perm (List.reverse_perm ws)
theorem rev_ne {ws : List Str} (g : GoodWs ws) : decide (ws.reverse = ws) = decide (ws.length = 1) := by
  rw [decide_eq_decide]
  constructor
  · intro e
    have lo := g.lo
    rcases Nat.lt_or_ge 1 ws.length with h | h
    · have h0 : ws.reverse[0]? = ws[0]? := by rw [e]
      rw [List.getElem?_reverse (by omega)] at h0
      have := (List.getElem?_inj (by omega) g.nd).mp h0
      omega
    · omega
  · intro e
    match ws, e with
    | [_], _ => rfl
def w1 : List Str := ["a"]
theorem good1 : GoodWs w1 := ⟨by decide +kernel, by decide, by decide, fun x hx => by
  rw [List.mem_singleton.mp hx]
  show isLabel (.str "a") = true
  decide +kernel, fun h => absurd (List.mem_singleton.mp h.1) (by decide +kernel)⟩
theorem strs_same (l : List Str) (h : l.length ≤ 100000) : okD (.lst (l.map D.str)) = true ∧ depD (.lst (l.map D.str)) ≤ 2 := by
  constructor
  · show (decide _ && okDs _) = true
    rw [List.length_map, decide_eq_true h, Bool.true_and]
    refine okDs_of fun y hy => ?_
    obtain ⟨z, _, rfl⟩ := List.mem_map.mp hy
    rfl
  · show depDs _ + 1 ≤ 2
    have : depDs (l.map D.str) ≤ 1 := depDs_of fun y hy => by
      obtain ⟨z, _, rfl⟩ := List.mem_map.mp hy
      exact Nat.le_refl 1
    omega
theorem t3s_same (l : List Tr) (h : l.length ≤ 100000) : okD (.lst (l.map t3)) = true ∧ depD (.lst (l.map t3)) ≤ 3 := by
  constructor
  · show (decide _ && okDs _) = true
    rw [List.length_map, decide_eq_true h, Bool.true_and]
    refine okDs_of fun y hy => ?_
    obtain ⟨z, _, rfl⟩ := List.mem_map.mp hy
    rfl
  · show depDs _ + 1 ≤ 3
    have : depDs (l.map t3) ≤ 2 := depDs_of fun y hy => by
      obtain ⟨z, _, rfl⟩ := List.mem_map.mp hy
      exact Nat.le_refl 2
    omega
theorem p2s_same (l : List (Str × Str)) (h : l.length ≤ 100000) : okD (.lst (l.map p2)) = true ∧ depD (.lst (l.map p2)) ≤ 3 := by
  constructor
  · show (decide _ && okDs _) = true
    rw [List.length_map, decide_eq_true h, Bool.true_and]
    refine okDs_of fun y hy => ?_
    obtain ⟨z, _, rfl⟩ := List.mem_map.mp hy
    rfl
  · show depDs _ + 1 ≤ 3
    have : depDs (l.map p2) ≤ 2 := depDs_of fun y hy => by
      obtain ⟨z, _, rfl⟩ := List.mem_map.mp hy
      exact Nat.le_refl 2
    omega
theorem strs_noF (l : List Str) : NoFs (l.map D.str) := noFs_of fun d hd => by
  obtain ⟨x, _, rfl⟩ := List.mem_map.mp hd
  exact .str _
theorem rule_noF {C : Addr} {ws : List Str} {kn : List (List Key × D)} {ts : List Tr} (h : NoFs (kn.map Prod.snd)) : NoF (ruleD C ws kn ts) := by
  refine .obj (.cons (.lst (strs_noF ws)) (.cons (.dK (noFs_of fun d hd => ?_)) (.cons (.dT h) (.cons (.lst (noFs_of fun d hd => ?_)) (.cons (.dK (noFs_of fun d hd => ?_)) .nil)))))
  · obtain ⟨q, hq, rfl⟩ := List.mem_map.mp hd
    unfold rkD at hq
    obtain ⟨p, _, rfl⟩ := List.mem_map.mp hq
    exact .int _
  · obtain ⟨t, _, rfl⟩ := List.mem_map.mp hd
    exact .tup (.cons (.str _) (.cons (.str _) (.cons (.str _) .nil)))
  · unfold prD at hd
    rw [List.map_map] at hd
    obtain ⟨a, _, rfl⟩ := List.mem_map.mp hd
    refine .lst (noFs_of fun d hd => ?_)
    obtain ⟨t, _, rfl⟩ := List.mem_map.mp hd
    exact .tup (.cons (.str _) (.cons (.str _) .nil))
theorem h_law (T : Hd K mg) (hF : Xm.FileOk P file0) {Pt : Addr} (TB : LamX.TabB base mg (He.codeOf K ("law", none)) Pt) : Has P w K mg base "law" 8 P_law (spLawL K Pt) := by
  have h__law_tape : Has P w K mg base "_law_tape" 1 P__law_tape (spTape K) := h__law_tape T
  have h__law_pick : Has P w K mg base "_law_pick" 1 P__law_pick (spT (ST K) F_pick) := h__law_pick T
  have h__law_mixed : Has P w K mg base "_law_mixed" 2 P__law_mixed (spT (ST K) F_mixed) := h__law_mixed T
  have h__law_turned : Has P w K mg base "_law_turned" 2 P__law_turned (spT (ST K) F_turned) := h__law_turned T
  have h__law_spec : Has P w K mg base "_law_spec" 6 P__law_spec (spT (ST K) F_spec) := h__law_spec T
  have h__law_same : Has P w K mg base "_law_same" 5 P__law_same (spF (S0 K) (F_same 5)) := h__law_same T 5
  have h__law_asked_so : Has P w K mg base "_law_asked_so" 6 P__law_asked_so (spT (ST K) (F_asked (He.ga K "Rule"))) := h__law_asked_so T
  have mk_Rule : C8.Mak P w K mg base 4 "Rule" (He.ga K "Rule") (spI K (He.ga K "Rule") FI_rule) [] := mk_Rule T
  have mk_Rule_1 : C8.Mak P w K mg base 4 "Rule" (He.ga K "Rule") (spI K (He.ga K "Rule") FI_rule) [.ref (He.dflAt ("Rule", some "__init__") 0 K)] := mk_Rule_1 T
  have mkK_Rule_01 := mkK_Rule_01 (P := P) (w := w) (base := base) T
  have nil1 := nil_dflt T
  have m_Rule_labels : C8.Met P w K mg base 1 (He.ga K "Rule") "labels" (spR K (F_labels (He.ga K "Rule"))) [] := m_Rule_labels T
  have m_Rule_triples : C8.Met P w K mg base 1 (He.ga K "Rule") "triples" (spR K (F_rtriples (He.ga K "Rule"))) [] := m_Rule_triples T
  have m_Rule_below : C8.Met P w K mg base 2 (He.ga K "Rule") "below" (spR K (F_below (He.ga K "Rule"))) [] := m_Rule_below T
  have m_Rule___eq__ : C8.Met P w K mg base 1 (He.ga K "Rule") "__eq__" (spF (S0 K) (F_req (He.ga K "Rule"))) [] := m_Rule___eq__ T
  have m_Rule___len__ : C8.Met P w K mg base 1 (He.ga K "Rule") "__len__" (spF (S0 K) (F_rlen (He.ga K "Rule"))) [] := m_Rule___len__ T
  have m_Rule___repr__ : C8.Met P w K mg base 1 (He.ga K "Rule") "__repr__" (spF (S0 K) (F_rrepr (He.ga K "Rule"))) [] := m_Rule___repr__ T
  refine has_ofL T.d_law T.g_law sc_law (fun _ _ _ _ _ _ us hl => match us, hl with | [_], _ => rfl) (fun vs H Q E ⟨a, ns, e, _⟩ => by rw [e]; rfl) fun f A outer s0 H vs Q E hr h => ?_
  refine ⟨_, (pss_cons (ps_set (i := 1) sc_law.nd rfl (Or.inr rfl) (pe_has h__law_tape hr (pa_cons (pv 0) pa_nil)))
      (pss_cons (ps_for PassesOwn.never rfl (pi_range1 rfl T.f_range (pa_cons pe_int pa_nil)) (pg_name (i := 2) sc_law.nd rfl (by first | exact Or.inl rfl | exact Or.inr rfl)) (pss_cons (ps_set (i := 3) sc_law.nd rfl (Or.inl rfl) (pe_has h__law_spec hr (pa_cons (pv 1) pa_nil)))
        (pss_cons (ps_par (i := 4) (j := 5) rfl sc_law.nd rfl rfl (by decide) rfl rfl (pa_cons (pe_callTy (R.cr_list K) rfl T.f_list (by decide +kernel) (pa_cons (pe_ix (R.ix_seq K) (pv 3) pe_int (fun _ _ => rfl)) pa_nil)) (pa_cons (pe_lc (own := [("_law_form", 11)]) rfl sc_law.nd (R.pi_list K (pe_has h__law_mixed hr (pa_cons (pv 1) (pa_cons (pe_ix (R.ix_seq K) (pv 3) pe_int (fun _ _ => rfl)) pa_nil)))) (blkOk_by (N := N_law) (sc := (defScope s_law)) (by decide +kernel)) (fun _ _ _ _ _ => (pg_name (i := 11) sc_law.nd rfl (by first | exact Or.inl rfl | exact Or.inr rfl))) (fun _ _ _ _ _ => pts_nil) (fun _ _ _ _ _ => (pe_has h__law_turned hr (pa_cons (pv 1) (pa_cons (pv 11) pa_nil))))) pa_nil)) rfl)
        (pss_cons (ps_set (i := 5) sc_law.nd rfl (Or.inl rfl) (pe_op (R.op_addX K) (pv 5) (pe_lc (own := [("_law_form", 11)]) rfl sc_law.nd (R.pi_list K (pe_ix (R.ix_seq K) (pv 3) pe_int (fun _ _ => rfl))) (blkOk_by (N := N_law) (sc := (defScope s_law)) (by decide +kernel)) (fun _ _ _ _ _ => (pg_name (i := 11) sc_law.nd rfl (by first | exact Or.inl rfl | exact Or.inr rfl))) (fun _ _ _ _ _ => (pts_one (pt_cmpR op_eq (pe_has h__law_pick hr (pa_cons (pv 1) (pa_cons pe_int pa_nil))) pe_int (nomark _)))) (fun _ _ _ _ _ => (pe_has h__law_turned hr (pa_cons (pv 1) (pa_cons (pv 11) pa_nil)))))))
        (pss_cons (ps_set (i := 6) sc_law.nd rfl (Or.inl rfl) (pe_callTy (R.cr_list K) rfl T.f_list (by decide +kernel) (pa_cons (pv 5) pa_nil)))
        (pss_cons (ps_set (i := 7) sc_law.nd rfl (Or.inl rfl) (pe_lockQ (pe_lockQ (C8.pe_mk mk_Rule hr (by first | decide | exact Nat.le_refl _ | omega) rfl (pa_cons (pv 4) (pa_cons (pv 5) pa_nil))))))
        (pss_cons (ps_expr (pe_bm PySem.F.plainAttrs_list PySem.F.slot_list_append PySem.F.type_list_append mt_append (pv 4) (pa_cons pe_str pa_nil)))
        (pss_cons (ps_expr (pe_bm PySem.F.plainAttrs_list PySem.F.slot_list_append PySem.F.type_list_append mt_append (pv 5) (pa_cons pe_non pa_nil)))
        (pss_cons (ps_expr (pe_bm PySem.F.plainAttrs_list PySem.F.slot_list_append PySem.F.type_list_append mt_append (C8.pe_mt0 m_Rule_labels hr (by first | decide | exact Nat.le_refl _ | omega) (pv 7)) (pa_cons pe_non pa_nil)))
        (pss_cons (ps_expr (pe_bm PySem.F.plainAttrs_list PySem.F.slot_list_append PySem.F.type_list_append mt_append (C8.pe_mt0 m_Rule_triples hr (by first | decide | exact Nat.le_refl _ | omega) (pv 7)) (pa_cons pe_non pa_nil)))
        (pss_cons (ps_set (i := 8) sc_law.nd rfl (Or.inl rfl) (pe_op (R.op_addX K) (pe_op (R.op_addX K) (pe_op (R.op_addX K) (pe_op (R.op_addX K) pe_str (pe_callTy R.cr_str rfl T.f_str (by decide +kernel) (pa_cons (pe_callB (R.cr_len K) rfl T.f_len (by decide +kernel) (pa_cons (pe_ix (R.ix_seq K) (pv 3) pe_int (fun _ _ => rfl)) pa_nil)) pa_nil))) pe_str) (pe_callTy R.cr_str rfl T.f_str (by decide +kernel) (pa_cons (pe_callB (R.cr_len K) rfl T.f_len (by decide +kernel) (pa_cons (pe_ix (R.ix_seq K) (pv 3) pe_int (fun _ _ => rfl)) pa_nil)) pa_nil))) pe_str))
        (pss_cons (ps_if (pt_not (pt_val (pe_has h__law_same hr (pa_cons (pe_lst (pa_cons (C8.pe_mt0 m_Rule_labels hr (by first | decide | exact Nat.le_refl _ | omega) (pv 7)) (pa_cons (C8.pe_mt0 m_Rule_triples hr (by first | decide | exact Nat.le_refl _ | omega) (pv 7)) (pa_cons (pe_callB (call_lenI m_Rule___len__ hr) rfl T.f_len (by decide +kernel) (pa_cons (pv 7) pa_nil)) (pa_cons (pe_callB (call_repI m_Rule___repr__ hr) rfl T.f_repr (by decide +kernel) (pa_cons (pv 7) pa_nil)) pa_nil))))) (pa_cons (pe_lst (pa_cons (pe_ix (R.ix_seq K) (pv 3) pe_int (fun _ _ => rfl)) (pa_cons (pe_ix (R.ix_seq K) (pv 3) pe_int (fun _ _ => rfl)) (pa_cons (pe_callB (R.cr_len K) rfl T.f_len (by decide +kernel) (pa_cons (pe_ix (R.ix_seq K) (pv 3) pe_int (fun _ _ => rfl)) pa_nil)) (pa_cons (pv 8) pa_nil))))) pa_nil))))) (pss_one (ps_ret pe_bl)) pss_nil)
        (pss_cons (ps_for PassesOwn.never rfl (R.pi_list K (pe_ix (R.ix_seq K) (pv 3) pe_int (fun _ _ => rfl))) (pg_name (i := 9) sc_law.nd rfl (by first | exact Or.inl rfl | exact Or.inr rfl)) (pss_cons (ps_expr (pe_bm PySem.F.plainAttrs_list PySem.F.slot_list_append PySem.F.type_list_append mt_append (C8.pe_mt m_Rule_below hr (by first | decide | exact Nat.le_refl _ | omega) (pv 7) (pa_cons (pv 9) pa_nil)) (pa_cons pe_non pa_nil)))
          (pss_one (ps_if (pt_not (pt_val (pe_has h__law_same hr (pa_cons (C8.pe_mt m_Rule_below hr (by first | decide | exact Nat.le_refl _ | omega) (pv 7) (pa_cons (pv 9) pa_nil)) (pa_cons (pe_lc (own := [("_law_a", 12), ("_law_b", 13), ("_law_c", 14)]) rfl sc_law.nd (R.pi_list K (pe_ix (R.ix_seq K) (pv 3) pe_int (fun _ _ => rfl))) (blkOk_by (N := N_law) (sc := (defScope s_law)) (by decide +kernel)) (fun _ _ _ _ _ => (R.pg_tup K (n := 3) (pgs_cons (pg_name (i := 12) sc_law.nd rfl (by first | exact Or.inl rfl | exact Or.inr rfl)) (pgs_cons (pg_name (i := 13) sc_law.nd rfl (by first | exact Or.inl rfl | exact Or.inr rfl)) (pgs_cons (pg_name (i := 14) sc_law.nd rfl (by first | exact Or.inl rfl | exact Or.inr rfl)) pgs_nil))))) (fun _ _ _ _ _ => (pts_one (pt_cmpR op_eq (pv 12) (pv 9) (nomark _)))) (fun _ _ _ _ _ => (pe_tup (pa_cons (pv 13) (pa_cons (pv 14) pa_nil))))) pa_nil))))) (pss_one (ps_ret pe_bl)) pss_nil))))
        (pss_cons (ps_if (pt_not (pt_val (pe_has h__law_asked_so hr (pa_cons (pv 1) (pa_cons (pe_ix (R.ix_seq K) (pv 3) pe_int (fun _ _ => rfl)) (pa_cons (pe_ix (R.ix_seq K) (pv 3) pe_int (fun _ _ => rfl)) (pa_cons (pv 7) pa_nil))))))) (pss_one (ps_ret pe_bl)) pss_nil)
        (pss_cons (ps_if (PW.pt (pw_or (pt_cmpR (op_neI T.ne_Rule m_Rule___eq__ hr) (pv 7) (C8.pe_mk mk_Rule hr (by first | decide | exact Nat.le_refl _ | omega) rfl (pa_cons (pe_callTy (R.cr_tup K) rfl T.f_tuple (by decide +kernel) (pa_cons (pe_ix (R.ix_seq K) (pv 3) pe_int (fun _ _ => rfl)) pa_nil)) (pa_cons (pe_callTy (R.cr_tup K) rfl T.f_tuple (by decide +kernel) (pa_cons (pv 6) pa_nil)) pa_nil))) (nomark _)) (pw_or1 (pt_cmpR (op_eqI m_Rule___eq__ hr) (pv 7) (pv 3) (nomark _))))) (pss_one (ps_ret pe_bl)) pss_nil)
        (pss_cons (ps_set (i := 10) sc_law.nd rfl (Or.inl rfl) (C8.pe_mk mk_Rule hr (by first | decide | exact Nat.le_refl _ | omega) rfl (pa_cons (R.pe_revL K (pe_ix (R.ix_seq K) (pv 3) pe_int (fun _ _ => rfl))) (pa_cons (pe_ix (R.ix_seq K) (pv 3) pe_int (fun _ _ => rfl)) pa_nil))))
        (pss_cons (ps_if (PW.pt (pw_or (pt_cmpR op_ne (pe_cmpR (op_eqI m_Rule___eq__ hr) (pv 10) (pv 7) (nomark _)) (pe_cmpR op_eq (pe_callB (R.cr_len K) rfl T.f_len (by decide +kernel) (pa_cons (pe_ix (R.ix_seq K) (pv 3) pe_int (fun _ _ => rfl)) pa_nil)) pe_int (nomark _)) (nomark _)) (pw_or1 (pt_cmpR (op_neI T.ne_Rule m_Rule___eq__ hr) (pe_mkK0 [0, 1] mkK_Rule_01 hr (pk_cons (pe_ix (R.ix_seq K) (pv 3) pe_int (fun _ _ => rfl)) (pk_cons (pe_ix (R.ix_seq K) (pv 3) pe_int (fun _ _ => rfl)) pk_nil))) (pv 7) (nomark _))))) (pss_one (ps_ret pe_bl)) pss_nil)
        (pss_one (ps_if (PW.pt (pw_and (pt_cmpR (R.op_neD K (un64 hr)) (pe_ix (R.ix_seq K) (pv 3) pe_int (fun _ _ => rfl)) (pe_lst pa_nil) (nomark _)) (pw_and1 (pt_cmpR (op_eqI m_Rule___eq__ hr) (C8.pe_mk mk_Rule hr (by first | decide | exact Nat.le_refl _ | omega) rfl (pa_cons (pe_ix (R.ix_seq K) (pv 3) pe_int (fun _ _ => rfl)) (pa_cons (pe_slice (R.sl_any K) (pe_ix (R.ix_seq K) (pv 3) pe_int (fun _ _ => rfl)) (po_some pe_int) po_none) pa_nil))) (pv 7) (nomark _))))) (pss_one (ps_ret pe_bl)) pss_nil)))))))))))))))))))
      (pss_one (ps_ret (pe_and (pe_cmpR op_eq (R.pe_cval K (C8.pe_gc (v := .ref (He.ga K "Rule")) rfl ⟨_, T.g_Rule, rfl⟩)) pe_int (nomark _)) (pe_one (pe_cmpR op_eq (pe_callB (call_lenI m_Rule___len__ hr) rfl T.f_len (by decide +kernel) (pa_cons (C8.pe_mk mk_Rule_1 hr (by first | decide | exact Nat.le_refl _ | omega) rfl (pa_cons (pe_lst (pa_cons pe_str pa_nil)) pa_nil)) pa_nil)) pe_int (nomark _)))))))), ?_⟩
  obtain ⟨a, ns, rfl, hP, hS, q0⟩ := h
  refine law_startL (q := (envOfC "law" (defScope s_law) 0 0 .none).qual ++ "<lambda>") hP hS q0 fun p c => ?_
  refine run_seq (run_for (vs := [2]) (evi_range1 (eva_cons (ev_cint (eva_nil ⟨4, rfl, by decide, by decide, ?_⟩)))))
  refine ⟨fun i ρ => ∃ o2 o3 o4 o5 o6 o7 o8 o9 o10, ρ = [some (.dat (.loc a)), some (.dat (.loc p)), o2, o3, o4, o5, o6, o7, o8, o9, o10, none, none, none, none], ⟨none, none, none, none, none, none, none, none, none, rfl⟩, ?_, ?_⟩
  · rintro i y ρ1 hy ⟨o2, o3, o4, o5, o6, o7, o8, o9, o10, rfl⟩
    refine evg_name (by simp) ?_
    refine run_seq (run_set (ev_callTL (eva_cons (ev_var (by rfl) (eva_nil ⟨rfl, fun ws ts g => ?_⟩)))))
    have hlen := g.len
    have hws := g.g.hi
    have lo := g.g.lo
    have evT : ∀ {ρ : DEnv} {Q : D → Prop} {v : Nat} {t : Tr}, ρ[1]? = some (some (.dat (.loc p))) → ρ[v]? = some (some (.dat (t3 t))) → Q (t3 t) → Q (t3 (turnT t)) → Ev (SL K ⟨p, c, Pt, (envOfC "law" (defScope s_law) 0 0 .none).qual ++ "<lambda>"⟩) (tCall (spT (ST K) F_turned) [] E0 (tCons (tVar 1) (tCons (tVar v) tNil))) ρ Q := fun h1 h2 q1 q2 => ev_callTL (eva_cons (ev_var h1 (eva_cons (ev_var h2 (eva_nil ⟨_, rfl, q1, q2⟩)))))
    refine run_seq (run_parE (evs_list (eva_cons (ev_op (ev_var (by rfl) (ev_cint (spec0 (eva_nil ⟨_, .inl rfl, evs_dat (ev_lcG (evi_list (ev_callTL (eva_cons (ev_var (by rfl) (eva_cons (ev_op (ev_var (by rfl) (ev_cint (spec1 (eva_nil ⟨_, rfl, by rw [List.length_map]; omega, fun ys pm => ?_⟩)))))))))))⟩))))))))
    obtain ⟨l, rfl, pl⟩ := perm_t3 pm
    have lin : ∀ t ∈ l, inT ws t := fun t ht => g.inn t (pl.mem_iff.mp ht)
    have ll := pl.length_eq
    refine ⟨_, rfl, lc_any (l := l) t3 (fun t y => y = t3 t ∨ y = t3 (turnT t)) (szs (by omega)) (fun t ht => evg_name (by decide) (evT (by rfl) (by rfl) (.inl rfl) (.inr rfl))) fun ys hys => ?_⟩
    obtain ⟨us, rfl, um, ui⟩ := turned_all (ws := ws) lin hys
    have ul : us.length = l.length := by
      have := congrArg List.length um
      rw [List.length_map, List.length_map] at this
      exact this
    -- the second list of turned triples
    refine run_seq (run_setF (evf_cat (ev_var (by rfl) ⟨_, rfl, ev_lcG (evi_list (ev_op (ev_var (by rfl) (ev_cint (spec1 ⟨_, rfl, ?_⟩)))))⟩)))
    refine ⟨Tr, ts, t3, rfl, fun t ys => ys = [] ∨ ys = [t3 t] ∨ ys = [t3 (turnT t)], fun t ht => evg_name (by decide) ?_, szs (by omega), fun yss hyss => ?_⟩
    · refine evt_test (ev_op (ev_callTL (eva_cons (ev_var (by rfl) (eva_cons (ev_cint (eva_nil ⟨3, rfl, by decide, abs_small (n := 3) (by decide), fun k _ _ => ev_cint (rvr_eqI ⟨_, rfl, iteB (fun _ => ?_) fun _ => .inl rfl⟩)⟩)))))))
      exact evT (by rfl) (by rfl) (.inr (.inl rfl)) (.inr (.inr rfl))
    obtain ⟨us2, e2, ui2, ul2⟩ := turned_some (ws := ws) g.inn hyss
    rw [e2]
    refine ⟨_, rfl, szs (by rw [List.length_map, List.length_map]; omega), ?_⟩
    rw [← List.map_append]
    have um2 : ∀ u ∈ us ++ us2, inT ws u := fun u hu => (List.mem_append.mp hu).elim (ui u) fun h => (ui2 u h).1
    have uos : (fun t => decide (t ∈ (us ++ us2).map (plainT ws))) = fun t => decide (t ∈ ts) := by
      refine os_like g (fun u hu => ?_) fun t ht => ?_
      · rcases List.mem_append.mp hu with h | h
        · have : plainT ws u ∈ l.map (plainT ws) := by rw [← um]; exact List.mem_map.mpr ⟨u, h, rfl⟩
          obtain ⟨t, ht, e⟩ := List.mem_map.mp this
          rw [← e]
          have ht' := pl.mem_iff.mp ht
          rw [forms_plain g.g.nd (g.sub.mem ht')]
          exact ht'
        · have := (ui2 u h).2
          rw [g.plain] at this
          exact this
      · have : t ∈ us.map (plainT ws) := by
          rw [um]
          exact List.mem_map.mpr ⟨t, pl.mem_iff.mpr ht, forms_plain g.g.nd (g.sub.mem ht)⟩
        obtain ⟨u, hu, e⟩ := List.mem_map.mp this
        exact ⟨u, List.mem_append.mpr (.inl hu), e⟩
    have al : (us ++ us2).length ≤ 250 := by rw [List.length_append]; omega
    generalize us ++ us2 = all at um2 uos al
    have os_all : (cube ws).filter (fun t => decide (t ∈ all.map (plainT ws))) = ts := by rw [uos]; exact spec_os g
    have kn_all : ∀ {kn : List (List Key × D)}, (∀ t, (valD kn (k3 t)).isSome = decide (t ∈ all.map (plainT ws))) → ∀ t, (valD kn (k3 t)).isSome = decide (t ∈ ts) := fun h t => by rw [h t]; exact congrFun uos t
    walk_at "en"
    refine run_seq (run_set (ev_listO (i := 5) (by rfl) ?_))
    walk_at "en"
    refine run_seq (run_set (ev_lockO (i := 4) (by rfl) (ev_lockO (i := 5) (by rfl) (ev_make (fun _ => .nil) (eva_cons (ev_var (by rfl) (eva_cons (ev_var (by rfl) (eva_nil ⟨_, _, ws, all, rfl, .inr (.inl (.inr rfl)), .inr (.inr rfl), g.g, um2, by omega, fun kn hk nf => ?_⟩)))))))))
    rw [os_all]
    have hk := kn_all hk
    refine ⟨rule_noF nf, rule_noF nf, ?_⟩
    walk_at "en"
    refine run_seq (run_append (k := 4) (by rfl) (lt_size (m := 5) (by rw [List.length_map]; omega)) (ev_cstr ?_))
    refine run_seq (run_append (k := 5) (by rfl) (lt_size (m := 250) (by rw [List.length_map]; omega)) (ev_cnon ?_))
    refine run_seq (run_drop_append (evf_meth (ev_var (by rfl) ⟨_, rfl, rfl, eva_nil ⟨_, _, rfl, rfl, _, rfl, lt_size (m := 5) (by rw [List.length_map]; omega), ev_cnon ?_⟩⟩)))
    refine run_seq (run_drop_append (evf_meth (ev_var (by rfl) ⟨_, rfl, rfl, eva_nil ⟨_, _, rfl, rfl, _, rfl, lt_size (m := 125) (by rw [List.length_map]; omega), ev_cnon ?_⟩⟩)))
    walk_at "en"
    have n1 := numS_len (show ws.length ≤ 1000 by omega)
    have n2 := numS_len (show ts.length ≤ 1000 by omega)
    have e1 : ("Rule(" : Str).length = 5 := by decide +kernel
    have e2' : (" labels, " : Str).length = 9 := by decide +kernel
    have e3 : (" triples)" : Str).length = 9 := by decide +kernel
    refine run_seq (run_set (ev_op (ev_op (ev_op (ev_op (ev_cstr (ev_cb (eva_cons (ev_cb (eva_cons (ev_op (ev_var (by rfl) (ev_cint (spec0 (eva_nil (rvc_lenL ?_))))))))))))))))
    rw [List.length_map]
    refine eva_nil (rvc_str (by omega) (rvr_addX_s (szs (by omega)) (ev_cstr (rvr_addX_s (szs (by rw [app_len]; omega)) (ev_cb (eva_cons (ev_cb (eva_cons (ev_op (ev_var (by rfl) (ev_cint (spec1 (eva_nil (rvc_lenL ?_))))))))))))))
    rw [List.length_map]
    refine eva_nil (rvc_str (by omega) (rvr_addX_s (szs (by rw [app_len, app_len]; omega)) (ev_cstr (rvr_addX_s (szs (by rw [app_len, app_len, app_len]; omega)) ?_))))
    walk_at "en"
    refine run_seq (run_if (evt_not (evt_b (ev_call (eva_cons (ev_lst (eva_cons (ev_methR (ev_var (by rfl) ⟨_, rfl, rfl, eva_nil ⟨_, _, rfl, rfl, _, rfl, eva_cons (ev_methR (ev_var (by rfl) ⟨_, rfl, rfl, eva_nil ⟨_, _, rfl, rfl, _, rfl, eva_cons (ev_cb (eva_cons (ev_var (by rfl) (eva_nil (rvc_lenO ⟨ws, kn, ts, rfl, _, rfl, by omega, eva_cons (ev_cb (eva_cons (ev_var (by rfl) (eva_nil (rvc_repO ⟨ws, kn, ts, rfl, by omega, by omega, _, rfl, eva_nil ⟨szr rfl, ?_⟩⟩)))))⟩)))))⟩⟩))⟩⟩)))))))))
    refine eva_cons (ev_lst (eva_cons (ev_op (ev_var (by rfl) (ev_cint (spec0 (eva_cons (ev_op (ev_var (by rfl) (ev_cint (spec1 (eva_cons (ev_cb (eva_cons (ev_op (ev_var (by rfl) (ev_cint (spec1 (eva_nil (rvc_lenL ?_))))))))))))))))))))
    rw [List.length_map]
    have s1 := strs_same ws (by omega)
    have s2 := t3s_same ts (by omega)
    refine eva_cons (ev_var (by rfl) (eva_nil ⟨szr rfl, eva_nil ⟨_, rfl, ?_, ?_, _, rfl, iteF (run_next ?_)⟩⟩))
    · show (true && (okD (.lst (ws.map D.str)) && (okD (.lst (ts.map t3)) && true))) = true
      rw [s1.1, s2.1]
      rfl
    · show max (depD (.lst (ws.map D.str))) (max (depD (.lst (ts.map t3))) (max 1 (max 1 0))) + 1 ≤ 5
      have := s1.2
      have := s2.2
      omega
    walk_at "en"
    refine run_seq (run_for (vs := [9]) (evi_list (ev_op (ev_var (by rfl) (ev_cint (spec0 ⟨_, rfl, ?_⟩))))))
    refine ⟨fun i ρ => ∃ o9, ρ = [some (.dat (.loc a)), some (.dat (.loc p)), some (.dat y), some (.dat (specD ws ts)), some (.own (ws.map D.str ++ [.str "zz"])), some (.own (all.map t3 ++ [.non])), some (.dat (.lst (all.map t3))), some (.dat (ruleD (He.ga K "Rule") ws kn ts)), some (.dat (.str (ruleS ws.length ts.length))), o9, o10, none, none, none, none], ⟨_, rfl⟩, ?_, ?_⟩
    · rintro j d ρ2 hj ⟨o9', rfl⟩
      obtain ⟨b, hb, rfl⟩ := get_map_str hj
      have hm : b ∈ ws := List.mem_of_getElem? hb
      refine evg_name (by simp) ?_
      refine run_seq (run_drop_append (evf_meth (ev_var (by rfl) ⟨_, rfl, rfl, eva_cons (ev_var (by rfl) (eva_nil ⟨_, b, ws, ts, rfl, rfl, rfl, rfl, hm, _, rfl, lt_size (m := 125) ?_, ev_cnon ?_⟩))⟩)))
      · rw [List.length_map]
        unfold pairsOf
        rw [List.length_map]
        exact Nat.le_trans (List.length_filter_le _ _) hlen
      walk_at "en"
      refine run_if (evt_not (evt_b (ev_call (eva_cons (ev_methR (ev_var (by rfl) ⟨_, rfl, rfl, eva_cons (ev_var (by rfl) (eva_nil ⟨_, b, ws, ts, rfl, rfl, rfl, rfl, hm, _, rfl, eva_cons (ev_lcG (evi_list (ev_op (ev_var (by rfl) (ev_cint (spec1 ⟨_, rfl, lc_filter (l := ts) t3 (fun t => decide (t.1 = b)) (fun t => p2 (t.2.1, t.2.2)) (szs (by omega)) (fun t ht => ?_) ?_⟩))))))⟩))⟩))))))
      · show EvG _ _ _ _ (.tup [.str t.1, .str t.2.1, .str t.2.2]) _
        refine evg_tup rfl (evgs_cons (evg_name (by decide) (evgs_cons (evg_name (by decide) (evgs_cons (evg_name (by decide) (evgs_nil ?_)))))))
        exact evt_test (ev_op (ev_var (by rfl) (ev_var (by rfl) (rvr_eqS ⟨_, rfl, rfl, fun _ => ev_tup (eva_cons (ev_var (by rfl) (eva_cons (ev_var (by rfl) (eva_nil ⟨szr rfl, rfl⟩)))))⟩))))
      have ep : (ts.filter fun t => decide (t.1 = b)).map (fun t => p2 (t.2.1, t.2.2)) = (pairsOf ts b).map p2 := by
        unfold pairsOf
        rw [List.map_map]
        rfl
      rw [ep]
      have pl : (pairsOf ts b).length ≤ 125 := by
        unfold pairsOf
        rw [List.length_map]
        exact Nat.le_trans (List.length_filter_le _ _) hlen
      have sp := p2s_same (pairsOf ts b) (by omega)
      exact eva_nil ⟨_, rfl, sp.1, by have := sp.2; omega, _, rfl, iteF (run_next ⟨_, rfl⟩)⟩
    rintro ρ2 ⟨o9', rfl⟩
    refine run_seq (run_if (evt_not (evt_b (ev_callTL (eva_cons (ev_var (by rfl) (eva_cons (ev_op (ev_var (by rfl) (ev_cint (spec0 (eva_cons (ev_op (ev_var (by rfl) (ev_cint (spec1 (eva_cons (ev_var (by rfl) (eva_nil ⟨ws, kn, ts, rfl, g, hk, _, rfl, iteF (run_next ?_)⟩)))))))))))))))))))
    have rok : RuleOk ws ts := ⟨g.g.good, g.inn⟩
    refine run_seq (run_if (evt_or (evt_test (ev_op (ev_var (by rfl) (ev_make (fun _ => .nil) (eva_cons (ev_cb (eva_cons (ev_op (ev_var (by rfl) (ev_cint (spec0 (eva_nil (rvc_tupL (eva_cons (ev_cb (eva_cons (ev_var (by rfl) (eva_nil (rvc_tupL (eva_nil ⟨_, _, ws, all, rfl, .inr (.inl (.inl rfl)), .inr (.inl rfl), g.g, um2, by omega, fun kn2 hk2 nf2 => ?_⟩))))))))))))))))))))))
    rw [os_all]
    refine rvr_neO oth_self ⟨ws, kn, ts, _, rfl, rok, .inl ⟨ws, kn2, ts, rfl, rok, _, rfl, _, rfl, ?_⟩⟩
    rw [decide_eq_true (show ws = ws ∧ ts = ts from ⟨rfl, rfl⟩)]
    refine iteF (evt_test (ev_op (ev_var (by rfl) (ev_var (by rfl) (rvr_eqO (by rfl) ⟨ws, kn, ts, _, rfl, rok, .inr ⟨⟨_, rfl⟩, _, rfl, _, rfl, iteF (run_next ?_)⟩⟩)))))
    -- the labels backwards
    have gr := rev_good g.g
    have inr : ∀ t ∈ ts, inT ws.reverse t := fun t ht => ⟨List.mem_reverse.mpr (g.inn t ht).1, List.mem_reverse.mpr (g.inn t ht).2.1, List.mem_reverse.mpr (g.inn t ht).2.2⟩
    refine run_seq (run_set (ev_make (fun _ => .nil) (eva_cons (ev_revL (ev_op (ev_var (by rfl) (ev_cint (spec0 ⟨_, rfl, ?_⟩))))))))
    rw [← List.map_reverse]
    refine eva_cons (ev_op (ev_var (by rfl) (ev_cint (spec1 (eva_nil ⟨_, _, ws.reverse, ts, rfl, .inl rfl, .inl rfl, gr, inr, by omega, fun kn3 hk3 nf3 => ?_⟩)))))
    have rok3 : RuleOk ws.reverse ((cube ws.reverse).filter fun t => decide (t ∈ ts.map (plainT ws.reverse))) := ⟨gr.good, fun t ht => cube_mem.mp (List.mem_filter.mp ht).1⟩
    have e13 : decide (ws.reverse = ws ∧ ((cube ws.reverse).filter fun t => decide (t ∈ ts.map (plainT ws.reverse))) = ts) = decide (ws.length = 1) := by
      rw [← rev_ne g.g, decide_eq_decide]
      refine ⟨(·.1), fun e => ⟨e, ?_⟩⟩
      rw [e]
      exact g.os
    generalize ((cube ws.reverse).filter fun t => decide (t ∈ ts.map (plainT ws.reverse))) = os3 at rok3 e13
    walk_at "en"
    refine run_seq (run_if (evt_or (evt_test (ev_op (ev_op (ev_var (by rfl) (ev_var (by rfl) (rvr_eqO oth_self ⟨_, kn3, os3, _, rfl, rok3, .inl ⟨ws, kn, ts, rfl, rok, _, rfl, ev_op (ev_cb (eva_cons (ev_op (ev_var (by rfl) (ev_cint (spec0 (eva_nil (rvc_lenL (ev_cint (rvr_eqI (rvr_neBB ⟨_, rfl, ?_⟩)))))))))))⟩⟩))))))))
    rw [List.length_map, e13]
    have e1i : decide ((ws.length : Int) = 1) = decide (ws.length = 1) := by rw [decide_eq_decide]; omega
    rw [e1i, decide_eq_true (rfl : decide (ws.length = 1) = decide (ws.length = 1))]
    refine iteF (evt_test (ev_op (ev_makeK (eva_cons (ev_op (ev_var (by rfl) (ev_cint (spec0 (eva_cons (ev_op (ev_var (by rfl) (ev_cint (spec1 (eva_nil ⟨rfl, _, _, ws, ts, rfl, .inl rfl, .inl rfl, g.g, g.inn, by omega, fun kn4 hk4 nf4 => ?_⟩))))))))))))))
    rw [g.os]
    refine ev_var (by rfl) (rvr_neO oth_self ⟨ws, kn4, ts, _, rfl, rok, .inl ⟨ws, kn, ts, rfl, rok, _, rfl, _, rfl, ?_⟩⟩)
    rw [decide_eq_true (show ws = ws ∧ ts = ts from ⟨rfl, rfl⟩)]
    refine iteF (run_next ?_)
    -- one triple less
    refine run_if (evt_and (evt_test (ev_op (ev_op (ev_var (by rfl) (ev_cint (spec1 (ev_lst (eva_nil ⟨szr rfl, rvr_neD (tm3L_D ts) (tm3L_D []) (tm3L_lay g.g.good g.inn) (tm3L_lay g.g.good fun _ h => (by cases h)) (by decide) (by decide) fun r hr => ⟨_, rfl, ?_⟩⟩)))))))))
    rw [tm3L_inj] at hr
    cases r with
    | true => exact iteF (iteF (run_next ⟨_, _, _, _, _, _, _, _, _, rfl⟩))
    | false =>
      have t0 : ts ≠ [] := fun e => Bool.false_ne_true (hr.mpr e)
      obtain ⟨l1, el1, nl1, ml1⟩ : ∃ l1 : List Tr, NB.cutD (ts.map t3) (some 1) none = l1.map t3 ∧ l1 = ts.drop 1 ∧ True := by
        refine ⟨ts.drop 1, ?_, rfl, trivial⟩
        exact (cutD_drop (ds := ts.map t3) (j := 1) (by rw [List.length_map]; exact List.length_pos_iff.mpr t0)).trans List.map_drop.symm
      refine iteT (evt_test (ev_op (ev_make (fun _ => .nil) (eva_cons (ev_op (ev_var (by rfl) (ev_cint (spec0 (eva_cons (ev_sl (ev_op (ev_var (by rfl) (ev_cint (spec1 (evo_some (ev_cint ⟨_, rfl, evo_none (rvs_any_l ?_)⟩))))))))))))))))
      rw [el1, nl1]
      refine eva_nil ⟨_, _, ws, ts.drop 1, rfl, .inl rfl, .inl rfl, g.g, fun t ht => g.inn t (List.mem_of_mem_drop ht), by rw [List.length_drop]; omega, fun kn5 hk5 nf5 => ?_⟩
      rw [tail_os g]
      refine ev_var (by rfl) (rvr_eqO oth_self ⟨ws, kn5, ts.drop 1, _, rfl, ⟨g.g.good, fun t ht => g.inn t (List.mem_of_mem_drop ht)⟩, .inl ⟨ws, kn, ts, rfl, rok, _, rfl, ?_⟩⟩)
      rw [decide_eq_false fun h => by
        have := congrArg List.length h.2
        rw [List.length_drop] at this
        have := List.length_pos_iff.mpr t0
        omega]
      exact ⟨_, rfl, iteF (run_next ⟨_, _, _, _, _, _, _, _, _, rfl⟩)⟩
  · rintro ρ1 ⟨o2, o3, o4, o5, o6, o7, o8, o9, o10, rfl⟩
    refine run_ret (ev_andV (ev_op (ev_cval (d := .int 5) rfl T.cv_Rule_MOST (ev_cloc ⟨rfl, ev_cint (rvr_eqI ⟨_, rfl, iteT ?_⟩)⟩))))
    refine ev_op (ev_cb (eva_cons (ev_make (fun H => nil1 H) (eva_cons (ev_lst (eva_cons (ev_cstr (eva_nil ⟨szr rfl, eva_nil ⟨_, _, w1, [], rfl, .inr (.inr ⟨rfl, rfl⟩), .inl rfl, good1, fun _ h => (by cases h), by decide, fun kn hk nf => ?_⟩⟩))))))))
    have e0 : ((cube w1).filter fun t => decide (t ∈ ([] : List Tr).map (plainT w1))) = [] := by simp
    rw [e0]
    exact eva_nil (rvc_lenO ⟨w1, kn, [], rfl, 0, rfl, by decide, ev_cint (rvr_eqI rfl)⟩)

end
end K03

namespace K03
open PySem PySem.Spec PyProof.Rows L2 NB
theorem facts {P : Program} {w : World} {K : PySem.W.Frag} {h : Heap} {mg : Str → Option Value} {f : Addr} (hF : Xm.FileOk P file0) (X : K.In h) (G : h.Ns mainGlobals mg) (hfa : mg ("law" : Str) = some (.ref f)) (c : Hy.SaysY fa fn [] [("law", none)] exB file0 cfl w h K) :
    ∃ fd : FuncData, (∀ (s : Shared) (v : Value), BindsTo s fd ⟨[v], []⟩ [("_law_script", v)]) ∧ ∀ base : Heap, K.In base → base.Ns mainGlobals mg → LamX.TabB base mg (He.cT K ("law", none)).1 (He.cT K ("law", none)).2 → FnOk P w K mg base CX0 8 f fd ["_law_script"] (spLawL K (He.cT K ("law", none)).2) := by
  have T : Hd K mg := ⟨⟨h, X, G⟩, c.x.t.d, c.x.more, fun i d e hp => c.fn_ i e hp, fun i d e hp => c.prop_ i e hp⟩
  have e := hfa.symm.trans T.g_law
  cases e
  obtain ⟨fd, F⟩ := T.d_law
  have b := FunD.bindsA (ps := ["_law_script"]) F fun _ _ _ _ _ _ us hl => match us, hl with | [_], _ => rfl
  refine ⟨fd, fun s v => b s [v] rfl, fun base _ _ TB => ?_⟩
  obtain ⟨fd', Fo, _, _, _, lk⟩ := h_law (P := P) (w := w) (base := base) T hF TB
  obtain rfl := fd_one F.lk lk
  exact Fo
end K03
open PySem PySem.W PySem.Calls PyProof.Rows
set_option maxRecDepth 100000 in
set_option maxHeartbeats 0 in
theorem PySem.Challenge.cw_nearboughs_k03_rules_made_holds : PySem.Challenge.rw_nearboughs_k03_rules_made.Holds := by
  w_on; o_law
  refine HandSHeadRun.head_any (r := OpenLaw.row PySem.Challenge.rw_nearboughs_k03_rules_made) (q := view (OpenLaw.row PySem.Challenge.rw_nearboughs_k03_rules_made).prog [39]) (H := K03.hk) (ob := K03.ob) (M := 100000) (loose := K03.loose) (d := HandSHeadRun.topDef (OpenLaw.row PySem.Challenge.rw_nearboughs_k03_rules_made).prog 39) (kwd := []) K03.ob_eq
    (by kernel_rfl) (fun s => by kernel_rfl) K03.run (by kernel_rfl) (by kernel_rfl) (by kernel_rfl) (by rfl) (by first | assumption | decide +kernel) (by decide +kernel) ⟨rfl, rfl, rfl, rfl, rfl, by decide +kernel⟩ ?hw ?hc
  case hw => w_witness2
  case hc =>
    refine LamX.walk_ofTsE (l := PySem.Challenge.rw_nearboughs_k03_rules_made) (n := 63) (k := 8) (x := "_law_script") (CX := fun _ => L2.CX0) rfl (by decide) (by kernel_rfl) ⟨rfl, by decide, by decide⟩ ?F (fun _ _ _ _ _ z => z)
    intro w mg fa h Y G hmg0
    obtain ⟨K, KX, c⟩ := Y
    have hmg : mg ("law" : PySem.Str) = some (.ref fa) := by
      have e : (HandSHeadRun.topDef (OpenLaw.row PySem.Challenge.rw_nearboughs_k03_rules_made).prog 39).name = ("law" : PySem.Str) := by kernel_rfl
      rw [← e]
      exact hmg0
    obtain ⟨fd, hb, hF⟩ := K03.facts (P := (PySem.Challenge.rw_nearboughs_k03_rules_made).prog) (w := w) ⟨by kernel_rfl, by kernel_rfl⟩ KX G hmg c
    refine ⟨K, KX, fd, [He.cT K ("law", none)], NB.spLawL K (He.cT K ("law", none)).2, ?_, ?_, ?_, hb, fun H a ns hl _ hT hS => ⟨a, ns, rfl, hT _ List.mem_cons_self, hS, fun _ => rfl⟩, fun base hK hG hTB => hF base hK hG (hTB _ List.mem_cons_self)⟩
    · exact fun p hp => by
        rw [List.mem_singleton.mp hp]
        exact c.x.empty ("law", none) List.mem_cons_self
    · exact fun p hp => by
        rw [List.mem_singleton.mp hp]
        exact c.x.out ("law", none) List.mem_cons_self
    · exact fun p hp => by
        rw [List.mem_singleton.mp hp]
        exact PySem.W.codeHd_of_K KX (c.x.hd ("law", none) List.mem_cons_self)
#print axioms PySem.Challenge.cw_nearboughs_k03_rules_made_holds
