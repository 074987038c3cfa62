import PyProof.Rows.All
import Wide.All
import OpenK.AllK
import Wide.FinOn
import KE.KSuper
import KE.KExcSuper
import HandS.ForMost
import HandS.ForExc
import HandS.Wide
import HandS.Exc
import HandS.ExcOwn
import HandS.ExcInit
import HandS.ExcIs
import HandS.Defaults
import HandS.Codes
import HandS.CallSlots
import HandS.HeadHook1
import HandS.HeadHook2
import HandS.Head0
import HandS.Head1
import HandS.Head2
import HandS.IsInst
import HandS.TupAny
import HandS.Rev
import HandS.Zip
import HandS.Base
import HandS.Call
import HandS.CallRecv
import HandS.HeadWalk
import HandS.ExcCtx
import HandS.Flow
import HandS.HotCalls
import HandS.List
import KE.KExcIs
import HandS.ExcField
import HandS.Conv
import HandS.Text
import HandS.Dict
import HandS.Hot
import HandS.Comp
import PyProof.ConsumeS
import KE.KStateDown
import Lean
import HandS.Ends
import HandS.More
import HandS.Words
import HandS.WordsExc
import HandS.HeadEnd
import HandS.HeadHook4
import HandS.EndBits
import PySem.Challenge.RW_forkflags_k01_whole_state_numbers
set_option Elab.async false
set_option linter.all false
set_option autoImplicit false
set_option maxRecDepth 100000
set_option maxHeartbeats 1000000
/-! Fk A: what is asked of the head -/
namespace FkS
open PySem PySem.Spec PyProof.Rows PySem.Calls
open L2
/-- names of such a def -/
def scS (N P : List Str) (sc : Scope) : Bool :=
  decide (sc.kind = .function) && !sc.isCoroutine && !sc.isGenerator && decide N.Nodup && decide (N.take P.length = P) && P.all (fun x => decide (sc.names.lookup x = some .local)) && decide (sc.names.lookup ("super" : Str) = some .globalImplicit) &&
  decide (sc.names.lookup ("__class__" : Str) = some .free) && sc.names.all (fun y => !decide (y.2 = .cell) && (!decide (y.2 = .free) || decide (y.1 = "__class__")))
end FkS
namespace Fk
open PySem PySem.Spec PyProof.Rows L2 FkS
/-- a value without identity -/
inductive P where
  | non | bl (b : Bool) | int (i : Int) | str (s : Str)
  | tup (xs : List P) | lst (xs : List P) | rol (xs : List P) | dct (kvs : List (P × P))
  | obj (c : Nat) (fs : List (Nat × P))
  | cls (c : Nat) | ty (n : String)
/-- what an exception class makes of its argument -/
inductive Xk where
  | plain | intf (f : Nat) | shown (f : Nat) | share (f : Nat)
  deriving DecidableEq
/-- an exception class that is raised -/
structure XcI where
  nm : Str
  cl : Nat
  kd : Xk
  ps : List Str
  N : List Str
  dfl : List P
def parB (p : Arguments) (ps : List Str) : Bool := p.posonlyargs.isEmpty && decide (p.args.map (·.arg) = ps) && p.kwonlyargs.isEmpty && p.vararg.isNone && p.kwarg.isNone && decide ps.Nodup
/-- the class object of such an exception -/
def oexB (K : PySem.W.Frag) (C : Addr) : Bool := (match K.lookup C with
  | some ⟨.type "type", _, .cls cd, sl⟩ => (match cd.mro, sl.toList with
    | .ref C' :: bm, [_, _, _, _, some (.builtin n), _] => C' == C && n == "ValueError.__new__" && !cd.hasDel && cd.hasDict && HandSPX.refsVE bm
    | _, _ => false)
  | _ => false) && decide (PySem.W.findIn K (.ref C) "__setattr__" = some (some (.builtin "object.__setattr__"))) && decide (PySem.W.subIn K (.ref C) (.type "BaseException") = some true) && decide (PySem.W.typeIn K (.ref C) = some (.type "type")) && PySem.W.keepIn K (.ref C)
def pV : P → V
  | .bl b => .bl b
  | .int i => .int i
  | .str s => .str s
  | _ => .non
def flatD : P → Bool
  | .non => true | .bl _ => true | .int _ => true | .str _ => true
  | _ => false
/-- the body of a plain one: super().__init__(message) -/
def bodyB (k : Xk) (ps : List Str) : List Stmt → Bool
  | [.Expr (.Call (.Attribute (.Call (.Name s _) [] [] _) i pa) [.Name m _] [] pc) _] => (match k with
    | .plain => decide (s = "super") && decide (i = "__init__") && decide (ps[1]? = some m) && (pa.endLine == pc.line) && m != ("__debug__" : Str) && m != ("__classdict__" : Str)
    | _ => false)
  | _ => false
def xcB (Pr : Program) (K : PySem.W.Frag) (xi : XcI) : Bool :=
  oexB K (He.ga K xi.nm) && decide (PySem.W.ks_superIn K (He.ga K xi.nm) (He.ga K xi.nm) "__init__" = some (some (.builtin "ValueError.__init__"))) && decide (PySem.W.subIn K (.ref (He.ga K xi.nm)) (.type "ValueError") = some true) && decide (PySem.W.nsIn K cStatics "thirdparty.any" = some none) &&
  decide (PySem.W.mroIn K (He.ga K xi.nm) (.ref (He.ga K xi.nm)) = some true) && !(Pr.main.scope.names.lookup ("super" : Str)).isSome && decide (PySem.W.nsIn K mainGlobals "super" = some none) && decide (PySem.W.nsIn K mainGlobals xi.nm = some (some (.ref (He.ga K xi.nm)))) &&
  decide (PySem.W.findIn K (.ref (He.ga K xi.nm)) "__init__" = some (some (.ref (He.ma K (He.ga K xi.nm) "__init__")))) && decide (PySem.W.typeIn K (.ref (He.ma K (He.ga K xi.nm) "__init__")) = some (.type "function")) && xi.dfl.all flatD && decide (xi.dfl.length = 1 ∨ xi.kd ≠ .plain) && decide (xi.dfl.length ≤ 1) && decide (xi.ps.length = 2) &&
  (match K.lookup (He.ma K (He.ga K xi.nm) "__init__") with
  | some ⟨_, _, .func fd, _⟩ => (match fd.body, fd.closure, fd.code with
    | .stmts body, [(cn, cc)], .ref cda => decide (fd.name = "__init__") && decide (fd.globals = mainGlobals) && decide (fd.builtins = builtinsNs) && decide (cn = "__class__") && PySem.W.codeIn K (.ref cda) fd.qualname && He.dflB K fd.defaults (xi.dfl.map pV) && parB fd.params xi.ps && scS xi.N xi.ps fd.scope && bodyB xi.kd xi.ps body &&
      (match K.lookup cda with
        | some ⟨_, _, .fields vs, _⟩ => (match (vs[2]? : Option Value) with
          | some (.str file _) => (Pr.main.file : Str) == file
          | _ => false)
        | _ => false) && (match K.lookup cc with
        | some ⟨_, _, .cell (some (.ref C2)), _⟩ => decide (C2 = He.ga K xi.nm)
        | _ => false)
    | _, _, _ => false)
  | _ => false)

def conFa : Str × P → List He.Fa
  | (x, .int i) => [.int x i]
  | (x, .str z) => [.str x z]
  | (x, .cls _) => [.glo x]
  | _ => []
/-- what a class must say for isinstance of its instances -/
def excB (K : PySem.W.Frag) (C : Addr) : Bool := decide (PySem.W.findIn K (.ref C) "__getattribute__" = some (some (.builtin "BaseException.__getattribute__"))) && decide (PySem.W.findIn K (.ref C) "__getattr__" = some none) && decide (PySem.W.subIn K (.ref C) (.type "BaseException") = some true) && PySem.W.hasDictIn K C &&
  decide (PySem.W.findIn K (.ref C) "__class__" = some (some (.builtin "object.__class__"))) && decide (PySem.W.specialIn K (.builtin "object.__class__") "__get__" = some (some (.builtin "getset_descriptor.__get__"))) && decide (PySem.W.takesIn K (.builtin "object.__class__") = some true) && decide (PySem.W.mroIn K C (.type "object") = some true)
def exmB (K : PySem.W.Frag) (ca : Nat → Addr) : Nat × Option Nat × Bool → Bool
  | (c0, some c, b) => decide (PySem.W.exmOne K (.ref (ca c0)) (.ref (ca c)) = some b) && decide (PySem.W.kitOne K (.ref (ca c0)) (.ref (ca c)) = some b)
  | (c0, none, b) => decide (PySem.W.kitOne K (.ref (ca c0)) (.type "ValueError") = some b)
/-- all that is asked of exceptions -/
def exC (Pr : Program) (xcs : List XcI) (exm : List (Nat × Option Nat × Bool)) (cls : List Str) (K : PySem.W.Frag) : Bool := xcs.all (xcB Pr K) && (exm.all (exmB K fun c => He.ga K ((cls[c]?).getD "")) && (exm.map (·.1)).eraseDups.all fun c => excB K (He.ga K ((cls[c]?).getD "")))
/-- names that are asked, by the tables' parts -/
def faC (bn : List Str) (cn : List (Str × P)) (gl : List Str) : List He.Fa := bn.map He.Fa.free ++ (cn.flatMap conFa ++ (gl.flatMap (fun x => [He.Fa.glo x, He.Fa.keep x]) ++ []))
/-- the part of the heap that is looked at: with the cells that functions hold -/
def cellsOf (g : Addr → Option Obj) (a : Addr) : List Addr := match g a with
  | some ⟨_, _, .func fd, _⟩ => fd.closure.map (·.2)
  | _ => []
def asF (g : Addr → Option Obj) (n : Nat) : List Addr := He.asD g n ++ (He.asD g n).flatMap (cellsOf g) ++ [cStatics]
def obsF (n : Nat) (fa : List He.Fa) (fn : List He.DefD) (ex : PySem.W.Frag → Bool) (g : Addr → Option Obj) : He.AlD × Bool := (He.obsD fa fn (He.frG g (asF g n)), ex (He.frG g (asF g n)))
/-- the same, over the heap as a tree -/
def obsT (n : Nat) (fa : List He.Fa) (fn : List He.DefD) (ex : PySem.W.Frag → Bool) (s : Shared) : He.AlD × Bool := match HandSHeadRun.putAll s.heap.objs.toList .nil 0 with
  | some (t, k) => HandSHeadRun.frNat k fun k => obsF n fa fn ex (HandSHeadRun.getT ⟨t, k, s.heap.life, s.gens, s.drawn, s.toks, s.os⟩)
  | none => ((false, []), false)
theorem obsT_eq {n : Nat} {fa : List He.Fa} {fn : List He.DefD} {ex : PySem.W.Frag → Bool} {s : Shared} {v : He.AlD} (h : obsT n fa fn ex s = (v, true)) : obsF n fa fn ex s.heap.get? = (v, true) := by
  unfold obsT at h
  cases e : HandSHeadRun.putAll s.heap.objs.toList .nil 0 with
  | none => rw [e] at h; cases h
  | some r =>
    obtain ⟨t, k⟩ := r
    rw [e] at h
    dsimp only at h
    rw [HandSHeadRun.frNat_eq] at h
    have eh := HandSHeadRun.putAll_heap (h := s.heap) e
    have eg : HandSHeadRun.getT ⟨t, k, s.heap.life, s.gens, s.drawn, s.toks, s.os⟩ = s.heap.get? := funext fun a => by
      rw [HandSHeadRun.getT_eq]
      show (PySem.W.absHeap t k s.heap.life).get? a = _
      rw [eh]
    rw [eg] at h
    exact h
def hookF (n : Nat) (fa : List He.Fa) (fn : List He.DefD) (ex : PySem.W.Frag → Bool) : PySem.W.Hook where
  α := He.AlD × Bool
  obs := obsT n fa fn ex
  val := fun _ => (He.valD fn, true)
  says := fun _ h => ∃ K : PySem.W.Frag, K.In h ∧ He.SaysD fa fn K ∧ ex K = true
  of := fun _ _ e => ⟨_, He.frG_in, congrArg (fun z : He.AlD × Bool => z.1) (obsT_eq e), congrArg (fun z : He.AlD × Bool => z.2) (obsT_eq e)⟩
  keeps := fun _ _ _ ⟨K, hK, c, d⟩ k => ⟨K, PySem.W.Frag.In.keeps hK k, c, d⟩
/-- the same facts, looked at off the tree by one run -/
def hookG (n : Nat) (fa : List He.Fa) (fn : List He.DefD) (ex : PySem.W.Frag → Bool) : PySem.W.Hook where
  α := He.AlD × Bool
  obs := fun s => obsF n fa fn ex s.heap.get?
  val := fun _ => (He.valD fn, true)
  says := fun _ h => ∃ K : PySem.W.Frag, K.In h ∧ He.SaysD fa fn K ∧ ex K = true
  of := fun _ _ e => ⟨_, He.frG_in, congrArg (fun z : He.AlD × Bool => z.1) e, congrArg (fun z : He.AlD × Bool => z.2) e⟩
  keeps := fun _ _ _ ⟨K, hK, c, d⟩ k => ⟨K, PySem.W.Frag.In.keeps hK k, c, d⟩
theorem obG_eq {n : Nat} {fa : List He.Fa} {fn : List He.DefD} {ex : PySem.W.Frag → Bool} (s : PySem.W.SharedT) : obsF n fa fn ex (HandSHeadRun.getT s) = (hookG n fa fn ex).obs s.abs := by
  have e : HandSHeadRun.getT s = s.abs.heap.get? := funext fun a => HandSHeadRun.getT_eq s a
  rw [e] <;> rfl
open HandSHeadRun PySem.W in
/-- the run, looked at in two parts -/
theorem run_join {r : OpenRow} {q : Program} {H : Hook} {ob : SharedT → H.α} {M : Nat} {loose : List PySem.Str} {w : World}
    (h1 : ∀ os : OsState, (endF (stepQ (denQ tabQ) r.prog w) M r.prog w os).map (fun s => (looksF r.prog (boot_heap w.params) s.abs, seenQ q loose (importedModules r.prog.main.body) (fun s => xlAt q [] s && recOk r.toRowW.records s) s.abs)) = some (true, openGood q loose))
    (h2 : ∀ os : OsState, (endF (stepQ (denQ tabQ) r.prog w) M r.prog w os).map ob = some (H.val w)) : RunEq r q H ob M loose w := fun os => by
  obtain ⟨s, e, e1⟩ := Option.map_eq_some_iff.mp (h1 os)
  obtain ⟨s', e', e2⟩ := Option.map_eq_some_iff.mp (h2 os)
  rw [e] at e'
  cases e'
  rw [e]
  injection e1 with e3 e4
  show some (_, _, _) = some (_, _, _)
  rw [e3, e4, e2]
end Fk

set_option Elab.async false
set_option linter.all false
set_option autoImplicit false
set_option maxRecDepth 100000
set_option maxHeartbeats 0
namespace Lw
open PySem PySem.Spec PyProof.Rows L2 Fk
def top (i : Nat) : Stmt := PySem.Challenge.pw_forkflags_k01_whole_state_numbers.main.body.getD i (.Pass ⟨0, 0, 0, 0⟩)
def d0 : He.DefD := ⟨("law", none), "law", "law", defArgs (top 60), defBody (top 60), defScope (top 60), [], []⟩
def d1 : He.DefD := ⟨("_law_bag", none), "_law_bag", "_law_bag", defArgs (top 38), defBody (top 38), defScope (top 38), [], []⟩
def d2 : He.DefD := ⟨("_law_sizes", none), "_law_sizes", "_law_sizes", defArgs (top 41), defBody (top 41), defScope (top 41), [], []⟩
def d3 : He.DefD := ⟨("_law_draw", none), "_law_draw", "_law_draw", defArgs (top 39), defBody (top 39), defScope (top 39), [], []⟩
def d4 : He.DefD := ⟨("_law_long_sizes", none), "_law_long_sizes", "_law_long_sizes", defArgs (top 43), defBody (top 43), defScope (top 43), [], []⟩
def d5 : He.DefD := ⟨("_law_bent", none), "_law_bent", "_law_bent", defArgs (top 58), defBody (top 58), defScope (top 58), [], []⟩
def d6 : He.DefD := ⟨("_law_bent_numbers", none), "_law_bent_numbers", "_law_bent_numbers", defArgs (top 57), defBody (top 57), defScope (top 57), [], []⟩
def d7 : He.DefD := ⟨("_law_product", none), "_law_product", "_law_product", defArgs (top 45), defBody (top 45), defScope (top 45), [], []⟩
def d8 : He.DefD := ⟨("_law_refused", none), "_law_refused", "_law_refused", defArgs (top 51), defBody (top 51), defScope (top 51), [], []⟩
def d9 : He.DefD := ⟨("pack", none), "pack", "pack", defArgs (top 34), defBody (top 34), defScope (top 34), [], []⟩
def d10 : He.DefD := ⟨("_is_below", none), "_is_below", "_is_below", defArgs (top 33), defBody (top 33), defScope (top 33), [], []⟩
def d11 : He.DefD := ⟨("unpack", none), "unpack", "unpack", defArgs (top 35), defBody (top 35), defScope (top 35), [], []⟩
def d12 : He.DefD := ⟨("state_count", none), "state_count", "state_count", defArgs (top 32), defBody (top 32), defScope (top 32), [], []⟩
def d13 : He.DefD := ⟨("_law_kinds", none), "_law_kinds", "_law_kinds", defArgs (top 40), defBody (top 40), defScope (top 40), [], []⟩
def d14 : He.DefD := ⟨("_shown", none), "_shown", "_shown", defArgs (top 1), defBody (top 1), defScope (top 1), [], []⟩
def d15 : He.DefD := ⟨("_law_leads", none), "_law_leads", "_law_leads", defArgs (top 50), defBody (top 50), defScope (top 50), [], []⟩
def d16 : He.DefD := ⟨("_law_is_integer", none), "_law_is_integer", "_law_is_integer", defArgs (top 37), defBody (top 37), defScope (top 37), [], []⟩
def d17 : He.DefD := ⟨("_law_bent_marks", none), "_law_bent_marks", "_law_bent_marks", defArgs (top 55), defBody (top 55), defScope (top 55), [], []⟩
def d18 : He.DefD := ⟨("_law_bent_states", none), "_law_bent_states", "_law_bent_states", defArgs (top 56), defBody (top 56), defScope (top 56), [], []⟩
def d19 : He.DefD := ⟨("_law_number", none), "_law_number", "_law_number", defArgs (top 46), defBody (top 46), defScope (top 46), [], []⟩
def d20 : He.DefD := ⟨("_law_counted", none), "_law_counted", "_law_counted", defArgs (top 49), defBody (top 49), defScope (top 49), [], []⟩
def d21 : He.DefD := ⟨("_law_long", none), "_law_long", "_law_long", defArgs (top 59), defBody (top 59), defScope (top 59), [], []⟩
def d22 : He.DefD := ⟨("_law_marks", none), "_law_marks", "_law_marks", defArgs (top 44), defBody (top 44), defScope (top 44), [], []⟩
def d23 : He.DefD := ⟨("_law_before", none), "_law_before", "_law_before", defArgs (top 48), defBody (top 48), defScope (top 48), [], []⟩
def d24 : He.DefD := ⟨("_law_step", none), "_law_step", "_law_step", defArgs (top 47), defBody (top 47), defScope (top 47), [], []⟩
def d25 : He.DefD := ⟨("_law_all_states", none), "_law_all_states", "_law_all_states", defArgs (top 52), defBody (top 52), defScope (top 52), [], []⟩
def d26 : He.DefD := ⟨("_law_all_tuples", none), "_law_all_tuples", "_law_all_tuples", defArgs (top 54), defBody (top 54), defScope (top 54), [], []⟩
def d27 : He.DefD := ⟨("_law_is_state", none), "_law_is_state", "_law_is_state", defArgs (top 53), defBody (top 53), defScope (top 53), [], []⟩
def d28 : He.DefD := ⟨("_law_shorter", none), "_law_shorter", "_law_shorter", defArgs (top 42), defBody (top 42), defScope (top 42), [], []⟩
def fn : List He.DefD := [d0, d1, d2, d3, d4, d5, d6, d7, d8, d9, d10, d11, d12, d13, d14, d15, d16, d17, d18, d19, d20, d21, d22, d23, d24, d25, d26, d27, d28]
def xcs : List XcI := [⟨"InvalidState", 11, .plain, ["self", "message"], ["self", "message"], [.str "there is no such state of the cells"]⟩]
def exm : List (Nat × Option Nat × Bool) := [(11, some 8, false), (11, some 0, true), (11, some 5, false), (11, some 13, false), (11, some 23, false), (11, some 28, false), (11, some 1, false), (11, some 22, false), (11, some 2, false), (11, some 17, false), (11, some 11, true), (11, some 20, false), (11, some 4, false), (11, some 19, false), (11, some 3, false), (11, some 15, false), (11, some 25, false), (11, some 18, false), (11, some 21, false), (11, some 27, false), (11, some 26, false), (11, some 24, false), (11, some 6, false), (11, some 14, false), (11, some 12, false), (11, some 9, false), (11, some 10, false), (11, some 7, false), (11, some 16, false), (11, none, true)]
def cl0 : List Str := ["ForkError", "InvalidName", "InvalidShare", "InvalidTree", "InvalidText", "InvalidBudget", "SumTooGreat", "UnknownWriter", "DuplicateWriter", "UnknownFork", "UnknownHall", "InvalidState"]
def cl1 : List Str := ["TooManyTurns", "InvalidEvent", "TooMany", "LastWriter", "UnlikePlans", "InvalidSizes", "NoRight", "InvalidTown", "InvalidTable", "NoStory", "InvalidRecord", "InvalidImage"]
def cl2 : List Str := ["StillTold", "NoFlagLeft", "NothingToUndo", "NothingToRedo", "InvalidLine"]
def cls : List Str := cl0 ++ cl1 ++ cl2
def cn : List (Str × P) := [("ForkError", .cls 0), ("InvalidState", .cls 11), ("InvalidName", .cls 1), ("InvalidShare", .cls 2), ("InvalidTree", .cls 3), ("InvalidText", .cls 4), ("InvalidBudget", .cls 5), ("SumTooGreat", .cls 6), ("UnknownWriter", .cls 7), ("DuplicateWriter", .cls 8), ("UnknownFork", .cls 9), ("UnknownHall", .cls 10), ("TooManyTurns", .cls 12), ("InvalidEvent", .cls 13), ("TooMany", .cls 14), ("LastWriter", .cls 15), ("UnlikePlans", .cls 16), ("InvalidSizes", .cls 17), ("NoRight", .cls 18), ("InvalidTown", .cls 19), ("InvalidTable", .cls 20), ("NoStory", .cls 21), ("InvalidRecord", .cls 22), ("InvalidImage", .cls 23), ("StillTold", .cls 24), ("NoFlagLeft", .cls 25), ("NothingToUndo", .cls 26), ("NothingToRedo", .cls 27), ("InvalidLine", .cls 28)]
def bn : List Str := ["list", "range", "len", "int", "min", "isinstance", "ValueError", "tuple", "zip", "bool", "reversed", "sum", "str", "repr"]
def gl : List Str := ["law", "_law_bag", "_law_sizes", "_law_draw", "_law_long_sizes", "_law_bent", "_law_bent_numbers", "_law_product", "_law_refused", "pack", "_is_below", "unpack", "state_count", "_law_kinds", "_shown", "_law_leads", "_law_is_integer", "_law_bent_marks", "_law_bent_states", "_law_number", "_law_counted", "_law_long", "_law_marks", "_law_before", "_law_step", "_law_all_states", "_law_all_tuples", "_law_is_state", "_law_shorter"]
def fa : List He.Fa := faC bn cn gl
end Lw

set_option Elab.async false
set_option linter.all false
set_option autoImplicit false
set_option maxRecDepth 100000
set_option maxHeartbeats 0
namespace Lw
open PySem PySem.Spec PyProof.Rows L2 Fk
abbrev Rw : PySem.W.OpenRow := PySem.W.OpenLaw.row PySem.Challenge.rw_forkflags_k01_whole_state_numbers
abbrev ex : PySem.W.Frag → Bool := exC (PySem.Challenge.rw_forkflags_k01_whole_state_numbers).prog xcs exm cls
abbrev hk : PySem.W.Hook := hookG 6 fa fn ex
def ob (s : PySem.W.SharedT) : He.AlD × Bool := obsF 6 fa fn ex (HandSHeadRun.getT s)
theorem ob_eq (s : PySem.W.SharedT) : ob s = hk.obs s.abs := obG_eq s
def nm0 : List PySem.Str := ["_shown", "ForkError", "InvalidName", "InvalidShare", "InvalidTree", "InvalidText", "InvalidBudget", "SumTooGreat", "UnknownWriter", "DuplicateWriter", "UnknownFork", "UnknownHall"]
def nm1 : List PySem.Str := ["InvalidState", "TooManyTurns", "InvalidEvent", "TooMany", "LastWriter", "UnlikePlans", "InvalidSizes", "NoRight", "InvalidTown", "InvalidTable", "NoStory", "InvalidRecord"]
def nm2 : List PySem.Str := ["InvalidImage", "StillTold", "NoFlagLeft", "NothingToUndo", "NothingToRedo", "InvalidLine", "state_count", "_is_below", "pack", "unpack", "_law_is_integer", "_law_bag"]
def nm3 : List PySem.Str := ["_law_draw", "_law_kinds", "_law_sizes", "_law_shorter", "_law_long_sizes", "_law_marks", "_law_product", "_law_number", "_law_step", "_law_before", "_law_counted", "_law_leads"]
def nm4 : List PySem.Str := ["_law_refused", "_law_all_states", "_law_is_state", "_law_all_tuples", "_law_bent_marks", "_law_bent_states", "_law_bent_numbers", "_law_bent", "_law_long"]
def nms : List PySem.Str := nm0 ++ nm1 ++ nm2 ++ nm3 ++ nm4
abbrev qv : Program := PySem.W.view Rw.prog [60]
section
open HandSHeadRun PySem.W
theorem run1 (w : World) : ∀ os : OsState, (endF (stepQ (denQ tabQ) Rw.prog w) 30000 Rw.prog w os).map (fun s => (looksF Rw.prog (boot_heap w.params) s.abs, seenQ qv nms (importedModules Rw.prog.main.body) (fun s => xlAt qv [] s && recOk Rw.toRowW.records s) s.abs)) = some (true, openGood qv nms) := by
  intro os
  kernel_rfl
theorem run2 (w : World) : ∀ os : OsState, (endF (stepQ (denQ tabQ) Rw.prog w) 30000 Rw.prog w os).map ob = some (He.valD fn, true) := by
  intro os
  kernel_rfl
theorem runH (w : World) : RunEq Rw qv hk ob 30000 nms w := run_join (run1 w) (run2 w)
end
end Lw

set_option Elab.async false
set_option linter.all false
set_option autoImplicit false
set_option maxRecDepth 100000
set_option maxHeartbeats 1000000
/-! Fk 1: pure values, the plain heap, results, how they stand for what the model holds -/
namespace Fk
open PySem PySem.Spec PyProof.Rows L2

/-- a value: pure, or a changeable object of the plain heap -/
inductive D where
  | p (x : P)
  | ref (n : Nat)
/-- a changeable object -/
inductive O where
  | dead
  | lst (xs : List P)
  | dct (kvs : List (P × P))
  | ins (c : Nat) (fs : List (Nat × D))
abbrev Hl := List O
abbrev Flds := List (Nat × P)
/-- a result -/
inductive R (α : Type) where
  | ok (a : α) (L : Hl)
  | ex (c : Nat) (fs : Flds) (L : Hl)
  | bad
def R.bind {α β : Type} (r : R α) (f : α → Hl → R β) : R β := match r with
  | .ok a L => f a L
  | .ex c fs L => .ex c fs L
  | .bad => .bad
@[simp] theorem R.bind_ok {α β : Type} (a : α) (L : Hl) (f : α → Hl → R β) : (R.ok a L).bind f = f a L := rfl
@[simp] theorem R.bind_ex {α β : Type} (c : Nat) (fs : Flds) (L : Hl) (f : α → Hl → R β) : (R.ex c fs L : R α).bind f = .ex c fs L := rfl
@[simp] theorem R.bind_bad {α β : Type} (f : α → Hl → R β) : (R.bad : R α).bind f = .bad := rfl
/-- a slot: empty, a value, the exception that a suite holds -/
inductive Sl where
  | u
  | v (d : D)
  | e (c : Nat) (fs : Flds)
abbrev Sg := List Sl
abbrev Vt := List (Option V)

/-! ### how they stand -/
structure Gm where
  K : PySem.W.Frag
  ca : Nat → Addr
  fn : Nat → Str
  px : Option (Addr × Nat × Option Addr)

mutual
inductive RP (G : Gm) (F : Hp) : P → V → Prop
  | non : RP G F .non .non
  | bl (b : Bool) : RP G F (.bl b) (.bl b)
  | int (i : Int) : RP G F (.int i) (.int i)
  | str (s : Str) : RP G F (.str s) (.str s)
  | ty (n : String) : RP G F (.ty n) (.ty n)
  | cls (c : Nat) : RP G F (.cls c) (.ref (G.ca c))
  | tup {xs : List P} {vs : List V} {a : Addr} : SqT G.K F a vs → RPs G F xs vs → RP G F (.tup xs) (.ref a)
  | lst {xs : List P} {vs : List V} {a : Addr} : F a = some (.lst vs) → RPs G F xs vs → RP G F (.lst xs) (.ref a)
  | rol {xs : List P} {vs : List V} {a : Addr} : SqL G.K F a vs → RPs G F xs vs → RP G F (.rol xs) (.ref a)
  | obj {c : Nat} {fs : List (Nat × P)} {a dx : Addr} {fv : List (Str × V)} : F a = some (.ins (G.ca c) dx fv) → RPf G F fs fv → RP G F (.obj c fs) (.ref a)
  | dct {kvs : List (P × P)} {kv : List (Key × V)} {a : Addr} : F a = some (.dK kv) → RPk G F kvs kv → RP G F (.dct kvs) (.ref a)
inductive RPs (G : Gm) (F : Hp) : List P → List V → Prop
  | nil : RPs G F [] []
  | cons {x : P} {xs : List P} {v : V} {vs : List V} : RP G F x v → RPs G F xs vs → RPs G F (x :: xs) (v :: vs)
inductive RPf (G : Gm) (F : Hp) : List (Nat × P) → List (Str × V) → Prop
  | nil : RPf G F [] []
  | cons {i : Nat} {x : P} {xs : List (Nat × P)} {v : V} {vs : List (Str × V)} : RP G F x v → RPf G F xs vs → RPf G F ((i, x) :: xs) ((G.fn i, v) :: vs)
inductive RPk (G : Gm) (F : Hp) : List (P × P) → List (Key × V) → Prop
  | nil : RPk G F [] []
  | cons {k x : P} {xs : List (P × P)} {y : Key} {v : V} {vs : List (Key × V)} : RP G F k (kV y) → RP G F x v → RPk G F xs vs → RPk G F ((k, x) :: xs) ((y, v) :: vs)
end
theorem SqT.same {K : PySem.W.Frag} {F F' : Hp} (s : Same F F') {a : Addr} {xs : List V} (h : SqT K F a xs) : SqT K F' a xs := by
  rcases h with (h | ⟨o, h⟩) | h
  · exact .inl (.inl (s _ _ h))
  · exact .inl (.inr ⟨o, s _ _ h⟩)
  · exact .inr h
section
variable {G : Gm} {F F' : Hp}
mutual
theorem RP.mono (s : Same F F') : ∀ {x : P} {v : V}, RP G F x v → RP G F' x v
  | _, _, .non => .non
  | _, _, .bl b => .bl b
  | _, _, .int i => .int i
  | _, _, .str x => .str x
  | _, _, .ty n => .ty n
  | _, _, .cls c => .cls c
  | _, _, .tup h r => .tup (SqT.same s h) (RPs.mono s r)
  | _, _, .lst h r => .lst (s _ _ h) (RPs.mono s r)
  | _, _, .rol h r => .rol (s.seq h) (RPs.mono s r)
  | _, _, .obj h r => .obj (s _ _ h) (RPf.mono s r)
  | _, _, .dct h r => .dct (s _ _ h) (RPk.mono s r)
theorem RPs.mono (s : Same F F') : ∀ {x : List P} {v : List V}, RPs G F x v → RPs G F' x v
  | _, _, .nil => .nil
  | _, _, .cons h r => .cons (RP.mono s h) (RPs.mono s r)
theorem RPf.mono (s : Same F F') : ∀ {x : List (Nat × P)} {v : List (Str × V)}, RPf G F x v → RPf G F' x v
  | _, _, .nil => .nil
  | _, _, .cons h r => .cons (RP.mono s h) (RPf.mono s r)
theorem RPk.mono (s : Same F F') : ∀ {x : List (P × P)} {v : List (Key × V)}, RPk G F x v → RPk G F' x v
  | _, _, .nil => .nil
  | _, _, .cons k h r => .cons (RP.mono s k) (RP.mono s h) (RPk.mono s r)
end
theorem RPs.len : ∀ {x : List P} {v : List V}, RPs G F x v → x.length = v.length
  | _, _, .nil => rfl
  | _, _, .cons _ r => congrArg (· + 1) (RPs.len r)
theorem RPs.get : ∀ {xs : List P} {vs : List V} {i : Nat} {x : P}, RPs G F xs vs → xs[i]? = some x → ∃ v, vs[i]? = some v ∧ RP G F x v
  | _, _, _, _, .nil, e => by simp at e
  | _, _, 0, _, .cons r _, e => by simp at e; subst e; exact ⟨_, rfl, r⟩
  | _, _, i + 1, x, .cons _ t, e => by
    obtain ⟨v, h1, h2⟩ := RPs.get (i := i) (x := x) t (by simpa using e)
    exact ⟨v, by simpa using h1, h2⟩
theorem RPs.app : ∀ {xs ys : List P} {vs ws : List V}, RPs G F xs vs → RPs G F ys ws → RPs G F (xs ++ ys) (vs ++ ws)
  | _, _, _, _, .nil, s => s
  | _, _, _, _, .cons r t, s => .cons r (RPs.app t s)
theorem RPs.take : ∀ {xs : List P} {vs : List V} (n : Nat), RPs G F xs vs → RPs G F (xs.take n) (vs.take n)
  | _, _, 0, _ => .nil
  | _, _, _ + 1, .nil => .nil
  | _, _, n + 1, .cons r t => .cons r (RPs.take n t)
theorem RPs.drop : ∀ {xs : List P} {vs : List V} (n : Nat), RPs G F xs vs → RPs G F (xs.drop n) (vs.drop n)
  | _, _, 0, r => r
  | _, _, _ + 1, .nil => .nil
  | _, _, n + 1, .cons _ t => RPs.drop n t
theorem RPs.set {x : P} {v : V} (r : RP G F x v) : ∀ {xs : List P} {vs : List V} (i : Nat), RPs G F xs vs → RPs G F (xs.set i x) (vs.set i v)
  | _, _, _, .nil => .nil
  | _, _, 0, .cons _ t => .cons r t
  | _, _, i + 1, .cons q t => .cons q (RPs.set r i t)
theorem RPs.rev : ∀ {xs : List P} {vs : List V}, RPs G F xs vs → RPs G F xs.reverse vs.reverse
  | _, _, .nil => .nil
  | _, _, .cons r t => by rw [List.reverse_cons, List.reverse_cons]; exact RPs.app (RPs.rev t) (.cons r .nil)
end

/-- where the changeable objects stand -/
abbrev Rho := List Addr
inductive RD (G : Gm) (F : Hp) (r : Rho) : D → V → Prop
  | p {x : P} {v : V} : RP G F x v → RD G F r (.p x) v
  | ref {n : Nat} {a : Addr} : r[n]? = some a → RD G F r (.ref n) (.ref a)
inductive RDf (G : Gm) (F : Hp) (r : Rho) : List (Nat × D) → List (Str × V) → Prop
  | nil : RDf G F r [] []
  | cons {i : Nat} {x : D} {xs : List (Nat × D)} {v : V} {vs : List (Str × V)} : RD G F r x v → RDf G F r xs vs → RDf G F r ((i, x) :: xs) ((G.fn i, v) :: vs)
inductive RO (G : Gm) (F : Hp) (r : Rho) : O → HO → Prop
  | lst {xs : List P} {vs : List V} : RPs G F xs vs → RO G F r (.lst xs) (.lst vs)
  | dct {kvs : List (P × P)} {kv : List (Key × V)} : RPk G F kvs kv → RO G F r (.dct kvs) (.dK kv)
  | ins {c : Nat} {fs : List (Nat × D)} {dx : Addr} {fv : List (Str × V)} : RDf G F r fs fv → RO G F r (.ins c fs) (.ins (G.ca c) dx fv)
/-- an exception's own dict -/
inductive RX (G : Gm) (F : Hp) : Flds → Option Addr → Prop
  | nil : RX G F [] none
  | xd {fs : Flds} {d : Addr} {fv : List (Str × V)} : F d = some (.xd fv) → RPf G F fs fv → RX G F fs (some d)
inductive RS (G : Gm) (F : Hp) (r : Rho) : Sl → Option V → Prop
  | u {o : Option V} : RS G F r .u o
  | v {d : D} {v : V} : RD G F r d v → RS G F r (.v d) (some v)
  | e {c : Nat} {fs : Flds} {a : Addr} {d : Option Addr} : G.px = some (a, c, d) → RX G F fs d → RS G F r (.e c fs) (some (.ref a))
inductive RSs (G : Gm) (F : Hp) (r : Rho) : Sg → Vt → Prop
  | nil : RSs G F r [] []
  | cons {x : Sl} {xs : Sg} {v : Option V} {vs : Vt} : RS G F r x v → RSs G F r xs vs → RSs G F r (x :: xs) (v :: vs)
def Pre (r r' : Rho) : Prop := ∀ (n : Nat) (a : Addr), r[n]? = some a → r'[n]? = some a
theorem Pre.refl (r : Rho) : Pre r r := fun _ _ h => h
theorem Pre.trans {r r' r'' : Rho} (a : Pre r r') (b : Pre r' r'') : Pre r r'' := fun n x h => b n x (a n x h)
theorem Pre.app (r : Rho) (p : Addr) : Pre r (r ++ [p]) := fun n a h => by
  have hn : n < r.length := (List.getElem?_eq_some_iff.mp h).1
  rw [List.getElem?_append_left hn]; exact h
section
variable {G : Gm} {F F' : Hp} {r r' : Rho}
theorem RD.mono (s : Same F F') (q : Pre r r') {x : D} {v : V} (h : RD G F r x v) : RD G F' r' x v := by
  cases h with
  | p h => exact .p (h.mono s)
  | ref h => exact .ref (q _ _ h)
theorem RDf.mono (s : Same F F') (q : Pre r r') : ∀ {x : List (Nat × D)} {v : List (Str × V)}, RDf G F r x v → RDf G F' r' x v
  | _, _, .nil => .nil
  | _, _, .cons h t => .cons (h.mono s q) (RDf.mono s q t)
theorem RO.mono (s : Same F F') (q : Pre r r') {x : O} {v : HO} (h : RO G F r x v) : RO G F' r' x v := by
  cases h with
  | lst h => exact .lst (h.mono s)
  | dct h => exact .dct (h.mono s)
  | ins h => exact .ins (h.mono s q)
theorem RX.mono (s : Same F F') {x : Flds} {d : Option Addr} (h : RX G F x d) : RX G F' x d := by
  cases h with
  | nil => exact .nil
  | xd h t => exact .xd (s _ _ h) (t.mono s)
theorem RS.mono (s : Same F F') (q : Pre r r') {x : Sl} {v : Option V} (h : RS G F r x v) : RS G F' r' x v := by
  cases h with
  | u => exact .u
  | v h => exact .v (h.mono s q)
  | e h t => exact .e h (t.mono s)
theorem RSs.mono (s : Same F F') (q : Pre r r') : ∀ {x : Sg} {v : Vt}, RSs G F r x v → RSs G F' r' x v
  | _, _, .nil => .nil
  | _, _, .cons h t => .cons (h.mono s q) (RSs.mono s q t)
theorem RSs.len : ∀ {x : Sg} {v : Vt}, RSs G F r x v → x.length = v.length
  | _, _, .nil => rfl
  | _, _, .cons _ r => congrArg (· + 1) (RSs.len r)
theorem RSs.get : ∀ {xs : Sg} {vs : Vt} {i : Nat} {x : Sl}, RSs G F r xs vs → xs[i]? = some x → ∃ v, vs[i]? = some v ∧ RS G F r x v
  | _, _, _, _, .nil, e => by simp at e
  | _, _, 0, _, .cons r _, e => by simp at e; subst e; exact ⟨_, rfl, r⟩
  | _, _, i + 1, x, .cons _ t, e => by
    obtain ⟨v, h1, h2⟩ := RSs.get (i := i) (x := x) t (by simpa using e)
    exact ⟨v, by simpa using h1, h2⟩
theorem RSs.set {x : Sl} {v : Option V} (h : RS G F r x v) : ∀ {xs : Sg} {vs : Vt} (i : Nat), RSs G F r xs vs → RSs G F r (xs.set i x) (vs.set i v)
  | _, _, _, .nil => .nil
  | _, _, 0, .cons _ t => .cons h t
  | _, _, i + 1, .cons q t => .cons q (RSs.set h i t)
theorem RSs.wipe1 : ∀ {xs : Sg} {vs : Vt} (i : Nat), RSs G F r xs vs → RSs G F r (xs.set i .u) vs
  | _, _, _, .nil => .nil
  | _, _, 0, .cons _ t => .cons .u t
  | _, _, i + 1, .cons q t => .cons q (RSs.wipe1 i t)
theorem RSs.reps : ∀ (n : Nat), RSs G F r (List.replicate n .u) (List.replicate n none)
  | 0 => .nil
  | n + 1 => .cons (.u (o := none)) (RSs.reps n)
theorem RSs.app : ∀ {xs ys : Sg} {vs ws : Vt}, RSs G F r xs vs → RSs G F r ys ws → RSs G F r (xs ++ ys) (vs ++ ws)
  | _, _, _, _, .nil, s => s
  | _, _, _, _, .cons r t, s => .cons r (RSs.app t s)

/-- the plain heap stands for the abstract one; F: what is never changed -/
structure Rel (G : Gm) (F : Hp) (r : Rho) (H : Hp) (L : Hl) : Prop where
  sub : Same F H
  len : r.length = L.length
  obj : ∀ (n : Nat) (o : O), L[n]? = some o → o ≠ .dead → ∃ a h, r[n]? = some a ∧ H a = some h ∧ F a = none ∧ RO G F r o h
  inj : ∀ (n m : Nat) (o o' : O) (a : Addr), L[n]? = some o → o ≠ .dead → L[m]? = some o' → o' ≠ .dead → r[n]? = some a → r[m]? = some a → n = m
theorem same_upd {F : Hp} {p : Addr} {o : HO} (h : F p = none) : Same F (upd F p o) := fun b u e => by
  rw [upd_ne (ne_of_none e h)]; exact e
theorem Rel.nf {H : Hp} {L : Hl} (R : Rel G F r H L) {p : Addr} (hp : H p = none) : F p = none := R.sub.free hp
/-- a new object that is never changed -/
theorem Rel.allocF {H : Hp} {L : Hl} (R : Rel G F r H L) {p : Addr} (hp : H p = none) (o : HO) : Rel G (upd F p o) r (upd H p o) L := by
  have hF := R.sub.free hp
  refine ⟨fun b u e => ?_, R.len, fun n o' h1 h2 => ?_, R.inj⟩
  · by_cases hb : b = p
    · subst hb; rw [upd_same] at e ⊢; exact e
    · rw [upd_ne hb] at e ⊢; exact R.sub _ _ e
  · obtain ⟨a, h, e1, e2, e3, e4⟩ := R.obj n o' h1 h2
    have hne : a ≠ p := ne_of_none e2 hp
    exact ⟨a, h, e1, by rw [upd_ne hne]; exact e2, by rw [upd_ne hne]; exact e3, e4.mono (same_upd hF) (Pre.refl _)⟩
/-- a new changeable object -/
theorem Rel.allocM {H : Hp} {L : Hl} (R : Rel G F r H L) {p : Addr} (hp : H p = none) {o : O} {h : HO} (ho : RO G F r o h) : Rel G F (r ++ [p]) (upd H p h) (L ++ [o]) := by
  have hF := R.sub.free hp
  have hl := R.len
  have old : ∀ {n : Nat} {o' : O}, (L ++ [o])[n]? = some o' → (n < L.length ∧ L[n]? = some o') ∨ (n = L.length ∧ o' = o) := fun {n o'} e => by
    by_cases hn : n < L.length
    · rw [List.getElem?_append_left hn] at e; exact .inl ⟨hn, e⟩
    · rw [List.getElem?_append_right (by omega)] at e
      have : n - L.length = 0 := by
        have := (List.getElem?_eq_some_iff.mp e).1
        simp at this; omega
      rw [this] at e; simp at e
      exact .inr ⟨by omega, e.symm⟩
  refine ⟨fun b u e => ?_, by simp [hl], fun n o' h1 h2 => ?_, fun n m o1 o2 a h1 d1 h2 d2 e1 e2 => ?_⟩
  · rw [upd_ne (ne_of_none e hF)]; exact R.sub _ _ e
  · rcases old h1 with ⟨hn, e⟩ | ⟨hn, e⟩
    · obtain ⟨a, hh, e1, e2, e3, e4⟩ := R.obj n o' e h2
      exact ⟨a, hh, Pre.app r p _ _ e1, by rw [upd_ne (ne_of_none e2 hp)]; exact e2, e3, e4.mono (Same.refl _) (Pre.app r p)⟩
    · subst hn e
      exact ⟨p, h, by rw [← hl]; simp, upd_same, hF, ho.mono (Same.refl _) (Pre.app r p)⟩
  · have at_ : ∀ {n : Nat} {o' : O}, L[n]? = some o' → o' ≠ .dead → (r ++ [p])[n]? = some a → r[n]? = some a ∧ a ≠ p := fun {n o'} e d e1 => by
      obtain ⟨b, hh, q1, q2, q3, q4⟩ := R.obj n o' e d
      have := Pre.app r p _ _ q1
      rw [this] at e1; cases e1
      exact ⟨q1, ne_of_none q2 hp⟩
    rcases old h1 with ⟨hn, e⟩ | ⟨hn, e⟩ <;> rcases old h2 with ⟨hm, e'⟩ | ⟨hm, e'⟩
    · exact R.inj n m o1 o2 a e d1 e' d2 (at_ e d1 e1).1 (at_ e' d2 e2).1
    · subst hm
      rw [← hl] at e2; simp at e2
      exact absurd e2.symm (at_ e d1 e1).2
    · subst hn
      rw [← hl] at e1; simp at e1
      exact absurd e1.symm (at_ e' d2 e2).2
    · omega
/-- a changeable object is written -/
theorem Rel.write {H : Hp} {L : Hl} (R : Rel G F r H L) {n : Nat} {o o' : O} {a : Addr} {h' : HO} (hn : L[n]? = some o) (hd : o ≠ .dead) (ha : r[n]? = some a) (ho : RO G F r o' h') : Rel G F r (upd H a h') (L.set n o') := by
  obtain ⟨b, h, e1, e2, e3, e4⟩ := R.obj n o hn hd
  rw [ha] at e1; cases e1
  have hlt : n < L.length := (List.getElem?_eq_some_iff.mp hn).1
  have get : ∀ {m : Nat} {u : O}, (L.set n o')[m]? = some u → (m = n ∧ u = o') ∨ (m ≠ n ∧ L[m]? = some u) := fun {m u} e => by
    by_cases hm : n = m
    · subst hm; rw [List.getElem?_set_self hlt] at e; exact .inl ⟨rfl, (Option.some.inj e).symm⟩
    · rw [List.getElem?_set_ne hm] at e; exact .inr ⟨Ne.symm hm, e⟩
  refine ⟨fun b u e => ?_, by simp [R.len], fun m u h1 h2 => ?_, fun m k o1 o2 x h1 d1 h2 d2 q1 q2 => ?_⟩
  · rw [upd_ne (ne_of_none e e3)]; exact R.sub _ _ e
  · rcases get h1 with ⟨rfl, rfl⟩ | ⟨hm, e⟩
    · exact ⟨a, h', ha, upd_same, e3, ho⟩
    · obtain ⟨c, g, f1, f2, f3, f4⟩ := R.obj m u e h2
      have hne : c ≠ a := fun z => hm (R.inj m n u o c e h2 hn hd f1 (by rw [z]; exact ha))
      exact ⟨c, g, f1, by rw [upd_ne hne]; exact f2, f3, f4⟩
  · rcases get h1 with ⟨rfl, rfl⟩ | ⟨hm, e⟩ <;> rcases get h2 with ⟨rfl, rfl⟩ | ⟨hk, e'⟩
    · rfl
    · exact R.inj _ _ o o2 x hn hd e' d2 q1 q2
    · exact R.inj _ _ o1 o x e d1 hn hd q1 q2
    · exact R.inj _ _ o1 o2 x e d1 e' d2 q1 q2
/-- an object is changed no more -/
theorem Rel.freeze {H : Hp} {L : Hl} (R : Rel G F r H L) {n : Nat} {o : O} {a : Addr} {h : HO} (hn : L[n]? = some o) (hd : o ≠ .dead) (ha : r[n]? = some a) (hh : H a = some h) : Rel G (upd F a h) r H (L.set n .dead) ∧ F a = none := by
  obtain ⟨b, g, e1, e2, e3, e4⟩ := R.obj n o hn hd
  rw [ha] at e1; cases e1
  have hlt : n < L.length := (List.getElem?_eq_some_iff.mp hn).1
  have get : ∀ {m : Nat} {u : O}, (L.set n .dead)[m]? = some u → u ≠ .dead → m ≠ n ∧ L[m]? = some u := fun {m u} e d => by
    by_cases hm : n = m
    · subst hm; rw [List.getElem?_set_self hlt] at e; exact absurd (Option.some.inj e).symm d
    · rw [List.getElem?_set_ne hm] at e; exact ⟨Ne.symm hm, e⟩
  refine ⟨⟨fun b u e => ?_, by simp [R.len], fun m u h1 h2 => ?_, fun m k o1 o2 x h1 d1 h2 d2 q1 q2 => ?_⟩, e3⟩
  · by_cases hb : b = a
    · subst hb; rw [upd_same] at e; cases e; exact hh
    · rw [upd_ne hb] at e; exact R.sub _ _ e
  · obtain ⟨hm, e⟩ := get h1 h2
    obtain ⟨c, g', f1, f2, f3, f4⟩ := R.obj m u e h2
    have hne : c ≠ a := fun z => hm (R.inj m n u o c e h2 hn hd f1 (by rw [z]; exact ha))
    exact ⟨c, g', f1, f2, by rw [upd_ne hne]; exact f3, f4.mono (same_upd e3) (Pre.refl _)⟩
  · exact R.inj m k o1 o2 x (get h1 d1).2 d1 (get h2 d2).2 d2 q1 q2
def closedD (k : Nat) : D → Bool
  | .p _ => true
  | .ref n => decide (n < k)
def closedO (k : Nat) : O → Bool
  | .ins _ fs => fs.all fun q => closedD k q.2
  | _ => true
theorem RD.take {k : Nat} {x : D} {v : V} (h : RD G F r x v) (c : closedD k x = true) : RD G F (r.take k) x v := by
  cases h with
  | p h => exact .p h
  | ref h =>
    have := of_decide_eq_true c
    exact .ref (by rw [List.getElem?_take_of_lt this]; exact h)
theorem RDf.take {k : Nat} : ∀ {x : List (Nat × D)} {v : List (Str × V)}, RDf G F r x v → (x.all fun q => closedD k q.2) = true → RDf G F (r.take k) x v
  | _, _, .nil, _ => .nil
  | _, _, .cons h t, c => by
    rw [List.all_cons, Bool.and_eq_true] at c
    exact .cons (h.take c.1) (RDf.take t c.2)
theorem Rel.take {H : Hp} {L : Hl} (R : Rel G F r H L) (k : Nat) (c : ((L.take k).all (closedO k)) = true) : Rel G F (r.take k) H (L.take k) := by
  have get : ∀ {n : Nat} {o : O}, (L.take k)[n]? = some o → n < k ∧ L[n]? = some o := fun {n o} e => by
    by_cases hn : n < k
    · rw [List.getElem?_take_of_lt hn] at e; exact ⟨hn, e⟩
    · rw [List.getElem?_eq_none (by rw [List.length_take]; omega)] at e; cases e
  have getr : ∀ {n : Nat} {a : Addr}, (r.take k)[n]? = some a → r[n]? = some a := fun {n a} e => by
    by_cases hn : n < k
    · rw [List.getElem?_take_of_lt hn] at e; exact e
    · rw [List.getElem?_eq_none (by rw [List.length_take]; omega)] at e; cases e
  refine ⟨R.sub, by simp [R.len], fun n o h1 h2 => ?_, fun n m o o' a h1 d1 h2 d2 q1 q2 => R.inj n m o o' a (get h1).2 d1 (get h2).2 d2 (getr q1) (getr q2)⟩
  obtain ⟨hn, e⟩ := get h1
  obtain ⟨a, h, e1, e2, e3, e4⟩ := R.obj n o e h2
  refine ⟨a, h, by rw [List.getElem?_take_of_lt hn]; exact e1, e2, e3, ?_⟩
  have co : closedO k o = true := List.all_eq_true.mp c o (List.mem_of_getElem? h1)
  cases e4 with
  | lst h => exact .lst h
  | dct h => exact .dct h
  | ins h => exact .ins (h.take co)
end

/-! ### another caught exception -/
abbrev Gm.at (G : Gm) (q : Option (Addr × Nat × Option Addr)) : Gm := { G with px := q }
section
variable {G : Gm} {F : Hp} {r : Rho} {q : Option (Addr × Nat × Option Addr)}
mutual
theorem RP.px : ∀ {x : P} {v : V}, RP G F x v → RP (G.at q) F x v
  | _, _, .non => .non
  | _, _, .bl b => .bl b
  | _, _, .int i => .int i
  | _, _, .str x => .str x
  | _, _, .ty n => .ty n
  | _, _, .cls c => .cls (G := G.at q) c
  | _, _, .tup h t => .tup h (RPs.px t)
  | _, _, .lst h t => .lst h (RPs.px t)
  | _, _, .rol h t => .rol h (RPs.px t)
  | _, _, .obj h t => .obj (G := G.at q) h (RPf.px t)
  | _, _, .dct h t => .dct h (RPk.px t)
theorem RPs.px : ∀ {x : List P} {v : List V}, RPs G F x v → RPs (G.at q) F x v
  | _, _, .nil => .nil
  | _, _, .cons h t => .cons (RP.px h) (RPs.px t)
theorem RPf.px : ∀ {x : List (Nat × P)} {v : List (Str × V)}, RPf G F x v → RPf (G.at q) F x v
  | _, _, .nil => .nil
  | _, _, .cons h t => .cons (G := G.at q) (RP.px h) (RPf.px t)
theorem RPk.px : ∀ {x : List (P × P)} {v : List (Key × V)}, RPk G F x v → RPk (G.at q) F x v
  | _, _, .nil => .nil
  | _, _, .cons k h t => .cons (RP.px k) (RP.px h) (RPk.px t)
end
theorem RD.px {x : D} {v : V} (h : RD G F r x v) : RD (G.at q) F r x v := by
  cases h with
  | p h => exact .p h.px
  | ref h => exact .ref h
theorem RDf.px : ∀ {x : List (Nat × D)} {v : List (Str × V)}, RDf G F r x v → RDf (G.at q) F r x v
  | _, _, .nil => .nil
  | _, _, .cons h t => .cons (G := G.at q) h.px (RDf.px t)
theorem RO.px {x : O} {v : HO} (h : RO G F r x v) : RO (G.at q) F r x v := by
  cases h with
  | lst h => exact .lst h.px
  | dct h => exact .dct h.px
  | ins h => exact .ins (G := G.at q) h.px
theorem RX.px {x : Flds} {d : Option Addr} (h : RX G F x d) : RX (G.at q) F x d := by
  cases h with
  | nil => exact .nil
  | xd h t => exact .xd h t.px
theorem Rel.px {H : Hp} {L : Hl} (R : Rel G F r H L) : Rel (G.at q) F r H L := ⟨R.sub, R.len, fun n o h1 h2 => by
  obtain ⟨a, h, e1, e2, e3, e4⟩ := R.obj n o h1 h2
  exact ⟨a, h, e1, e2, e3, e4.px⟩, R.inj⟩
theorem RSs.px (hp : G.px = none) : ∀ {x : Sg} {v : Vt}, RSs G F r x v → RSs (G.at q) F r x v
  | _, _, .nil => .nil
  | _, _, .cons h t => by
    refine .cons ?_ (RSs.px hp t)
    cases h with
    | u => exact .u
    | v h => exact .v h.px
    | e h t => rw [hp] at h; cases h
/-- an exception's slot is emptied -/
def clr : Sl → Sl
  | .e _ _ => .u
  | x => x
theorem RSs.clr {q2 : Option (Addr × Nat × Option Addr)} : ∀ {x : Sg} {v : Vt}, RSs (G.at q) F r x v → RSs (G.at q2) F r (x.map clr) v
  | _, _, .nil => .nil
  | _, _, .cons h t => by
    refine .cons ?_ (RSs.clr t)
    cases h with
    | u => exact .u
    | v h => exact .v (h.px (G := G.at q) (q := q2))
    | e h t => exact .u
theorem RSs.set0 {x : Sg} {v : Vt} (h : RSs G F r x v) (i : Nat) : RSs G F r (x.set i .u) (v.set i none) := h.set .u i
end
end Fk

set_option Elab.async false
set_option linter.all false
set_option autoImplicit false
set_option maxRecDepth 100000
set_option maxHeartbeats 1000000
/-! Fk 2: the plain language and what it computes -/
namespace Fk
open PySem PySem.Spec PyProof.Rows L2

inductive Op where
  | add (m : Bool) | sub | mul (m : Bool) | fdiv | mod | pow | shl | shr | band | bxor
  | eq | ne | lt | le | gt | ge | isin | notin | isN | notN
inductive Bi where
  | len | int | str | sum | abs | bool | list (m : Bool) | tup | min | max | sorted (m : Bool) | all | any | repr | listr (m : Bool) | dict (m : Bool)
inductive Me where
  | append | pop | extend | index | count | insert | clear | reverse
  | join | startswith | split (m : Bool) | get | keys | isup
inductive Cl where
  | int | bool | str | tup | lst | dct | own (c : Nat)
inductive It where
  | seq | range | enum | zip | rev | items | keys
/-- the plain language, all sorts in one -/
inductive I where
  | nil | cons (a b : I)
  | var (i : Nat) | lit (x : P) | con (k : Nat)
  | op (o : Op) (a b : I) | neg (a : I) | notv (a : I) | andv (a b : I) | orv (a b : I) | chain (o o' : Op) (a b c : I) | ite (t a b : I)
  | call (f : Nat) (as : I) | mk (fz : Bool) (c : Nat) (as : I) | bi (b : Bi) (as : I) | me (m : Me) (o as : I) | mo (c f : Nat) (o as : I)
  | tup (as : I) | lst (m : Bool) (as : I) | dct (m : Bool) (ks vs : I)
  | trev (a : I) | lrng (m : Bool) (as : I) | hsum (i : Nat) (a : I) | dct0 (m : Bool)
  | ix (a i : I) | sl (m : Bool) (a lo hi : I) | fld (a : I) (f : Nat) | fst (as : I)
  | isi (a : I) (c : Cl) | exf (i : Nat) (f : Nat) | exv (i : Nat) | exi (i : Nat) (ks : List (Nat × Bool))
  | comp (m : Bool) (ws : List Nat) (g it t e : I)
  | its (k : It) (as : I)
  | gn (i : Nat) | gt (gs : I)
  | tand (a b : I) | tor (a b : I) | tnot (a : I) | tval (a : I) | tyes
  | pass | seq (a b : I) | expr (e : I) | asg (g e : I) | seti (o i e : I) | setf (o : I) (f : Nat) (e : I) | aug (i : Nat) (o : Op) (e : I)
  | ret (e : I) | retn | if_ (t a b : I) | for_ (g it b : I) | while_ (t b : I) | brk | cont
  | raise (x c : Nat) (k : Xk) (as : I) | try_ (b : I) (c : Nat) (ks : List (Nat × Bool)) (i : Nat) (s : I) | frz (i : Nat) | never | gc

/-! ### values -/
def rdL (L : Hl) : D → Option (List P)
  | .p (.lst xs) => some xs
  | .ref n => (match L[n]? with | some (.lst xs) => some xs | _ => none)
  | _ => none
def rdQ (L : Hl) : D → Option (List P)
  | .p (.lst xs) => some xs
  | .p (.tup xs) => some xs
  | .p (.rol xs) => some xs
  | .ref n => (match L[n]? with | some (.lst xs) => some xs | _ => none)
  | _ => none
def rdK (L : Hl) : D → Option (List (P × P))
  | .p (.dct xs) => some xs
  | .ref n => (match L[n]? with | some (.dct xs) => some xs | _ => none)
  | _ => none
def newL (m : Bool) (xs : List P) (L : Hl) : R D := if m then .ok (.ref L.length) (L ++ [.lst xs]) else .ok (.p (.lst xs)) L
def rdS (L : Hl) : D → Option (List P)
  | .p (.lst xs) => some xs
  | .p (.rol xs) => some xs
  | .ref n => (match L[n]? with | some (.lst xs) => some xs | _ => none)
  | _ => none
def newK (m : Bool) (kvs : List (P × P)) (L : Hl) : R D := if m then .ok (.ref L.length) (L ++ [.dct kvs]) else .ok (.p (.dct kvs)) L
/-- all are texts -/
def strsP : List P → Option (List Str)
  | [] => some []
  | .str s :: r => (strsP r).map (s :: ·)
  | _ => none
def intsP : List P → Option (List Int)
  | [] => some []
  | .int i :: r => (intsP r).map (i :: ·)
  | _ => none
/-- ints and bools by their numbers -/
def numsP : List P → Option (List Int)
  | [] => some []
  | .int i :: r => (numsP r).map (i :: ·)
  | .bl b :: r => (numsP r).map ((if b then 1 else 0) :: ·)
  | _ => none
/-- bools by their numbers -/
def boolsP : List P → Option (List Int)
  | [] => some []
  | .bl b :: r => (boolsP r).map ((if b then 1 else 0) :: ·)
  | _ => none
def rangeP (lo : Int) (n : Nat) : List P := (List.range n).map fun (k : Nat) => P.int (lo + (k : Int))
/-- what a value looks like -/
def look (L : Hl) : D → Option P
  | .p x => some x
  | .ref n => (match L[n]? with | some (.lst xs) => some (.lst xs) | _ => none)
mutual
def toY : P → Option PyData
  | .non => some .none
  | .bl b => some (.bool b)
  | .int i => some (.int i)
  | .str s => some (.str s)
  | .tup xs => (toYs xs).map .tuple
  | .lst xs => (toYs xs).map .list
  | .rol _ => none
  | .dct _ => none
  | .obj _ _ => none
  | .cls _ => none
  | .ty _ => none
def toYs : List P → Option (List PyData)
  | [] => some []
  | x :: xs => match toY x, toYs xs with
    | some d, some ds => some (d :: ds)
    | _, _ => none
end
def eqP (x y : P) : Option Bool := match x, y with
  | .int i, .int j => some (decide (i = j))
  | .str i, .str j => some (decide (i = j))
  | .bl i, .bl j => some (decide (i = j))
  | .non, .non => some true
  | x, y => match toY x, toY y with
    | some d, some e => if SeqAt.shaped d && SeqAt.shaped e then some (PyData.eqv d e) else none
    | _, _ => none
def flatP : P → Bool
  | .non => true | .bl _ => true | .int _ => true | .str _ => true | _ => false
def eqF : P → P → Bool
  | .non, .non => true
  | .bl a, .bl b => a == b
  | .bl a, .int b => (if a then 1 else 0) == b
  | .int a, .bl b => a == (if b then 1 else 0)
  | .int a, .int b => a == b
  | .str a, .str b => a == b
  | _, _ => false
def inP (x : P) (xs : List P) : Bool := xs.any fun y => eqF y x
/-- keys of dicts: ints and texts -/
def keyP : P → Bool
  | .int _ => true | .str _ => true | _ => false
def getK (x : P) : List (P × P) → Option P
  | [] => none
  | q :: r => if eqF q.1 x then some q.2 else getK x r
def putK' (x y : P) (kvs : List (P × P)) : List (P × P) := if (kvs.any fun q => eqF q.1 x) = true then kvs.map (fun q => if eqF q.1 x = true then (q.1, y) else q) else kvs ++ [(x, y)]
def isInD (x y : D) (L : Hl) : Option Bool := match x, y with
  | .p (.str a), .p (.str b) => some (!(Builtin.Str.occurrences b a 0 b.length 1).isEmpty)
  | .p x, y => match rdQ L y with
    | some xs => if flatP x && xs.all flatP then some (inP x xs) else none
    | none => (match rdK L y with
      | some kvs => if keyP x then some (getK x kvs).isSome else none
      | none => none)
  | _, _ => none
def blR (b : Option Bool) (L : Hl) : R D := match b with
  | some b => .ok (.p (.bl b)) L
  | none => .bad
def opD (o : Op) (x y : D) (L : Hl) : R D := match o with
  | .add m => (match x, y with
    | .p (.int i), .p (.int j) => .ok (.p (.int (i + j))) L
    | .p (.str i), .p (.str j) => if i.length + j.length ≤ sizeLine then .ok (.p (.str (i ++ j))) L else .bad
    | .p (.tup i), .p (.tup j) => if i.length + j.length ≤ sizeLine then .ok (.p (.tup (i ++ j))) L else .bad
    | x, y => match rdL L x, rdL L y with
      | some i, some j => if i.length + j.length ≤ sizeLine then newL m (i ++ j) L else .bad
      | _, _ => .bad)
  | .sub => (match x, y with
    | .p (.int i), .p (.int j) => .ok (.p (.int (i - j))) L
    | _, _ => .bad)
  | .mul m => (match x, y with
    | .p (.int i), .p (.int j) => if i.natAbs.log2 + j.natAbs.log2 < 1000000 then .ok (.p (.int (i * j))) L else .bad
    | _, _ => .bad)
  | .fdiv => (match x, y with
    | .p (.int i), .p (.int j) => if 0 < j ∧ j.natAbs.log2 < 9000 then .ok (.p (.int (i / j))) L else .bad
    | _, _ => .bad)
  | .mod => (match x, y with
    | .p (.int i), .p (.int j) => if 0 < j then .ok (.p (.int (i % j))) L else .bad
    | _, _ => .bad)
  | .pow => (match x, y with
    | .p (.int i), .p (.int j) => if 0 ≤ j ∧ j ≤ 1000000 ∧ i.natAbs < 2 ^ 64 then .ok (.p (.int (i ^ j.toNat))) L else .bad
    | _, _ => .bad)
  | .shl => (match x, y with
    | .p (.int i), .p (.int j) => if 0 ≤ j ∧ j ≤ 1000000 ∧ i.natAbs < 2 ^ 64 then .ok (.p (.int (i * 2 ^ j.toNat))) L else .bad
    | _, _ => .bad)
  | .shr => (match x, y with
    | .p (.int i), .p (.int j) => if 0 ≤ j then .ok (.p (.int (i / 2 ^ j.toNat))) L else .bad
    | _, _ => .bad)
  | .band => (match x, y with
    | .p (.int i), .p (.int j) => .ok (.p (.int (Builtin.bitAnd i j))) L
    | _, _ => .bad)
  | .bxor => (match x, y with
    | .p (.int i), .p (.int j) => .ok (.p (.int (Builtin.bitXor i j))) L
    | _, _ => .bad)
  | .eq => (match look L x, look L y with
    | some a, some b => blR (eqP a b) L
    | _, _ => .bad)
  | .ne => (match look L x, look L y with
    | some a, some b => blR ((eqP a b).map (!·)) L
    | _, _ => .bad)
  | .lt => (match x, y with
    | .p (.int i), .p (.int j) => .ok (.p (.bl (decide (i < j)))) L
    | .p (.str i), .p (.str j) => .ok (.p (.bl (decide (i.cps.toList < j.cps.toList)))) L
    | _, _ => .bad)
  | .le => (match x, y with
    | .p (.int i), .p (.int j) => .ok (.p (.bl (decide (i ≤ j)))) L
    | _, _ => .bad)
  | .gt => (match x, y with
    | .p (.int i), .p (.int j) => .ok (.p (.bl (decide (j < i)))) L
    | _, _ => .bad)
  | .ge => (match x, y with
    | .p (.int i), .p (.int j) => .ok (.p (.bl (decide (j ≤ i)))) L
    | _, _ => .bad)
  | .isin => blR (isInD x y L) L
  | .notin => blR ((isInD x y L).map (!·)) L
  | .isN => (match x, y with
    | .p .non, .p .non => .ok (.p (.bl true)) L
    | _, .p .non => .ok (.p (.bl false)) L
    | _, _ => .bad)
  | .notN => (match x, y with
    | .p .non, .p .non => .ok (.p (.bl false)) L
    | _, .p .non => .ok (.p (.bl true)) L
    | _, _ => .bad)
def truD (L : Hl) : D → Option Bool
  | .p .non => some false
  | .p (.bl b) => some b
  | .p (.int i) => some (i != 0)
  | .p (.str s) => if s.length ≤ sizeLine then some ((s.length : Int) != 0) else none
  | .p (.tup xs) => some (!xs.isEmpty)
  | .p (.rol xs) => some (!xs.isEmpty)
  | d => match rdL L d with
    | some xs => some (!xs.isEmpty)
    | none => (match rdK L d with
      | some kvs => some (!kvs.isEmpty)
      | none => none)
/-- all are pure -/
def pures : List Sl → Option (List P)
  | [] => some []
  | .v (.p x) :: r => (pures r).map (x :: ·)
  | _ => none
def vals : List Sl → Option (List D)
  | [] => some []
  | .v x :: r => (vals r).map (x :: ·)
  | _ => none
def sumI : Int → List P → Option Int
  | a, [] => some a
  | a, .int i :: r => sumI (a + i) r
  | _, _ => none
def biD (b : Bi) (as : List D) (L : Hl) : R D := match b, as with
  | .len, [x] => (match x with
    | .p (.str s) => if s.length ≤ sizeLine then .ok (.p (.int s.length)) L else .bad
    | x => match rdQ L x with
      | some xs => .ok (.p (.int xs.length)) L
      | none => (match rdK L x with
        | some xs => .ok (.p (.int xs.length)) L
        | none => .bad))
  | .int, [x] => (match x with
    | .p (.int i) => .ok (.p (.int i)) L
    | .p (.bl b) => .ok (.p (.int (if b then 1 else 0))) L
    | _ => .bad)
  | .str, [x] => (match x with
    | .p (.int i) => if i.natAbs.log2 < 1920 then .ok (.p (.str (toString i))) L else .bad
    | _ => .bad)
  | .abs, [x] => (match x with
    | .p (.int i) => .ok (.p (.int (if i < 0 then -i else i))) L
    | _ => .bad)
  | .sum, [x] => (match rdS L x with
    | some xs => (match intsP xs with
      | some ns => .ok (.p (.int ns.sum)) L
      | none => .bad)
    | none => .bad)
  | .min, [x, y] => (match x, y with
    | .p (.int i), .p (.int j) => .ok (.p (.int (if j < i then j else i))) L
    | _, _ => .bad)
  | .max, [x, y] => (match x, y with
    | .p (.int i), .p (.int j) => .ok (.p (.int (if j > i then j else i))) L
    | _, _ => .bad)
  | .list m, [x] => (match rdQ L x with
    | some xs => newL m xs L
    | none => .bad)
  | .tup, [x] => (match rdQ L x with
    | some xs => .ok (.p (.tup xs)) L
    | none => .bad)
  | _, _ => .bad
def atP (xs : List P) (i : Int) : Option P := (ixN xs.length i).bind fun j => xs[j]?
def ixD (x i : D) (L : Hl) : R D := match x, i with
  | .p (.str s), .p (.int k) => if s.length ≤ sizeLine then (match atI s.cps.toList k with
    | some c => .ok (.p (.str ⟨#[c]⟩)) L
    | none => .bad) else .bad
  | x, .p (.int k) => (match rdQ L x with
    | some xs => (match atP xs k with
      | some y => .ok (.p y) L
      | none => .bad)
    | none => .bad)
  | _, _ => .bad
def cutP (xs : List P) (lo hi : Option Int) : List P := (xs.drop (HT.sIx xs.length 0 lo)).take (HT.sIx xs.length xs.length hi - HT.sIx xs.length 0 lo)
def slD (m : Bool) (x : D) (lo hi : Option Int) (L : Hl) : R D := match x with
  | .p (.str s) => if s.length ≤ sizeLine then .ok (.p (.str (cutS s lo hi))) L else .bad
  | .p (.tup xs) => .ok (.p (.tup (cutP xs lo hi))) L
  | .p (.rol xs) => newL m (cutP xs lo hi) L
  | x => (match rdL L x with
    | some xs => newL m (cutP xs lo hi) L
    | none => .bad)
def appendD (o : D) (as : List D) (L : Hl) : R D := match o, as with
  | .ref n, [.p x] => (match L[n]? with
    | some (.lst xs) => if xs.length < sizeLine then .ok (.p .non) (L.set n (.lst (xs ++ [x]))) else .bad
    | _ => .bad)
  | _, _ => .bad
def popD (o : D) (as : List D) (L : Hl) : R D := match o, as with
  | .ref n, [] => (match L[n]? with
    | some (.lst xs) => (match xs[xs.length - 1]? with
      | some y => .ok (.p y) (L.set n (.lst xs.dropLast))
      | none => .bad)
    | _ => .bad)
  | _, _ => .bad
def joinD (o : D) (as : List D) (L : Hl) : R D := match o, as with
  | .p (.str a), [x] => (match rdQ L x with
    | some xs => (match strsP xs with
      | some ys => if (ys.map (·.length)).sum + ys.length * a.length ≤ 16777216 then .ok (.p (.str (Txt.join a ys))) L else .bad
      | none => .bad)
    | none => .bad)
  | _, _ => .bad
def meD (m : Me) (o : D) (as : List D) (L : Hl) : R D := match m with
  | .append => appendD o as L
  | .pop => popD o as L
  | .join => joinD o as L
  | _ => .bad
def isStrD : D → Bool
  | .p (.str _) => true
  | _ => false
def meT : Me → String
  | .append => "list" | .pop => "list" | .extend => "list" | .index => "list" | .count => "list" | .insert => "list" | .clear => "list" | .reverse => "list"
  | .join => "str" | .startswith => "str" | .split _ => "str" | .isup => "str" | .get => "dict" | .keys => "dict"
def tyOk (m : Me) (x : D) (L : Hl) : Bool := match meT m with
  | "list" => (rdL L x).isSome
  | "str" => isStrD x
  | "dict" => (rdK L x).isSome
  | _ => false
def setD (o i x : D) (L : Hl) : R Unit := match o, i, x with
  | .ref n, .p i, .p x => (match L[n]?, i with
    | some (.lst xs), .int k => (match ixN xs.length k with
      | some j => .ok () (L.set n (.lst (xs.set j x)))
      | none => .bad)
    | some (.dct kvs), i => if keyP i ∧ kvs.length < 1000000 then .ok () (L.set n (.dct (putK' i x kvs))) else .bad
    | _, _ => .bad)
  | _, _, _ => .bad
def lkF (f : Nat) : List (Nat × D) → Option D
  | [] => none
  | q :: r => if q.1 = f then some q.2 else lkF f r
def lkP (f : Nat) : List (Nat × P) → Option P
  | [] => none
  | q :: r => if q.1 = f then some q.2 else lkP f r
def fldD (o : D) (f : Nat) (L : Hl) : R D := match o with
  | .p (.obj _ fs) => (match lkP f fs with
    | some x => .ok (.p x) L
    | none => .bad)
  | .ref n => (match L[n]? with
    | some (.ins _ fs) => (match lkF f fs with
      | some x => .ok x L
      | none => .bad)
    | _ => .bad)
  | _ => .bad
def tyP : P → Cl → Option Bool
  | .non, .own _ => some false | .non, _ => some false
  | .bl _, .bool => some true | .bl _, .int => some true | .bl _, _ => some false
  | .int _, .int => some true | .int _, _ => some false
  | .str _, .str => some true | .str _, _ => some false
  | .tup _, .tup => some true | .tup _, _ => some false
  | .lst _, .lst => some true | .lst _, _ => some false
  | .rol _, .lst => some true | .rol _, _ => some false
  | .dct _, .dct => some true | .dct _, _ => some false
  | .obj c _, .own d => some (decide (c = d))
  | _, _ => none
/-- ways on -/
inductive Fl where
  | nx (t : Sg) | rt (d : D) | bk (t : Sg) | ct (t : Sg)
inductive RS2 where
  | ok (f : Fl) (L : Hl)
  | ex (c : Nat) (fs : Flds) (t : Sg) (L : Hl)
  | bad
/-- an expression ahead of a statement -/
def R.st {α : Type} (r : R α) (t : Sg) (f : α → Hl → RS2) : RS2 := match r with
  | .ok a L => f a L
  | .ex c fs L => .ex c fs t L
  | .bad => .bad
@[simp] theorem R.st_ok {α : Type} (a : α) (L : Hl) (t : Sg) (f : α → Hl → RS2) : (R.ok a L).st t f = f a L := rfl
@[simp] theorem R.st_ex {α : Type} (c : Nat) (fs : Flds) (L : Hl) (t : Sg) (f : α → Hl → RS2) : (R.ex c fs L : R α).st t f = .ex c fs t L := rfl
@[simp] theorem R.st_bad {α : Type} (t : Sg) (f : α → Hl → RS2) : (R.bad : R α).st t f = .bad := rfl
def RS2.seq (r : RS2) (f : Sg → Hl → RS2) : RS2 := match r with
  | .ok (.nx t) L => f t L
  | r => r
@[simp] theorem RS2.seq_nx (t : Sg) (L : Hl) (f : Sg → Hl → RS2) : (RS2.ok (.nx t) L).seq f = f t L := rfl
@[simp] theorem RS2.seq_rt (d : D) (L : Hl) (f : Sg → Hl → RS2) : (RS2.ok (.rt d) L).seq f = .ok (.rt d) L := rfl
@[simp] theorem RS2.seq_bk (t : Sg) (L : Hl) (f : Sg → Hl → RS2) : (RS2.ok (.bk t) L).seq f = .ok (.bk t) L := rfl
@[simp] theorem RS2.seq_ct (t : Sg) (L : Hl) (f : Sg → Hl → RS2) : (RS2.ok (.ct t) L).seq f = .ok (.ct t) L := rfl
@[simp] theorem RS2.seq_ex (c : Nat) (fs : Flds) (t : Sg) (L : Hl) (f : Sg → Hl → RS2) : (RS2.ex c fs t L).seq f = .ex c fs t L := rfl
@[simp] theorem RS2.seq_bad (f : Sg → Hl → RS2) : RS2.bad.seq f = .bad := rfl
/-- the attributes that such an exception has -/
def xcD (k : Xk) (xs : List Sl) : Option Flds := match k, xs with
  | .plain, [] => some []
  | .plain, [.v (.p _)] => some []
  | .intf f, [.v (.p (.int i))] => if i.natAbs.log2 < 1920 then some [(f, .int i)] else none
  | .shown f, [.v (.p x)] => (match x with
    | .str s => if s.length ≤ 1000 then some [(f, .str s)] else none
    | x => if (tyP x .str).isSome then some [(f, x)] else none)
  | _, _ => none
/-- the clause of a try -/
def tryS (ks : List (Nat × Bool)) (i : Nat) (h : Sg → Hl → RS2) (r : RS2) : RS2 := match r with
  | .ex c fs t L => (match ks.lookup c with
    | some true => (match h (t.set i (.e c fs)) L with
      | .ok (.nx t') L' => .ok (.nx ((t'.map clr).set i .u)) L'
      | .ok (.bk t') L' => .ok (.bk ((t'.map clr).set i .u)) L'
      | .ok (.ct t') L' => .ok (.ct ((t'.map clr).set i .u)) L'
      | .ok (.rt d) L' => .ok (.rt d) L'
      | _ => .bad)
    | some false => .ex c fs t L
    | none => .bad)
  | r => r
/-- is the walked thing as it was -/
def still (g : Option Nat) (xs : List P) (L : Hl) : Bool := match g with
  | none => true
  | some n => match L[n]? with
    | some (.lst ys) => ys.length == xs.length && (toYs ys).isSome && decide ((toYs ys).map (fun _ => ()) = (toYs xs).map (fun _ => ()))
    | _ => false
/-- for: body from the slots and heap; guarded by what is walked -/
def forL (body : P → Sg → Hl → RS2) : List P → Sg → Hl → RS2
  | [], t, L => .ok (.nx t) L
  | x :: r, t, L => match body x t L with
    | .ok (.nx t') L' => forL body r t' L'
    | .ok (.ct t') L' => forL body r t' L'
    | .ok (.bk t') L' => .ok (.nx t') L'
    | o => o
def whileL (test : Sg → Hl → R Bool) (body : Sg → Hl → RS2) : Nat → Sg → Hl → RS2
  | 0, _, _ => .bad
  | n + 1, t, L => (test t L).st t fun b L1 => if b then (match body t L1 with
    | .ok (.nx t') L' => whileL test body n t' L'
    | .ok (.ct t') L' => whileL test body n t' L'
    | .ok (.bk t') L' => .ok (.nx t') L'
    | o => o) else .ok (.nx t) L1
/-- no exception may leave a comprehension -/
def R.nox {α : Type} (r : R α) : R α := match r with
  | .ok a L => .ok a L
  | _ => .bad
@[simp] theorem R.nox_ok {α : Type} (a : α) (L : Hl) : (R.ok a L).nox = .ok a L := rfl
@[simp] theorem R.nox_bad {α : Type} : (R.bad : R α).nox = .bad := rfl
@[simp] theorem R.nox_ex {α : Type} (c : Nat) (fs : Flds) (L : Hl) : (R.ex c fs L : R α).nox = .bad := rfl
def compL (turn : P → Hl → R (Option P)) (n : Nat) : List P → Hl → R Unit
  | [], L => .ok () L
  | x :: r, L => (turn x L).nox.bind fun y L1 => match y with
    | some y => (match L1[n]? with
      | some (.lst acc) => if acc.length < sizeLine then compL turn n r (L1.set n (.lst (acc ++ [y]))) else .bad
      | _ => .bad)
    | none => compL turn n r L1
def compEnd (m : Bool) (n : Nat) (L : Hl) : R D := match L[n]? with
  | some (.lst ys) => if m then .ok (.ref n) L else if (L.take n).all (closedO n) then .ok (.p (.lst ys)) (L.take n) else .bad
  | _ => .bad
def seqD (x : D) (L : Hl) : R (List P) := match x with
  | .p (.str s) => .ok (s.cps.toList.map fun c => .str ⟨#[c]⟩) L
  | .p (.lst xs) => .ok xs L
  | .p (.rol xs) => .ok xs L
  | .p (.tup xs) => .ok xs L
  | _ => .bad
def rangeD (as : List D) (L : Hl) : R (List P) := match as with
  | [.p (.int j)] => if -(2 ^ 62) ≤ j ∧ j < 2 ^ 62 then .ok (rangeP 0 j.toNat) L else .bad
  | [.p (.int i), .p (.int j)] => if -(2 ^ 62) ≤ i ∧ i < 2 ^ 62 ∧ -(2 ^ 62) ≤ j ∧ j < 2 ^ 62 then .ok (rangeP i (j - i).toNat) L else .bad
  | _ => .bad
def enumD (as : List D) (L : Hl) : R (List P) := match as with
  | [.p (.lst xs)] => .ok ((xs.zipIdx).map fun q => .tup [.int q.2, q.1]) L
  | _ => .bad
def zipD (as : List D) (L : Hl) : R (List P) := match as with
  | [.p (.lst xs), .p (.lst ys)] => .ok ((xs.zip ys).map fun q => .tup [q.1, q.2]) L
  | [.p (.tup xs), .p (.tup ys)] => .ok ((xs.zip ys).map fun q => .tup [q.1, q.2]) L
  | [.p (.tup xs), .p (.lst ys)] => .ok ((xs.zip ys).map fun q => .tup [q.1, q.2]) L
  | _ => .bad
def revD (as : List D) (L : Hl) : R (List P) := match as with
  | [.p (.lst xs)] => .ok xs.reverse L
  | [.p (.tup xs)] => .ok xs.reverse L
  | _ => .bad
def itD (k : It) (as : List D) (L : Hl) : R (List P) := match k with
  | .seq => (match as with
    | [x] => seqD x L
    | _ => .bad)
  | .range => rangeD as L
  | .enum => enumD as L
  | .zip => zipD as L
  | .rev => revD as L
  | _ => .bad
def getV (t : Sg) (i : Nat) (L : Hl) : R D := match t[i]? with
  | some (.v d) => .ok d L
  | _ => .bad
/-- targets -/
def gLen : I → Nat
  | .cons _ r => gLen r + 1
  | _ => 0
def gIs : I → List P → Sg → Option Sg
  | .nil, [], t => some t
  | .cons (.gn i) r, x :: xs, t => gIs r xs (t.set i (.v (.p x)))
  | _, _, _ => none
def gI (g : I) (x : D) (t : Sg) : Option Sg := match g, x with
  | .gn i, x => some (t.set i (.v x))
  | .gt gs, .p (.tup xs) => if xs.length = gLen gs then gIs gs xs t else none
  | _, _ => none
def wipeS (t : Sg) : List Nat → Sg
  | [] => t
  | v :: vs => (wipeS t vs).set v .u
section
variable (cf : Nat → List Sl → Hl → R D) (cn : Nat → Option P)
mutual
def dE : I → Sg → Hl → R D
  | .var i, t, L => getV t i L
  | .lit x, _, L => .ok (.p x) L
  | .con k, _, L => (match cn k with
    | some x => .ok (.p x) L
    | none => .bad)
  | .op o a b, t, L => (dE a t L).bind fun x L => (dE b t L).bind fun y L => opD o x y L
  | .neg a, t, L => (dE a t L).bind fun x L => (match x with
    | .p (.int i) => .ok (.p (.int (-i))) L
    | _ => .bad)
  | .notv a, t, L => (dE a t L).bind fun x L => (match truD L x with
    | some b => .ok (.p (.bl (!b))) L
    | none => .bad)
  | .andv a b, t, L => (dE a t L).bind fun x L => (match truD L x with
    | some true => dE b t L
    | some false => .ok x L
    | none => .bad)
  | .orv a b, t, L => (dE a t L).bind fun x L => (match truD L x with
    | some true => .ok x L
    | some false => dE b t L
    | none => .bad)
  | .chain o o' a b c, t, L => (dE a t L).bind fun x L => (dE b t L).bind fun y L => (opD o x y L).bind fun z L => (match z with
    | .p (.bl true) => (dE c t L).bind fun w L => opD o' y w L
    | .p (.bl false) => .ok (.p (.bl false)) L
    | _ => .bad)
  | .ite c a b, t, L => (dT c t L).bind fun q L => if q then dE a t L else dE b t L
  | .call f as, t, L => (dA as t L).bind fun xs L => cf f xs L
  | .bi b as, t, L => (dA as t L).bind fun xs L => (match vals xs with
    | some ys => biD b ys L
    | none => .bad)
  | .me m o as, t, L => (dE o t L).bind fun x L => if tyOk m x L then (dA as t L).bind fun xs L => (match vals xs with
    | some ys => meD m x ys L
    | none => .bad) else .bad
  | .tup as, t, L => (dA as t L).bind fun xs L => (match pures xs with
    | some ys => if ys.length ≤ sizeLine then .ok (.p (.tup ys)) L else .bad
    | none => .bad)
  | .lst m as, t, L => (dA as t L).bind fun xs L => (match pures xs with
    | some ys => if ys.length ≤ sizeLine then newL m ys L else .bad
    | none => .bad)
  | .trev a, t, L => (dE a t L).bind fun x L => (match rdS L x with
    | some xs => .ok (.p (.tup xs.reverse)) L
    | none => .bad)
  | .lrng m (.cons a .nil), t, L => (dE a t L).bind fun x L => (match x with
    | .p (.int j) => if -(2 ^ 62) ≤ j ∧ j ≤ 16777216 then newL m (rangeP 0 j.toNat) L else .bad
    | _ => .bad)
  | .hsum i a, t, L => (dE a t L).bind fun x L => (match rdS L x with
    | some xs => (match boolsP xs with
      | some ns => if i < t.length ∧ xs.length ≤ 10000 then .ok (.p (.int ns.sum)) L else .bad
      | none => .bad)
    | none => .bad)
  | .dct0 m, _, L => newK m [] L
  | .ix a i, t, L => (dE a t L).bind fun x L => (dE i t L).bind fun y L => ixD x y L
  | .sl m a lo hi, t, L => (dE a t L).bind fun x L => (dO lo t L).bind fun y L => (dO hi t L).bind fun z L => slD m x y z L
  | .fld a f, t, L => (dE a t L).bind fun x L => fldD x f L
  | .isi a c, t, L => (dE a t L).bind fun x L => (match look L x with
    | some y => blR (tyP y c) L
    | none => .bad)
  | .exi i ks, t, L => (match t[i]? with
    | some (.e c _) => blR (ks.lookup c) L
    | _ => .bad)
  | .exf i f, t, L => (match t[i]? with
    | some (.e _ fs) => (match lkP f fs with
      | some x => .ok (.p x) L
      | none => .bad)
    | _ => .bad)
  | .comp m ws g it c e, t, L => (dI it t L).bind fun xs L => (compL (fun x L => match gI g (.p x) (wipeS t ws) with
    | some t' => (dT c t' L).bind fun b L => if b then (dE e t' L).bind fun y L => (match y with
      | .p y => .ok (some y) L
      | _ => .bad) else .ok none L
    | none => .bad) L.length xs (L ++ [.lst []])).bind fun _ L' => compEnd m L.length L'
  | _, _, _ => .bad
def dO : I → Sg → Hl → R (Option Int)
  | .nil, _, L => .ok none L
  | .cons a _, t, L => (dE a t L).bind fun x L => (match x with
    | .p (.int i) => .ok (some i) L
    | _ => .bad)
  | _, _, _ => .bad
def dA : I → Sg → Hl → R (List Sl)
  | .nil, _, L => .ok [] L
  | .cons (.exv i) r, t, L => (match t[i]? with
    | some (.e c fs) => (dA r t L).bind fun xs L => .ok (.e c fs :: xs) L
    | _ => .bad)
  | .cons a r, t, L => (dE a t L).bind fun x L => (dA r t L).bind fun xs L => .ok (.v x :: xs) L
  | _, _, _ => .bad
def dI : I → Sg → Hl → R (List P)
  | .its k as, t, L => (dA as t L).bind fun xs L => (match vals xs with
    | some ys => itD k ys L
    | none => .bad)
  | _, _, _ => .bad
def dT : I → Sg → Hl → R Bool
  | .tand a b, t, L => (dT a t L).bind fun q L => if q then dT b t L else .ok false L
  | .tor a b, t, L => (dT a t L).bind fun q L => if q then .ok true L else dT b t L
  | .tnot a, t, L => (dT a t L).bind fun q L => .ok (!q) L
  | .tval a, t, L => (dE a t L).bind fun x L => (match truD L x with
    | some b => .ok b L
    | none => .bad)
  | .tyes, _, L => .ok true L
  | _, _, _ => .bad
def dS : I → Sg → Hl → RS2
  | .pass, t, L => .ok (.nx t) L
  | .seq a b, t, L => (dS a t L).seq fun t L => dS b t L
  | .expr e, t, L => (dE e t L).st t fun _ L => .ok (.nx t) L
  | .asg g e, t, L => (dE e t L).st t fun x L => (match gI g x t with
    | some t' => .ok (.nx t') L
    | none => .bad)
  | .seti o i e, t, L => (dE e t L).st t fun x L => (dE o t L).st t fun y L => (dE i t L).st t fun z L => (setD y z x L).st t fun _ L => .ok (.nx t) L
  | .ret e, t, L => (dE e t L).st t fun x L => .ok (.rt x) L
  | .retn, _, L => .ok (.rt (.p .non)) L
  | .if_ c a b, t, L => (dT c t L).st t fun q L => if q then dS a t L else dS b t L
  | .for_ g it b, t, L => (dI it t L).st t fun xs L => forL (fun x t L => match gI g (.p x) t with
    | some t' => dS b t' L
    | none => .bad) xs t L
  | .while_ c b, t, L => whileL (fun t L => dT c t L) (fun t L => dS b t L) 1000000 t L
  | .brk, t, L => .ok (.bk t) L
  | .cont, t, L => .ok (.ct t) L
  | .frz i, t, L => (match t[i]? with
    | some (.v (.ref n)) => (match L[n]? with
      | some (.lst xs) => .ok (.nx (t.set i (.v (.p (.lst xs))))) (L.set n .dead)
      | _ => .bad)
    | some (.v (.p _)) => .ok (.nx t) L
    | _ => .bad)
  | .raise _ c k as, t, L => (dA as t L).st t fun xs L => (match xcD k xs with
    | some fs => .ex c fs t L
    | none => .bad)
  | .try_ b _ ks i s, t, L => tryS ks i (fun t L => dS s t L) (dS b t L)
  | _, _, _ => .bad
end
end
end Fk

set_option Elab.async false
set_option linter.all false
set_option autoImplicit false
set_option maxRecDepth 100000
set_option maxHeartbeats 1000000
/-! Fk 3: readings from the plain language; operators by values -/
namespace Fk
open PySem PySem.Spec PyProof.Rows L2

/-- what is wanted behind a result -/
def Po {α β : Type} (G : Gm) (rel : Hp → Rho → α → β → Prop) (F : Hp) (r : Rho) (res : R α) (Q : β → Hp → Prop) (E : XK) : Prop := match res with
  | .ok a L => ∀ (F' : Hp) (r' : Rho) (H' : Hp) (v : β), Same F F' → Pre r r' → Rel G F' r' H' L → rel F' r' a v → Q v H'
  | .ex c fs L => ∀ (F' : Hp) (r' : Rho) (H' : Hp) (d : Option Addr), Same F F' → Pre r r' → Rel G F' r' H' L → RX G F' fs d → E (.ref (G.ca c)) d H'
  | .bad => False
section
variable {α β γ δ : Type} {G : Gm} {rel : Hp → Rho → α → β → Prop} {rel2 : Hp → Rho → γ → δ → Prop} {F F1 : Hp} {r r1 : Rho} {H : Hp} {L : Hl} {Q : β → Hp → Prop} {Q2 : δ → Hp → Prop} {E : XK}
theorem Po.mono {res : R α} (h : Po G rel F r res Q E) (s : Same F F1) (p : Pre r r1) : Po G rel F1 r1 res Q E := by
  cases res with
  | ok a L => exact fun F' r' H' v s' p' => h F' r' H' v (s.trans s') (p.trans p')
  | ex c fs L => exact fun F' r' H' d s' p' => h F' r' H' d (s.trans s') (p.trans p')
  | bad => exact h
theorem Po.imp {Q' : β → Hp → Prop} {res : R α} (h : Po G rel F r res Q E) (w : ∀ v H, Q v H → Q' v H) : Po G rel F r res Q' E := by
  cases res with
  | ok a L => exact fun F' r' H' v s p R d => w _ _ (h F' r' H' v s p R d)
  | ex c fs L => exact h
  | bad => exact h
/-- behind a first part the second one is left -/
theorem Po.bind {res : R α} {f : α → Hl → R γ} (h : Po G rel2 F r (res.bind f) Q2 E) :
    Po G rel F r res (fun v H => ∃ F' r' a L, Same F F' ∧ Pre r r' ∧ Rel G F' r' H L ∧ rel F' r' a v ∧ Po G rel2 F' r' (f a L) Q2 E) E := by
  cases res with
  | ok a L => exact fun F' r' H' v s p R d => ⟨F', r', a, L, s, p, R, d, Po.mono h s p⟩
  | ex c fs L => exact h
  | bad => exact h
/-- a first part, then what follows with it -/
theorem Po.step {res : R α} {f : α → Hl → R γ} (po : Po G rel2 F r (res.bind f) Q2 E)
    (hQ : ∀ (v : β) (H' F' : Hp) (r' : Rho) (a : α) (L' : Hl), res = .ok a L' → Same F F' → Pre r r' → Rel G F' r' H' L' → rel F' r' a v → Po G rel2 F' r' (f a L') Q2 E → Q v H') : Po G rel F r res Q E := by
  cases res with
  | ok a L => exact fun F' r' H' v s p R d => hQ v H' F' r' a L rfl s p R d (Po.mono po s p)
  | ex c fs L => exact po
  | bad => exact po
theorem Po.ok {a : α} {v : β} (h : Po G rel F r (.ok a L) Q E) (R : Rel G F r H L) (d : rel F r a v) : Q v H := h F r H v (Same.refl _) (Pre.refl _) R d
end
abbrev rD (G : Gm) : Hp → Rho → D → V → Prop := fun F r => RD G F r
abbrev rB : Hp → Rho → Bool → Bool → Prop := fun _ _ a b => a = b
/-- two values and a result -/
def rO (G : Gm) (f : D → D → Hl → R D) : R2 := fun x y H Q => ∃ F r L a b E, Rel G F r H L ∧ RD G F r a x ∧ RD G F r b y ∧ Po G (rD G) F r (f a b L) Q E

section
variable {G : Gm} {F : Hp} {r : Rho} {H : Hp} {L : Hl} {Q : VK} {E : XK}
theorem Rel.at {n : Nat} {o : O} {a : Addr} (R : Rel G F r H L) (h : L[n]? = some o) (d : o ≠ .dead) (ha : r[n]? = some a) : ∃ h, H a = some h ∧ F a = none ∧ RO G F r o h := by
  obtain ⟨b, h', e1, e2, e3, e4⟩ := R.obj n o h d
  rw [ha] at e1; cases e1
  exact ⟨h', e2, e3, e4⟩
theorem SqT.sub {K : PySem.W.Frag} {a : Addr} {xs : List V} (s : Same F H) (h : SqT K F a xs) : SqT K H a xs := SqT.same s h
/-- a list that is read -/
theorem rdL_ok {x : D} {v : V} {xs : List P} (R : Rel G F r H L) (h : RD G F r x v) (e : rdL L x = some xs) : ∃ a vs, v = .ref a ∧ H a = some (.lst vs) ∧ RPs G F xs vs := by
  cases h with
  | p h =>
    cases h with
    | lst q t =>
      simp only [rdL, Option.some.injEq] at e
      subst e
      exact ⟨_, _, rfl, R.sub _ _ q, t⟩
    | _ => simp [rdL] at e
  | ref h =>
    rename_i n a
    simp only [rdL] at e
    split at e
    · rename_i ys hy
      cases e
      obtain ⟨u, e2, _, e4⟩ := R.at hy (by intro z; cases z) h
      cases e4 with
      | lst t => exact ⟨_, _, rfl, e2, t⟩
    · cases e
theorem rdQ_ok {x : D} {v : V} {xs : List P} (R : Rel G F r H L) (h : RD G F r x v) (e : rdQ L x = some xs) : ∃ a vs, v = .ref a ∧ (SqL G.K H a vs ∨ SqT G.K H a vs) ∧ RPs G F xs vs := by
  cases h with
  | p h =>
    cases h with
    | lst q t =>
      simp only [rdQ, Option.some.injEq] at e
      subst e
      exact ⟨_, _, rfl, .inl (.inl (.inl (R.sub _ _ q))), t⟩
    | rol q t =>
      simp only [rdQ, Option.some.injEq] at e
      subst e
      exact ⟨_, _, rfl, .inl (R.sub.seq q), t⟩
    | tup q t =>
      simp only [rdQ, Option.some.injEq] at e
      subst e
      exact ⟨_, _, rfl, .inr (SqT.same R.sub q), t⟩
    | _ => simp [rdQ] at e
  | ref h =>
    simp only [rdQ] at e
    split at e
    · rename_i ys hy
      cases e
      obtain ⟨u, e2, _, e4⟩ := R.at hy (by intro z; cases z) h
      cases e4 with
      | lst t => exact ⟨_, _, rfl, .inl (.inl (.inl e2)), t⟩
    · cases e
theorem rdS_ok {x : D} {v : V} {xs : List P} (R : Rel G F r H L) (h : RD G F r x v) (e : rdS L x = some xs) : ∃ a vs, v = .ref a ∧ SqL G.K H a vs ∧ RPs G F xs vs := by
  cases h with
  | p h =>
    cases h with
    | lst q t =>
      simp only [rdS, Option.some.injEq] at e
      subst e
      exact ⟨_, _, rfl, .inl (.inl (R.sub _ _ q)), t⟩
    | rol q t =>
      simp only [rdS, Option.some.injEq] at e
      subst e
      exact ⟨_, _, rfl, R.sub.seq q, t⟩
    | _ => simp [rdS] at e
  | ref h =>
    simp only [rdS] at e
    split at e
    · rename_i ys hy
      cases e
      obtain ⟨u, e2, _, e4⟩ := R.at hy (by intro z; cases z) h
      cases e4 with
      | lst t => exact ⟨_, _, rfl, .inl (.inl e2), t⟩
    · cases e
theorem strsP_ok : ∀ {xs : List P} {vs : List V} {ys : List Str}, RPs G F xs vs → strsP xs = some ys → vs = ys.map V.str
  | [], _, _, .nil, e => by cases e; rfl
  | x :: xs, _, ys, .cons h t, e => by
    cases x <;> simp only [strsP, reduceCtorEq] at e
    obtain ⟨zs, e1, e2⟩ := Option.map_eq_some_iff.mp e
    subst e2
    rw [strsP_ok t e1]
    cases h; rfl
theorem intsP_ok : ∀ {xs : List P} {vs : List V} {ys : List Int}, RPs G F xs vs → intsP xs = some ys → vs = ys.map V.int
  | [], _, _, .nil, e => by cases e; rfl
  | x :: xs, _, ys, .cons h t, e => by
    cases x <;> simp only [intsP, reduceCtorEq] at e
    obtain ⟨zs, e1, e2⟩ := Option.map_eq_some_iff.mp e
    subst e2
    rw [intsP_ok t e1]
    cases h; rfl
theorem rdK_ok {x : D} {v : V} {xs : List (P × P)} (R : Rel G F r H L) (h : RD G F r x v) (e : rdK L x = some xs) : ∃ a kv, v = .ref a ∧ H a = some (.dK kv) ∧ RPk G F xs kv := by
  cases h with
  | p h =>
    cases h with
    | dct q t =>
      simp only [rdK, Option.some.injEq] at e
      subst e
      exact ⟨_, _, rfl, R.sub _ _ q, t⟩
    | _ => simp [rdK] at e
  | ref h =>
    simp only [rdK] at e
    split at e
    · rename_i ys hy
      cases e
      obtain ⟨u, e2, _, e4⟩ := R.at hy (by intro z; cases z) h
      cases e4 with
      | dct t => exact ⟨_, _, rfl, e2, t⟩
    · cases e
/-- a new list is handed out -/
theorem newL_ok {m : Bool} {xs : List P} {vs : List V} (R : Rel G F r H L) (t : RPs G F xs vs) (h : Po G (rD G) F r (newL m xs L) Q E) : ∀ p, H p = none → Q (.ref p) (upd H p (.lst vs)) := fun p hp => by
  unfold newL at h
  cases m with
  | true =>
    rw [if_pos rfl] at h
    refine h F (r ++ [p]) _ _ (Same.refl _) (Pre.app r p) (R.allocM hp (.lst t)) (.ref ?_)
    rw [← R.len]; simp
  | false =>
    rw [if_neg (by decide)] at h
    have s := same_upd (o := .lst vs) (R.nf hp)
    exact h _ r _ _ s (Pre.refl _) (R.allocF hp _) (.p (.lst upd_same (t.mono s)))
theorem newT_ok {xs : List P} {vs : List V} (R : Rel G F r H L) (t : RPs G F xs vs) (h : Po G (rD G) F r (.ok (.p (.tup xs)) L) Q E) : ∀ p, H p = none → Q (.ref p) (upd H p (.tup vs)) := fun p hp => by
  have s := same_upd (o := .tup vs) (R.nf hp)
  exact h _ r _ _ s (Pre.refl _) (R.allocF hp _) (.p (.tup (.inl (.inl upd_same)) (t.mono s)))
mutual
theorem toY_ok (R : Rel G F r H L) : ∀ {x : P} {v : V} {d : PyData}, RP G F x v → toY x = some d → Dp G.K H v d
  | _, _, _, .non, e => by simp only [toY, Option.some.injEq] at e; subst e; exact .non
  | _, _, _, .bl b, e => by simp only [toY, Option.some.injEq] at e; subst e; exact .bl b
  | _, _, _, .int i, e => by simp only [toY, Option.some.injEq] at e; subst e; exact .int i
  | _, _, _, .str s, e => by simp only [toY, Option.some.injEq] at e; subst e; exact .str s
  | .tup xs, _, _, .tup q t, e => by
    simp only [toY] at e
    obtain ⟨ds, e1, e2⟩ := Option.map_eq_some_iff.mp e
    subst e2
    exact .tup (SqT.same R.sub q) (toYs_ok R t e1)
  | .lst xs, _, _, .lst q t, e => by
    simp only [toY] at e
    obtain ⟨ds, e1, e2⟩ := Option.map_eq_some_iff.mp e
    subst e2
    exact .lst (.inl (.inl (R.sub _ _ q))) (toYs_ok R t e1)
  | _, _, _, .obj _ _, e => by simp [toY] at e
  | _, _, _, .dct _ _, e => by simp [toY] at e
  | _, _, _, .rol _ _, e => by simp [toY] at e
  | _, _, _, .cls _, e => by simp [toY] at e
  | _, _, _, .ty _, e => by simp [toY] at e
theorem toYs_ok (R : Rel G F r H L) : ∀ {xs : List P} {vs : List V} {ds : List PyData}, RPs G F xs vs → toYs xs = some ds → DpAll G.K H vs ds
  | _, _, _, .nil, e => by simp only [toYs, Option.some.injEq] at e; subst e; exact .nil
  | x :: xs, _, ds, .cons h t, e => by
    simp only [toYs] at e
    cases e1 : toY x with
    | none => rw [e1] at e; cases e
    | some d =>
      cases e2 : toYs xs with
      | none => rw [e1, e2] at e; cases e
      | some es =>
        rw [e1, e2] at e
        cases e
        exact .cons (toY_ok R h e1) (toYs_ok R t e2)
end
theorem look_Y (R : Rel G F r H L) {x : D} {v : V} {y : P} {d : PyData} (h : RD G F r x v) (e : look L x = some y) (ed : toY y = some d) : Dp G.K H v d := by
  cases h with
  | p h =>
    simp only [look, Option.some.injEq] at e
    subst e
    exact toY_ok R h ed
  | ref h =>
    simp only [look] at e
    split at e
    · rename_i ys hy
      cases e
      obtain ⟨u, e2, _, e4⟩ := R.at hy (by intro z; cases z) h
      cases e4 with
      | lst t =>
        simp only [toY] at ed
        obtain ⟨ds, e5, e6⟩ := Option.map_eq_some_iff.mp ed
        subst e6
        exact .lst (.inl (.inl e2)) (toYs_ok R t e5)
    · cases e
theorem look_p (R : Rel G F r H L) {x : D} {v : V} {y : P} (h : RD G F r x v) (e : look L x = some y) (hn : ∀ xs, y ≠ .lst xs) : RP G F y v := by
  cases h with
  | p h =>
    simp only [look, Option.some.injEq] at e
    subst e
    exact h
  | ref h =>
    simp only [look] at e
    split at e
    · cases e
      exact absurd rfl (hn _)
    · cases e
theorem flat_ok {x : P} {v : V} (h : RP G F x v) (e : flatP x = true) : flatV v = true := by
  cases h <;> first | rfl | (simp [flatP] at e)
theorem flats_ok : ∀ {xs : List P} {vs : List V}, RPs G F xs vs → xs.all flatP = true → vs.all flatV = true
  | _, _, .nil, _ => rfl
  | _, _, .cons h t, e => by
    rw [List.all_cons, Bool.and_eq_true] at e ⊢
    exact ⟨flat_ok h e.1, flats_ok t e.2⟩
theorem eqF_ok {x y : P} {v u : V} (h : RP G F x v) (h2 : RP G F y u) (e : flatP x = true) (e2 : flatP y = true) : eqV v u = eqF x y := by
  cases h <;> first | (simp [flatP] at e; done) | (cases h2 <;> first | rfl | (simp [flatP] at e2))
theorem inP_ok {x : P} {v : V} (h : RP G F x v) (e : flatP x = true) : ∀ {xs : List P} {vs : List V}, RPs G F xs vs → xs.all flatP = true → inV v vs = inP x xs
  | _, _, .nil, _ => rfl
  | _, _, .cons h1 t, e1 => by
    rw [List.all_cons, Bool.and_eq_true] at e1
    have := inP_ok h e t e1.2
    unfold inV inP at this ⊢
    rw [List.any_cons, List.any_cons, this, eqF_ok h1 h e1.1 e]
end
end Fk

set_option Elab.async false
set_option linter.all false
set_option autoImplicit false
set_option maxRecDepth 100000
set_option maxHeartbeats 2000000
/-! Fk 4: operators by values -/
namespace Fk
open PySem PySem.Spec PyProof.Rows L2
section
variable {X : Cx} {G : Gm} {F : Hp} {r : Rho} {H : Hp} {L : Hl} {Q : VK} {E : XK}
def ORel {α β : Type} (f : α → β → Prop) : Option α → Option β → Prop
  | some a, some b => f a b
  | none, none => True
  | _, _ => False
theorem ORel.isSome {α β : Type} {f : α → β → Prop} : ∀ {a : Option α} {b : Option β}, ORel f a b → a.isSome = b.isSome
  | some _, some _, _ => rfl
  | none, none, _ => rfl
  | some _, none, h => h.elim
  | none, some _, h => h.elim
theorem key_ok {x : P} {v : V} (h : RP G F x v) (e : keyP x = true) : ∃ k : Key, v = kV k ∧ ∀ (y : P) (k' : Key), RP G F y (kV k') → eqF y x = decide (k' = k) := by
  cases h with
  | int i =>
    refine ⟨.inl i, rfl, fun y k' h => ?_⟩
    cases k' with
    | inl j => cases h; rw [key_ll]; rfl
    | inr j => cases h; rw [key_rl]; rfl
  | str s =>
    refine ⟨.inr s, rfl, fun y k' h => ?_⟩
    cases k' with
    | inl j => cases h; rw [key_lr]; rfl
    | inr j => cases h; rw [key_rr]; show (j == s) = _; by_cases e : j = s <;> simp [e]
  | _ => simp [keyP] at e
theorem getK_ok {x : P} {k : Key} (hk : ∀ (y : P) (k' : Key), RP G F y (kV k') → eqF y x = decide (k' = k)) : ∀ {kvs : List (P × P)} {kv : List (Key × V)}, RPk G F kvs kv → ORel (RP G F) (getK x kvs) (valV kv k)
  | _, _, .nil => trivial
  | _, _, .cons (k := q) (y := k') h1 h2 t => by
    unfold getK valV
    rw [List.find?_cons, hk _ _ h1]
    cases e : decide (k' = k) with
    | true => simp [e]; exact h2
    | false => simp [e]; exact getK_ok hk t
theorem hu1 (hu : X.A.units + 64 < cLine) : X.A.units + 1 < cLine := by omega
/-- the operator of the text -/
def binOk : Op → Operator → Bool
  | .add _, .Add => true
  | .sub, .Sub => true
  | .mul _, .Mult => true
  | .fdiv, .FloorDiv => true
  | .mod, .Mod => true
  | .pow, .Pow => true
  | .shl, .LShift => true
  | .shr, .RShift => true
  | .band, .BitAnd => true
  | .bxor, .BitXor => true
  | _, _ => false
theorem pI {a : D} {i : Int} {v : V} (h : RD G F r a v) (e : a = .p (.int i)) : v = .int i := by
  subst e; cases h with | p h => cases h; rfl
theorem pS {a : D} {i : Str} {v : V} (h : RD G F r a v) (e : a = .p (.str i)) : v = .str i := by
  subst e; cases h with | p h => cases h; rfl
theorem pT {a : D} {i : List P} {v : V} (h : RD G F r a v) (e : a = .p (.tup i)) : ∃ b vs, v = .ref b ∧ SqT G.K F b vs ∧ RPs G F i vs := by
  subst e; cases h with | p h => cases h with | tup q t => exact ⟨_, _, rfl, q, t⟩
theorem binR {o : Op} {op : Operator} (hK : X.K = G.K) (h : binOk o op = true) : OpR X (binaryOp op) (rO G (opD o)) := by
  intro pins s σ H x y v u Q I rx ry hh
  obtain ⟨F, r, L, a, b, E, R, ha, hb, po⟩ := hh
  have int1 : ∀ {z : Int}, Po G (rD G) F r (.ok (.p (.int z)) L) Q E → Q (.int z) H := fun q => Po.ok q R (.p (.int _))
  cases o <;> cases op <;> first | (simp [binOk] at h; done) | skip
  · -- add
    rename_i m
    unfold opD at po
    dsimp only at po
    split at po
    · exact op_add pins s σ H x y v u Q I rx ry ⟨_, _, pI ha rfl, pI hb rfl, int1 po⟩
    · split at po
      · rename_i i j hz
        exact op_add_str pins s σ H x y v u Q I rx ry ⟨_, _, pS ha rfl, pS hb rfl, hz, Po.ok po R (.p (.str _))⟩
      · exact po.elim
    · split at po
      · rename_i i j hz
        obtain ⟨p, vs, rfl, q1, t1⟩ := pT ha rfl
        obtain ⟨p2, vs2, rfl, q2, t2⟩ := pT hb rfl
        refine op_catA pins s σ H _ _ v u Q I rx ry ⟨p, p2, vs, vs2, rfl, rfl, by rw [hK]; exact SqT.same R.sub q1, by rw [hK]; exact SqT.same R.sub q2, by rw [← t1.len, ← t2.len]; exact hz, fun e => ?_, fun e1 e2 => ?_, fun e1 e2 => newT_ok R (t1.app t2) po⟩
        · subst e
          have : i = [] := by cases t1; rfl
          subst this
          exact Po.ok po R hb
        · subst e2
          have : j = [] := by cases t2; rfl
          subst this
          rw [List.append_nil] at po
          exact Po.ok po R ha
      · exact po.elim
    · split at po
      · rename_i i j e1 e2
        split at po
        · rename_i hz
          obtain ⟨p, vs, rfl, q1, t1⟩ := rdL_ok R ha e1
          obtain ⟨p2, vs2, rfl, q2, t2⟩ := rdL_ok R hb e2
          exact op_cat pins s σ H _ _ v u Q I rx ry ⟨p, p2, vs, vs2, rfl, rfl, q1, q2, by rw [← t1.len, ← t2.len]; exact hz, newL_ok R (t1.app t2) po⟩
        · exact po.elim
      · exact po.elim
  · unfold opD at po
    dsimp only at po
    split at po
    · exact op_sub pins s σ H x y v u Q I rx ry ⟨_, _, pI ha rfl, pI hb rfl, int1 po⟩
    · exact po.elim
  · unfold opD at po
    dsimp only at po
    split at po
    · split at po
      · rename_i hz
        exact op_mulW pins s σ H x y v u Q I rx ry ⟨_, _, pI ha rfl, pI hb rfl, hz, int1 po⟩
      · exact po.elim
    · exact po.elim
  · unfold opD at po
    dsimp only at po
    split at po
    · split at po
      · rename_i hz
        exact op_fdivW pins s σ H x y v u Q I rx ry ⟨_, _, pI ha rfl, pI hb rfl, hz, int1 po⟩
      · exact po.elim
    · exact po.elim
  · unfold opD at po
    dsimp only at po
    split at po
    · split at po
      · rename_i hz
        exact op_mod pins s σ H x y v u Q I rx ry ⟨_, _, pI ha rfl, pI hb rfl, hz, int1 po⟩
      · exact po.elim
    · exact po.elim
  · unfold opD at po
    dsimp only at po
    split at po
    · split at po
      · rename_i hz
        exact op_pow pins s σ H x y v u Q I rx ry ⟨_, _, pI ha rfl, pI hb rfl, hz, int1 po⟩
      · exact po.elim
    · exact po.elim
  · unfold opD at po
    dsimp only at po
    split at po
    · split at po
      · rename_i hz
        exact op_shl pins s σ H x y v u Q I rx ry ⟨_, _, pI ha rfl, pI hb rfl, hz, int1 po⟩
      · exact po.elim
    · exact po.elim
  · unfold opD at po
    dsimp only at po
    split at po
    · split at po
      · rename_i hz
        exact op_shr pins s σ H x y v u Q I rx ry ⟨_, _, pI ha rfl, pI hb rfl, hz, int1 po⟩
      · exact po.elim
    · exact po.elim
  · unfold opD at po
    dsimp only at po
    split at po
    · exact op_and pins s σ H x y v u Q I rx ry ⟨_, _, pI ha rfl, pI hb rfl, int1 po⟩
    · exact po.elim
  · unfold opD at po
    dsimp only at po
    split at po
    · exact op_xor pins s σ H x y v u Q I rx ry ⟨_, _, pI ha rfl, pI hb rfl, int1 po⟩
    · exact po.elim
/-- comparisons -/
def cmpOk : Op → CmpOp → Bool
  | .eq, .Eq => true
  | .ne, .NotEq => true
  | .lt, .Lt => true
  | .le, .LtE => true
  | .gt, .Gt => true
  | .ge, .GtE => true
  | .isin, .In => true
  | .notin, .NotIn => true
  | .isN, .Is => true
  | .notN, .IsNot => true
  | _, _ => false
theorem blR_ok {b : Option Bool} {P : Bool → Prop} (R : Rel G F r H L) (h : Po G (rD G) F r (blR b L) Q E) : ∃ c, b = some c ∧ Q (.bl c) H := by
  cases b with
  | none => exact h.elim
  | some c => exact ⟨c, rfl, Po.ok h R (.p (.bl _))⟩
/-- two plain values, compared -/
theorem eqP_ok {x y : P} {c : Bool} (h : eqP x y = some c) : (∃ i j, x = .int i ∧ y = .int j ∧ c = decide (i = j)) ∨ (∃ i j, x = .str i ∧ y = .str j ∧ c = decide (i = j)) ∨
    (∃ i j, x = .bl i ∧ y = .bl j ∧ c = decide (i = j)) ∨ (x = .non ∧ y = .non ∧ c = true) ∨ ∃ d e, toY x = some d ∧ toY y = some e ∧ SeqAt.shaped d = true ∧ SeqAt.shaped e = true ∧ c = PyData.eqv d e := by
  unfold eqP at h
  split at h
  · exact .inl ⟨_, _, rfl, rfl, (Option.some.inj h).symm⟩
  · exact .inr (.inl ⟨_, _, rfl, rfl, (Option.some.inj h).symm⟩)
  · exact .inr (.inr (.inl ⟨_, _, rfl, rfl, (Option.some.inj h).symm⟩))
  · exact .inr (.inr (.inr (.inl ⟨rfl, rfl, (Option.some.inj h).symm⟩)))
  · split at h
    · split at h
      · rename_i hs
        rw [Bool.and_eq_true] at hs
        exact .inr (.inr (.inr (.inr ⟨_, _, ‹_›, ‹_›, hs.1, hs.2, (Option.some.inj h).symm⟩)))
      · cases h
    · cases h
theorem isIn_ok {pins : List (Addr × Obj)} {s : Shared} {σ : L2.St} {a b : D} {x y : V} {v u : Value} {c : Bool} {neg : Bool} (hK : X.K = G.K) (hu : X.A.units + 64 < cLine) (I : Inv X pins σ H s) (rx : RelV x v) (ry : RelV y u) (R : Rel G F r H L)
    (ha : RD G F r a x) (hb : RD G F r b y) (e : isInD a b L = some c) (q : Q (.bl (if neg then !c else c)) H) :
    wpAny (model X.prog X.w) X.A (compareOp (if neg then .NotIn else .In) v u) (EP X pins σ Q) X.xe s := by
  unfold isInD at e
  split at e
  · cases e
    cases neg with
    | false => exact op_in_str pins s σ H x y v u Q I rx ry ⟨_, _, pS ha rfl, pS hb rfl, q⟩
    | true => exact op_notIn_str pins s σ H x y v u Q I rx ry ⟨_, _, pS ha rfl, pS hb rfl, q⟩
  · rename_i x' y' hn
    split at e
    · rename_i xs hq
      split at e
      · rename_i hf
        rw [Bool.and_eq_true] at hf
        cases e
        obtain ⟨p, vs, rfl, q1, t⟩ := rdQ_ok R hb hq
        cases ha with
        | p ha =>
          have w := inP_ok ha hf.1 t hf.2
          have q1' : SqL X.K H p vs ∨ SqT X.K H p vs := by rw [hK]; exact q1
          cases neg with
          | false => exact op_in_seq pins s σ H _ _ v u Q I rx ry ⟨p, vs, rfl, q1', flat_ok ha hf.1, flats_ok t hf.2, by rw [w]; exact q⟩
          | true => exact op_notIn_seq pins s σ H _ _ v u Q I rx ry ⟨p, vs, rfl, q1', flat_ok ha hf.1, flats_ok t hf.2, by rw [w]; exact q⟩
      · cases e
    · split at e
      · rename_i kvs hq
        split at e
        · rename_i hk
          cases e
          obtain ⟨p, kv, rfl, q1, t⟩ := rdK_ok R hb hq
          cases ha with
          | p ha =>
            obtain ⟨k, rfl, hk2⟩ := key_ok ha hk
            have w := getK_ok hk2 t
            have w2 := ORel.isSome w
            obtain rfl : u = Value.ref p := ry
            rw [w2] at q
            cases neg with
            | false => exact d_in (hu1 hu) I (DGet.k q1) rx fun s3 I3 => ⟨.bl _, H, I3, rfl, q⟩
            | true => exact d_notIn (hu1 hu) I (DGet.k q1) rx fun s3 I3 => ⟨.bl _, H, I3, rfl, q⟩
        · cases e
      · cases e
  · cases e
theorem cmpR {o : Op} {op : CmpOp} (hK : X.K = G.K) (hu : X.A.units + 64 < cLine) (h : cmpOk o op = true) : OpR X (compareOp op) (rO G (opD o)) := by
  intro pins s σ H x y v u Q I rx ry hh
  obtain ⟨F, r, L, a, b, E, R, ha, hb, po⟩ := hh
  have bl1 : ∀ {z : Bool}, Po G (rD G) F r (.ok (.p (.bl z)) L) Q E → Q (.bl z) H := fun q => Po.ok q R (.p (.bl _))
  cases o <;> cases op <;> first | (simp [cmpOk] at h; done) | skip
  · -- eq
    unfold opD at po
    dsimp only at po
    split at po
    · rename_i a1 b1 h1 h2
      obtain ⟨c, e, q⟩ := blR_ok (P := fun _ => True) R po
      rcases eqP_ok e with ⟨i, j, e1, e2, e3⟩ | ⟨i, j, e1, e2, e3⟩ | ⟨i, j, e1, e2, e3⟩ | ⟨e1, e2, e3⟩ | ⟨d, f, e1, e2, e3, e4, e5⟩
      · have z1 := look_p R ha h1 (by rw [e1]; intro xs z; cases z)
        have z2 := look_p R hb h2 (by rw [e2]; intro xs z; cases z)
        subst e1 e2 e3; cases z1; cases z2
        refine op_eq pins s σ H _ _ v u Q I rx ry ⟨rfl, ?_⟩
        rw [show decide (V.int i = V.int j) = decide (i = j) by simp]; exact q
      · have z1 := look_p R ha h1 (by rw [e1]; intro xs z; cases z)
        have z2 := look_p R hb h2 (by rw [e2]; intro xs z; cases z)
        subst e1 e2 e3; cases z1; cases z2
        refine op_eq pins s σ H _ _ v u Q I rx ry ⟨rfl, ?_⟩
        rw [show decide (V.str i = V.str j) = decide (i = j) by simp]; exact q
      · have z1 := look_p R ha h1 (by rw [e1]; intro xs z; cases z)
        have z2 := look_p R hb h2 (by rw [e2]; intro xs z; cases z)
        subst e1 e2 e3; cases z1; cases z2
        refine op_eq pins s σ H _ _ v u Q I rx ry ⟨rfl, ?_⟩
        rw [show decide (V.bl i = V.bl j) = decide (i = j) by simp]; exact q
      · exact op_eqD hu pins s σ H x y v u Q I rx ry ⟨.none, .none, by rw [hK]; exact look_Y R ha h1 (by rw [e1]; rfl), by rw [hK]; exact look_Y R hb h2 (by rw [e2]; rfl), by decide, by decide, by rw [e3] at q; exact q⟩
      · exact op_eqD hu pins s σ H x y v u Q I rx ry ⟨d, f, by rw [hK]; exact look_Y R ha h1 e1, by rw [hK]; exact look_Y R hb h2 e2, e3, e4, by rw [e5] at q; exact q⟩
    · exact po.elim
  · unfold opD at po
    dsimp only at po
    split at po
    · rename_i a1 b1 h1 h2
      obtain ⟨c', e', q⟩ := blR_ok (P := fun _ => True) R po
      obtain ⟨c, e, ec⟩ := Option.map_eq_some_iff.mp e'
      subst ec
      rcases eqP_ok e with ⟨i, j, e1, e2, e3⟩ | ⟨i, j, e1, e2, e3⟩ | ⟨i, j, e1, e2, e3⟩ | ⟨e1, e2, e3⟩ | ⟨d, f, e1, e2, e3, e4, e5⟩
      · have z1 := look_p R ha h1 (by rw [e1]; intro xs z; cases z)
        have z2 := look_p R hb h2 (by rw [e2]; intro xs z; cases z)
        subst e1 e2 e3; cases z1; cases z2
        refine op_ne pins s σ H _ _ v u Q I rx ry ⟨rfl, ?_⟩
        rw [show decide (V.int i = V.int j) = decide (i = j) by simp]; exact q
      · have z1 := look_p R ha h1 (by rw [e1]; intro xs z; cases z)
        have z2 := look_p R hb h2 (by rw [e2]; intro xs z; cases z)
        subst e1 e2 e3; cases z1; cases z2
        refine op_ne pins s σ H _ _ v u Q I rx ry ⟨rfl, ?_⟩
        rw [show decide (V.str i = V.str j) = decide (i = j) by simp]; exact q
      · have z1 := look_p R ha h1 (by rw [e1]; intro xs z; cases z)
        have z2 := look_p R hb h2 (by rw [e2]; intro xs z; cases z)
        subst e1 e2 e3; cases z1; cases z2
        refine op_ne pins s σ H _ _ v u Q I rx ry ⟨rfl, ?_⟩
        rw [show decide (V.bl i = V.bl j) = decide (i = j) by simp]; exact q
      · exact op_neD hu pins s σ H x y v u Q I rx ry ⟨.none, .none, by rw [hK]; exact look_Y R ha h1 (by rw [e1]; rfl), by rw [hK]; exact look_Y R hb h2 (by rw [e2]; rfl), by decide, by decide, by rw [e3] at q; exact q⟩
      · exact op_neD hu pins s σ H x y v u Q I rx ry ⟨d, f, by rw [hK]; exact look_Y R ha h1 e1, by rw [hK]; exact look_Y R hb h2 e2, e3, e4, by rw [e5] at q; exact q⟩
    · exact po.elim
  · unfold opD at po
    dsimp only at po
    split at po
    · exact op_lt pins s σ H x y v u Q I rx ry ⟨_, _, pI ha rfl, pI hb rfl, bl1 po⟩
    · exact op_lt_str pins s σ H x y v u Q I rx ry ⟨_, _, pS ha rfl, pS hb rfl, bl1 po⟩
    · exact po.elim
  · unfold opD at po
    dsimp only at po
    split at po
    · exact op_le pins s σ H x y v u Q I rx ry ⟨_, _, pI ha rfl, pI hb rfl, bl1 po⟩
    · exact po.elim
  · unfold opD at po
    dsimp only at po
    split at po
    · exact op_gt pins s σ H x y v u Q I rx ry ⟨_, _, pI ha rfl, pI hb rfl, bl1 po⟩
    · exact po.elim
  · unfold opD at po
    dsimp only at po
    split at po
    · exact op_ge pins s σ H x y v u Q I rx ry ⟨_, _, pI ha rfl, pI hb rfl, bl1 po⟩
    · exact po.elim
  · obtain ⟨c, e, q⟩ := blR_ok (P := fun _ => True) R (show Po G (rD G) F r (blR (isInD a b L) L) Q E from po)
    exact isIn_ok (neg := false) hK hu I rx ry R ha hb e q
  · obtain ⟨c', e', q⟩ := blR_ok (P := fun _ => True) R (show Po G (rD G) F r (blR ((isInD a b L).map (!·)) L) Q E from po)
    obtain ⟨c, e, ec⟩ := Option.map_eq_some_iff.mp e'
    subst ec
    exact isIn_ok (neg := true) hK hu I rx ry R ha hb e q
  · unfold opD at po
    dsimp only at po
    split at po
    · refine op_isN pins s σ H x y v u Q I rx ry ⟨by cases hb with | p hb => cases hb; rfl, ?_⟩
      have : x = .non := by cases ha with | p ha => cases ha; rfl
      subst this
      exact bl1 po
    · rename_i hn
      refine op_isN pins s σ H x y v u Q I rx ry ⟨by cases hb with | p hb => cases hb; rfl, ?_⟩
      have : x ≠ .non := fun z => by
        subst z
        cases ha with | p ha => cases ha; exact hn rfl
      rw [decide_eq_false this]
      exact bl1 po
    · exact po.elim
  · unfold opD at po
    dsimp only at po
    split at po
    · refine op_notN pins s σ H x y v u Q I rx ry ⟨by cases hb with | p hb => cases hb; rfl, ?_⟩
      have : x = .non := by cases ha with | p ha => cases ha; rfl
      subst this
      exact bl1 po
    · rename_i hn
      refine op_notN pins s σ H x y v u Q I rx ry ⟨by cases hb with | p hb => cases hb; rfl, ?_⟩
      have : x ≠ .non := fun z => by
        subst z
        cases ha with | p ha => cases ha; exact hn rfl
      rw [decide_eq_false this]
      exact bl1 po
    · exact po.elim
end
end Fk

set_option Elab.async false
set_option linter.all false
set_option autoImplicit false
set_option maxRecDepth 100000
set_option maxHeartbeats 2000000
/-! Fk S1: an own exception's __init__ that begins by super().__init__(e) -/
namespace FkS
open PySem PySem.Spec PyProof.Rows PySem.Calls
open PySem.W (kxs_mw ksFn ksEnv ks_superIn kxs_getMethod kxs_ValueError kxs_callWith)
section
variable {prog : Program} {w : World} {A : Around} {E : Value → Shared → Prop} {hp : Heap} {gs : Array GenState} {dr : Drawn} {tk : Nat} {oss : OsState}
variable {nm qn : Str} {C NS : Addr} {bs bm : List Value} {hd : Bool} {sn : List Str} {sub : List Value} {ab : Bool} {col : Option Bool} {dd : Option Addr} {k0 k1 k2 k3 k5 : Option Value}
/-- ValueError's __init__, bound to e by super(), is called -/
theorem mw_call {u e t0 : Addr} {us : List Value} {Q : Value → Shared → Prop} (hC : hp.get? C = some (excClassObj nm qn C NS bs bm hd sn sub ab col dd k0 k1 k2 k3 k5 "ValueError.__new__"))
    (he : hp.get? e = some (HandSPX.excO C t0)) (hu : hp.get? u = some (kxs_mw "ValueError.__init__" e)) (hz : us.length ≤ sizeLine)
    (hq : ∀ (h2 : Heap) (t1 : Addr), (∀ b o, b ≠ e → hp.get? b = some o → h2.get? b = some o) → h2.get? e = some (HandSPX.excO C t1) → Q .none ⟨h2, gs, dr, tk, oss⟩) : wpAny (model prog w) A (call (.ref u) us) Q E ⟨hp, gs, dr, tk, oss⟩ := by
  have nb : (Value.type "method-wrapper" == Value.type "method" || Value.type "method-wrapper" == Value.type "builtin_function_or_method" || Value.type "method-wrapper" == Value.type "method-wrapper") = true := by decide
  refine wpAny_call (codeAny_of_tree ?_)
  show wpAny (model prog w) A.in1 (callAny (.ref u) ⟨us, []⟩) _ _ ⟨hp, gs, dr, tk, oss⟩
  simp only [callAny]
  refine wpAny_bind (wpAny_load hu ?_)
  simp only [kxs_mw, nb, if_true]
  refine PySem.W.KFB.if_so (by decide) ?_
  refine wpAny_bind (PySem.W.check_bound_init F.excBase_ValueError.toExcCallFacts hC he rfl ?_)
  refine wpAny_bind (wpAny_pure (wpAny_pure ?_))
  refine ⟨plainId_quiet F.excBase_ValueError.init.plain _, codeAny_builtin F.excBase_ValueError.initEntry ?_⟩
  exact PySem.W.exc_init_tree (cls := .ref C) (t0 := t0) (dv := none) (c2 := .none) (c3 := .none) (b4 := .bool false) he hz fun h2 a b c => hq h2 _ a b
end

open L2
structure ScS (N P : List Str) (sc : Scope) : Prop where
  kind : sc.kind = .function
  co : sc.isCoroutine = false
  gen : sc.isGenerator = false
  nd : N.Nodup
  pre : N.take P.length = P
  par : ∀ x ∈ P, sc.names.lookup x = some .local
  sup : sc.names.lookup ("super" : Str) = some .globalImplicit
  cls : sc.names.lookup ("__class__" : Str) = some .free
  nocell : ∀ y ∈ sc.names, y.2 ≠ .cell
  free : ∀ y ∈ sc.names, y.2 = .free → y.1 = "__class__"
theorem scS_ok {N P : List Str} {sc : Scope} (h : scS N P sc = true) : ScS N P sc := by
  unfold scS at h
  simp only [Bool.and_eq_true, Bool.not_eq_true', decide_eq_true_eq, List.all_eq_true, Bool.or_eq_true, decide_eq_false_iff_not] at h
  obtain ⟨⟨⟨⟨⟨⟨⟨⟨h1, h2⟩, h3⟩, h4⟩, h5⟩, h6⟩, h7⟩, h8⟩, h9⟩ := h
  exact ⟨h1, h2, h3, h4, h5, h6, h7, h8, fun y hy => (h9 y hy).1, fun y hy e => (h9 y hy).2.resolve_left fun z => z e⟩
/-- the running __init__ -/
def cxS (CX : CXT) (Pr : Program) (w : World) (K : PySem.W.Frag) (mg : Str → Option Value) (base : Heap) (N : List Str) (qual : Str) (sc : Scope) (f : Addr) (cd : Value) (cc : Addr) (A : Around) (outer : List Env) (s : Shared) (H : Hp) (E : XK) : Cx where
  prog := Pr
  w := w
  K := K
  mg := mg
  base := base
  A := A.deeper (ksEnv qual sc s.heap.objs.size f cd cc)
  N := N
  s_0 := s
  H_0 := H
  env := ksEnv qual sc s.heap.objs.size f cd cc
  outer := outer
  stack := ksEnv qual sc s.heap.objs.size f cd cc :: outer
  ex := []
  calm := true
  fn := fun x => x != ("__class__" : Str)
  pn := []
  xe := fun e s' => wpAny (model Pr w) (A.deeper (ksEnv qual sc s.heap.objs.size f cd cc)) (leaving (ksEnv qual sc s.heap.objs.size f cd cc) e) (fun _ s2 => CX outer H s E e s2) (fun e2 s2 => CX outer H s E e2 s2) s'
section
variable {CX : CXT} {Pr : Program} {w : World} {K : PySem.W.Frag} {mg : Str → Option Value} {base : Heap} {N ps : List Str} {qual : Str} {sc : Scope} {f cc C : Addr} {cd : Value} {A : Around} {outer : List Env} {s : Shared} {H : Hp} {E : XK} {us : List Value} {vs : List V}
theorem lk_cls {x : Str} {c : Addr} (h : List.lookup x [(("__class__" : Str), cc)] = some c) : x = "__class__" ∧ c = cc := by
  rw [List.lookup_cons] at h
  split at h
  · rename_i e
    exact ⟨by simpa using e, (Option.some.inj h).symm⟩
  · simp at h
theorem lk_rev {x : Str} {u : Value} : ∀ {xs : List Str} {vs : List Value} {i : Nat}, xs.Nodup → xs[i]? = some x → vs[i]? = some u → List.lookup x (xs.zip vs).reverse = some u := by
  intro xs vs i nd h1 h2
  have hm : (x, u) ∈ (xs.zip vs).reverse := by
    rw [List.mem_reverse]
    exact List.mem_of_getElem? (i := i) (List.getElem?_zip_eq_some.mpr ⟨h1, h2⟩)
  have key : ∀ l : List (Str × Value), (∀ v, (x, v) ∈ l → v = u) → (x, u) ∈ l → List.lookup x l = some u := by
    intro l
    induction l with
    | nil => intro _ h; cases h
    | cons y l ih =>
      intro hv hm
      rw [List.lookup_cons]
      split
      · rename_i e
        have e : x = y.1 := by simpa using e
        rw [hv y.2 (by rw [e]; exact List.mem_cons_self)]
      · rename_i e
        refine ih (fun v hv' => hv v (List.mem_cons_of_mem _ hv')) ?_
        rcases List.mem_cons.mp hm with rfl | hm
        · simp at e
        · exact hm
  refine key _ (fun v hv => ?_) hm
  rw [List.mem_reverse] at hv
  obtain ⟨j, hj⟩ := List.getElem?_of_mem hv
  obtain ⟨q1, q2⟩ := List.getElem?_zip_eq_some.mp hj
  have : i = j := (List.getElem?_inj (List.getElem?_eq_some_iff.mp h1).1 nd).mp (h1.trans q1.symm)
  subst this
  rw [h2] at q2; exact (Option.some.inj q2).symm
theorem inv_startS (S : ScS N ps sc) (hh : A.handled = none) (e0 : Env0 Pr w K mg base A outer s H) (hl : vs.length = ps.length) (r : Vals vs us) {oc : Value} {od : Option Addr} {osl : Array (Option Value)} {u : Option Value} (hcc : K.lookup cc = some ⟨oc, od, .cell u, osl⟩) {h₁ : Heap} {t : Nat}
    (hns : h₁.Ns s.heap.objs.size (fun x => (ps.zip us).reverse.lookup x)) (hk : ∀ b o, s.heap.get? b = some o → h₁.get? b = some o) :
    Inv (cxS CX Pr w K mg base N qual sc f cd cc A outer s H E) [] (L2.start N vs) H { s with heap := h₁, toks := t } := by
  have hpl : ps.length ≤ N.length := by have := congrArg List.length S.pre; rw [List.length_take] at this; omega
  have ndP : ps.Nodup := by rw [← S.pre]; exact S.nd.sublist (List.take_sublist _ _)
  have noA : ∀ b : Addr, b ∉ (cxS CX Pr w K mg base N qual sc f cd cc A outer s H E).ex := fun b z => by cases z
  have bcc := e0.mod.kin _ _ hcc
  obtain ⟨scc, ncc⟩ := e0.bs _ _ bcc
  refine ⟨⟨e0.mod, S.kind, rfl, rfl, Nat.le_refl _, fun y z c q1 q2 => ?_, fun y hy => ?_, fun y c hf h => ?_, fun _ => hh, Around.frames_deeper e0.frames, .inr ⟨rfl, rfl⟩, fun b z => absurd z (noA b), e0.bs, e0.bsz, fun b _ _ => noA b, fun b z => absurd z (noA b), e0.funs, e0.frf⟩,
    rfl, e0.bare, Un.kept hk, ⟨_, hns, fun i y v q1 q2 q3 => ?_⟩, fun y c h => ?_, e0.hok.fresh (Nat.le_refl _), fun y c h => ?_, fun p hp => absurd hp (by intro z; cases z), e0.hok.kept hk, ?_⟩
  · rw [(lk_cls q1).1, (lk_cls q2).1]
  · have hy : sc.names.lookup y = some .cell ∨ sc.names.lookup y = some .free := hy
    rcases hy with hy | hy
    · exact absurd rfl (S.nocell _ (PySem.mem_of_lookup hy))
    · have := S.free _ (PySem.mem_of_lookup hy) rfl
      dsimp only at this
      subst this
      exact ⟨cc, by show List.lookup (("__class__" : Str)) [(("__class__" : Str), cc)] = some cc; rw [List.lookup_cons]; simp⟩
  · have hf : (y != ("__class__" : Str)) = true := hf
    have := (lk_cls h).1
    subst this
    simp at hf
  · have hi : i < vs.length := by
      unfold L2.start at q2
      by_cases hi : i < vs.length
      · exact hi
      · rw [List.getElem?_append_right (by simpa using hi), List.getElem?_replicate] at q2
        split at q2 <;> cases q2
    have ha : vs[i]? = some v := by
      unfold L2.start at q2
      rw [List.getElem?_append_left (by simpa using hi), List.getElem?_map] at q2
      cases e : vs[i]? with
      | none => rw [e] at q2; cases q2
      | some a => rw [e] at q2; cases q2; rfl
    obtain ⟨u, hu, rv⟩ := r.get ha
    have hp : ps[i]? = some y := by
      rw [← S.pre, List.getElem?_take_of_lt (by omega)]; exact q1
    exact ⟨u, rv, .inl ⟨S.par y (List.mem_of_getElem? hp), lk_rev ndP hp hu⟩⟩
  · obtain ⟨_, rfl⟩ := lk_cls h
    exact ⟨u, _, hk _ _ scc, rfl⟩
  · obtain ⟨_, rfl⟩ := lk_cls h
    exact ncc
  · unfold L2.start
    show _ = N.length
    rw [List.length_append, List.length_map, List.length_replicate]
    omega
end
end FkS

set_option Elab.async false
set_option linter.all false
set_option autoImplicit false
set_option maxRecDepth 100000
set_option maxHeartbeats 2000000
/-! Fk S2: such an __init__ keeps its promise -/
namespace FkS
open PySem PySem.Spec PyProof.Rows PySem.Calls L2
open PySem.W (kxs_mw ksFn ksEnv ks_superIn kxs_getMethod kxs_ValueError kxs_callWith ks_superObj)
theorem sup_eval {o e : Expr} {m : Str} {pa pc : Pos} {env : Env} (hl : (pa.endLine == pc.line) = true) (hf : methodCallForm 1 (backTo pc (starEach [e] env)) (backToKw pc (keywordEach [] env)) = true) : eval (.Call (.Attribute o m pa) [e] [] pc) env = (do
    let ov ← attributeBase o m env (eval o env)
    standAt pa.atName
    let (f, first) ← holding [ov] (getMethod ov m (plainOf o env))
    callWith pc f first (backTo pc (starEach [e] env)) []) := by
  rw [arm_eval_Call]
  have q : (fun ov => methodCall o m pa pc env ov 1 (backTo pc (starEach [e] env)) (backToKw pc (keywordEach [] env))) = fun ov => (do
      let (f, first) ← holding [ov] (getMethod ov m (plainOf o env))
      callWith pc f first (backTo pc (starEach [e] env)) (backToKw pc (keywordEach [] env))) := funext fun ov => mcall_line hf hl
  show (do let ov ← attributeBase o m env (eval o env); standAt pa.atName; methodCall o m pa pc env ov 1 (backTo pc (starEach [e] env)) (backToKw pc (keywordEach [] env))) = _
  have q2 : ∀ ov, methodCall o m pa pc env ov 1 (backTo pc (starEach [e] env)) (backToKw pc (keywordEach [] env)) = (do
      let (f, first) ← holding [ov] (getMethod ov m (plainOf o env))
      callWith pc f first (backTo pc (starEach [e] env)) (backToKw pc (keywordEach [] env))) := fun ov => mcall_line hf hl
  simp only [q2]
  rfl
/-- the class and its __init__, as the written part has them -/
structure SupC (Pr : Program) (K : PySem.W.Frag) (C f : Addr) (qual : Str) (params : Arguments) (body : List Stmt) (sc : Scope) (dvs : List V) (fd : FuncData) : Prop where
  T : OexC K C
  sup : ks_superIn K C C "__init__" = some (some (.builtin "ValueError.__init__"))
  sB : PySem.W.subIn K (.ref C) (.type "ValueError") = some true
  any : PySem.W.nsIn K cStatics "thirdparty.any" = some none
  self : PySem.W.mroIn K C (.ref C) = some true
  top : (Pr.main.scope.names.lookup ("super" : Str)).isSome = false
  fn : ∃ (oc : Value) (od : Option Addr) (dV kV doc pm : Value) (an : Option Addr) (cda cc : Addr) (ct : Value) (osl : Array (Option Value)) (ocl : Value) (odd : Option Addr) (cls : Array (Option Value)) (vs : Array Value) (file : Str) (tf : Tok) (c1 : Value) (c2 : Option Addr) (c3 : Array (Option Value)),
    fd = ksFn "__init__" qual params body sc dV kV doc pm an (.ref cda) ct cc ∧ K.lookup f = some ⟨oc, od, .func fd, osl⟩ ∧ PySem.W.codeIn K (.ref cda) qual = true ∧ DflV K dV dvs ∧
    K.lookup cda = some ⟨ocl, odd, .fields vs, cls⟩ ∧ vs[2]? = some (.str file tf) ∧ ((Pr.main.file : Str) == file) = true ∧ K.lookup cc = some ⟨c1, c2, .cell (some (.ref C)), c3⟩
/-- what is read: the argument of super().__init__, then the rest -/
def tSup (C : Addr) (te : TE) (tr : TS) : TS := fun D σ H => ∃ a : Addr, σ[0]? = some (some (.ref a)) ∧ H a = some (exo a C none) ∧ te σ H fun _ H1 => H1 a = some (exo a C none) ∧ tr D σ H1
section
variable {CX : CXT} {Pr : Program} {w : World} {K : PySem.W.Frag} {mg : Str → Option Value} {base : Heap} {N ps : List Str} {qual : Str} {sc : Scope} {f C : Addr} {k : Nat} {params : Arguments} {sp : Sp} {dvs : List V} {fd : FuncData} {e : Expr} {rest : List Stmt} {p0 p1 pa pc pe : Pos}
theorem fn_init (T : SupC Pr K C f qual params (.Expr (.Call (.Attribute (.Call (.Name "super" p0) [] [] p1) "__init__" pa) [e] [] pc) pe :: rest) sc dvs fd) (gS : mg "super" = none) (S : ScS N ps sc) (hpar : ∃ ar, (params.posonlyargs ++ params.args).head? = some ar ∧ ps[0]? = some ar.arg)
    (hl : (pa.endLine == pc.line) = true) (hst : ∀ env : Env, starEach [e] env = (false, eval e env) :: starEach [] env) (hmf : ∀ env : Env, methodCallForm 1 (backTo pc (starEach [e] env)) (backToKw pc (keywordEach [] env)) = true)
    (hpl : ∀ env : Env, (backTo pc (starEach [e] env)).any (·.1) = false) (len : ∀ vs H Q E, sp vs H Q E → vs.length = ps.length)
    (hbody : ∀ (cdv : Value) (cc : Addr) (A : Around) (outer : List Env) (s : Shared) (H : Hp) (vs : List V) (Q : VK) (E : XK), Room k (A.deeper (ksEnv qual sc s.heap.objs.size f cdv cc)) → sp vs H Q E →
      ∃ te tr, (∀ σ H Q Q', (∀ v H, Q v H → Q' v H) → te σ H Q → te σ H Q') ∧ PE (cxS CX Pr w K mg base N qual sc f cdv cc A outer s H E) e te ∧ PSs (cxS CX Pr w K mg base N qual sc f cdv cc A outer s H E) rest tr ∧ tSup C te tr { nx := fun _ H' => Q .non H', rt := Q } (L2.start N vs) H) :
    FnOk Pr w K mg base CX (k + 1) f fd ps sp := by
  obtain ⟨oc, od, dV, kV, doc, pm, an, cda, cc, ct, osl, ocl, odd, csl, vsC, file, tf, c1, c2, c3, rfl, lk, hcd, hD, lC, hvs, hfile, lcc⟩ := T.fn
  obtain ⟨ar, har, hp0⟩ := hpar
  refine ⟨len, fun A outer s H args us vs Q E hr e0 hb r hsp => ?_⟩
  have hlen := len _ _ _ _ hsp
  have KX : K.In s.heap := e0.mod.kin.keeps fun b o e => (e0.bs b o e).1
  have lim : s.heap.NoLimit := e0.mod.nolimit.keeps fun b o e => (e0.bs b o e).1
  obtain ⟨te, tr, hmono, hE, hR, a, ha, hHa, hte⟩ := hbody (.ref cda) cc A outer s H vs Q E (hr.deeper _) hsp
  refine PySem.ks_codeAny_call_defAt (fd := ksFn "__init__" qual params _ sc dV kV doc pm an (.ref cda) ct cc) hr.depth (KX _ _ lk) rfl lim (PySem.W.codeRec_of KX hcd) rfl hb S.nocell (fun x hx => S.par _ (List.of_mem_zip hx).1) (fun h₁ hns hk => ?_) S.co S.gen S.kind
  have I : Inv (cxS CX Pr w K mg base N qual sc f (.ref cda) cc A outer s H E) [] (L2.start N vs) H { s with heap := h₁, toks := s.toks + (ps.zip us).length } := inv_startS S hr.hd e0 hlen r lcc hns hk
  obtain ⟨hp1, hp2⟩ : ∃ hp1, hp1 = h₁ ∧ True := ⟨_, rfl, trivial⟩
  obtain ⟨rfl, _⟩ := hp2
  obtain ⟨nmC, qC, NC, bsC, bmC, snC, subC, abC, colC, ddC, z0, z1, z2, z3, z5, hKC, hbm⟩ := T.T.cls
  have hclC : PySem.W.clsIn K C = some { name := nmC, bases := bsC, mro := .ref C :: bmC, ns := NC, qualname := qC, hasDict := true, slotNames := snC, subclasses := subC, abstract := abC, collection := colC, hasDel := false } := by unfold PySem.W.clsIn; rw [hKC] <;> rfl
  have XK : K.In hp1 := I.kIn
  obtain ⟨mL, hmL, hlook⟩ := I.loc
  have hself : mL ar.arg = some (.ref a) := by
    have pl : ps.length ≤ N.length := by have := congrArg List.length S.pre; rw [List.length_take] at this; omega
    have h0 : 0 < ps.length := (List.getElem?_eq_some_iff.mp hp0).1
    have hN0 : N[0]? = some ar.arg := by
      rw [← hp0, ← S.pre, List.getElem?_take_of_lt h0]
    obtain ⟨u, ru, lu⟩ := hlook 0 ar.arg (.ref a) hN0 ha (.inl (S.par _ (List.mem_of_getElem? hp0)))
    have ru : u = Value.ref a := ru
    subst ru
    rcases lu with ⟨_, lu⟩ | ⟨lu, _⟩
    · exact lu
    · have lu : sc.names.lookup ar.arg = some .cell ∨ sc.names.lookup ar.arg = some .free := lu
      rw [S.par _ (List.mem_of_getElem? hp0)] at lu
      rcases lu with z | z <;> cases z
  obtain ⟨t0, hexc⟩ := exo_at I.hok hHa
  have hexc : hp1.get? a = some (HandSPX.excO C t0) := hexc
  have tya : ∀ {M : Model} {h2 : Heap} {t : Addr}, h2.get? a = some (HandSPX.excO C t) → PySem.W.Looks M h2 (typeOf (.ref a)) (.ref C) := fun {M h2 t} z A Q E s k q => wpAny_typeOf_ref (k _ _ z) q
  let env : Env := ksEnv qual sc s.heap.objs.size f (.ref cda) cc
  show PySem.wpAt (model Pr w) (A.deeper env) (.func _ env) (execs (.Expr (.Call (.Attribute (.Call (.Name "super" p0) [] [] p1) "__init__" pa) [e] [] pc) pe :: rest) env) _ _ _
  refine PySem.ks_wpAt_execs_cons (PySem.ks_wpAt_Expr_any (PySem.ks_wpAt_MethodCall (pl := plainOf (.Call (.Name "super" p0) [] [] p1) env) ?_ (sup_eval hl (hmf _))) I.quiet rfl)
  refine PySem.ks_wpAt_super_base (f := f) (cc := cda) S.sup S.cls (by decide) rfl (XK _ _ lk) rfl har rfl (XK _ _ lC) rfl hvs hfile T.top ?_
  obtain ⟨mb, hb1, hb2⟩ := I.mod.blt
  refine PySem.W.ks_loadName_global S.kind S.sup (loadGlobal_builtin (env := env) (I.mod.glob.keeps I.bk) gS (hb1.keeps I.bk) ((hb2 "super" (by decide)).trans (by decide)) ⟨rfl, ?_⟩)
  refine wpAny_loadName_free S.kind S.cls (by show List.lookup (("__class__" : Str)) [(("__class__" : Str), cc)] = some cc; rw [List.lookup_cons]; simp) ⟨_, XK _ _ lcc, rfl⟩ ?_
  refine wpAny_loadName_local S.kind (S.par _ (List.mem_of_getElem? hp0)) hmL hself ?_
  refine PySem.ks_wpAny_isType_cls (XK _ _ hKC) rfl ⟨rfl, ?_⟩
  refine PySem.ks_wpAny_call_super (XK _ _ hKC) rfl hexc rfl (fun c z => by cases z) (PySem.W.looks_mroIn XK T.self) (fun h2 eso k2 => ?_)
  have I2 : Inv (cxS CX Pr w K mg base N qual sc f (.ref cda) cc A outer s H E) [] (L2.start N vs) H { s with heap := h2, toks := s.toks + (ps.zip us).length } := I.kept (t' := s.toks + (ps.zip us).length) k2
  have XK2 : K.In h2 := I2.kIn
  have hexc2 := k2 _ _ hexc
  have hI2 : PySem.W.Looks (model Pr w) h2 (isInstance (.ref a) (.type "ValueError")) true := (tya hexc2).andThen (PySem.W.looks_subIn XK2 T.sB)
  have hsup := T.sup
  unfold ks_superIn at hsup
  rw [hclC] at hsup
  have nac : a ≠ C := fun z => by
    rw [z] at hexc
    have z2 := (XK _ _ hKC).symm.trans hexc
    cases z2
  let u : Addr := h2.objs.size
  have hnu : H u = none := I2.hok.fresh (Nat.le_refl _)
  have fpu := I2.fpOk (b := u) (H' := H) (Nat.le_refl _) hnu
  refine kxs_getMethod kxs_ValueError eso (PySem.W.looks_opaque XK2 T.any) (l₀ := .ref C :: bmC) (fun A Q E s k q => wpAny_bind ((PySem.W.looks_clsIn XK2 hclC) A _ E s k (wpAny_pure q))) rfl XK2 hsup hI2 nac (by decide) ?_
  have I3 : Inv (cxS CX Pr w K mg base N qual sc f (.ref cda) cc A outer s H E) [] (L2.start N vs) H { s with heap := h2.push (kxs_mw "ValueError.__init__" a), toks := s.toks + (ps.zip us).length + 1 } := I2.kept (t' := s.toks + (ps.zip us).length + 1) fun b o z => Heap.get?_push_of_some _ z
  have I4 : Inv (cxS CX Pr w K mg base N qual sc f (.ref cda) cc A outer s H E) [(u, kxs_mw "ValueError.__init__" a)] (L2.start N vs) H { s with heap := h2.push (kxs_mw "ValueError.__init__" a), toks := s.toks + (ps.zip us).length + 1 } := I3.pins_of fun p hp => by
    have hp : p = (u, kxs_mw "ValueError.__init__" a) := by simpa using hp
    subst hp
    exact ⟨Heap.get?_push_size _ rfl, hnu, fpu.2.1, fpu.2.2.1, fun v z => by cases z⟩
  have pa_e : PA (cxS CX Pr w K mg base N qual sc f (.ref cda) cc A outer s H E) [e] (tCons te tNil) := pa_cons hE pa_nil (hst _)
  refine kxs_callWith (i := "ValueError.__init__") (x := a) (hpl _) ?_
  have goArgs := pa_e.run pc [(u, kxs_mw "ValueError.__init__" a)] _ _ H (fun xs H1 => H1 a = some (exo a C none) ∧ tr { nx := fun _ H' => Q .non H', rt := Q } (L2.start N vs) H1 ∧ xs.length = 1) I4 (hmono _ _ _ _ (fun v H2 q => ⟨q.1, q.2, rfl⟩) hte)
  have go2 : wpAny (model Pr w) (A.deeper env) (spliced (backTo pc (starEach [e] env))) _ _ _ := goArgs
  rw [hst] at go2 ⊢
  refine evalArgs_plain (wpAny_mono go2 (fun us2 s3 hh => ?_) fun _ _ z => z)
  obtain ⟨xs, H1, I5, rv, hH1, htr, hx1⟩ := hh
  have hpin := (I5.pin (u, kxs_mw "ValueError.__init__" a) (List.mem_append.mpr (.inr (by simp)))).1
  refine ⟨hpin, ?_⟩
  obtain ⟨t2, hexc3⟩ := exo_at I5.hok hH1
  have J0 : Inv (cxS CX Pr w K mg base N qual sc f (.ref cda) cc A outer s H E) [] (L2.start N vs) H1 s3 := I5.pins_of fun p hp => by cases hp
  obtain ⟨h3, g3, d3, t3, os3⟩ := s3
  refine mw_call (I5.kIn _ _ hKC) hexc3 hpin ?_ fun h4 t4 k4 e4 => ?_
  · have := rv.length
    rw [hx1] at this
    show us2.length ≤ sizeLine
    rw [← this, sizeLine_eq]; omega
  have J := J0.write (t' := t3) (x := a) (e := a) (o := exo a C none) (by rw [hH1]; exact True.intro) (.inl rfl) k4 ⟨_, e4⟩ (exo_ok e4)
  have eu : upd H1 a (exo a C none) = H1 := funext fun b => by
    by_cases hb : b = a
    · rw [hb, upd_same, hH1]
    · rw [upd_ne hb]
  rw [eu] at J
  refine PySem.wpAt_of_wpAny ?_
  have fin : ∀ {σ' : L2.St} {H' : Hp} {v : V} {u : Value} {s5 : Shared}, Inv (cxS CX Pr w K mg base N qual sc f (.ref cda) cc A outer s H E) [] σ' H' s5 → RelV v u → Q v H' → CE outer Pr w H s Q u s5 :=
    fun {σ' H' v u s5} J rv q => ⟨v, H', J.os, J.bare, J.base, J.hok, rv, q⟩
  refine wpAny_mono (hR.run [] _ (L2.start N vs) H1 _ J htr) (fun fl s5 hs => ?_) fun er s5 hs => hs
  cases fl with
  | ret u =>
    obtain ⟨v, σ', H', J, rv, q⟩ := hs
    exact fin J rv q
  | next =>
    obtain ⟨σ', H', J, q⟩ := hs
    exact fin (v := V.non) (u := Value.none) J rfl q
  | brk =>
    obtain ⟨_, _, _, q⟩ := hs
    exact False.elim q
  | cont =>
    obtain ⟨_, _, _, q⟩ := hs
    exact False.elim q
end
end FkS

set_option Elab.async false
set_option linter.all false
set_option autoImplicit false
set_option maxRecDepth 100000
set_option maxHeartbeats 2000000
/-! Fk S3: C(..), C an own exception class with such an __init__; with or without attributes -/
namespace FkS
open PySem PySem.Spec PyProof.Rows PySem.Calls L2
/-- C(..): the instance is laid, its __init__ keeps sp, then it is let go -/
def tMkG (C : Addr) (sp : Sp) (dvs : List V) (ta : TA) : L2.St → Hp → XK → Prop := fun σ H Q => ta σ H fun vs H1 => vs.length ≤ 1000 ∧ ∀ a, H1 a = none → sp (.ref a :: (vs ++ dvs)) (upd H1 a (exo a C none))
  (fun v H2 => v = .non ∧ ((H2 a = some (exo a C none) ∧ Q (.ref C) none (del H2 a)) ∨ ∃ (d : Addr) (fs : List (Str × V)), H2 a = some (exo a C (some d)) ∧ H2 d = some (exd d fs) ∧ H1 d = none ∧ Q (.ref C) (some d) (upd (del H2 a) d (.xd fs)))) (fun _ _ _ => False)
section
variable {X : Cx}
theorem mk_endN {pins : List (Addr × Obj)} {σ : L2.St} {H1 H2 : Hp} {Q : XK} {hp hp2 h2 : Heap} {g1 g2 : Array GenState} {d1 d2 : Drawn} {t1 t2 : Nat} {os1 os2 : OsState} {a C : Addr} (T : Raises X (.ref C)) (I1 : Inv X pins σ H1 ⟨hp, g1, d1, t1, os1⟩)
    (ha : hp.objs.size ≤ a) (k : ∀ b o, hp.get? b = some o → hp2.get? b = some o) (un : Un (frs X.stack) [] (upd H1 a (exo a C none)) H2 hp2 h2) (hok : HOk X.prog X.w H2 h2) (ho : os2 = os1) (hb : AllBare g2)
    (ea : H2 a = some (exo a C none)) (q : Q (.ref C) none (del H2 a)) : L2N.MkP X pins σ Q (.ref a) ⟨h2, g2, d2, t2, os2⟩ := by
  obtain ⟨t0, hoe⟩ := exo_at hok ea
  have hn : H1 a = none := I1.hok.fresh ha
  obtain ⟨Gr, gA, gB⟩ := restrict h2 fun b => decide (b ≠ a)
  have gk : ∀ b, b ≠ a → Gr.get? b = h2.get? b := fun b hb => gA b (decide_eq_true hb)
  have ge : Gr.get? a = none := gB a (by simp)
  have nha : ∀ {b : Addr} {o : Obj}, hp.get? b = some o → b ≠ a := fun {b o} z => Nat.ne_of_lt (Nat.lt_of_lt_of_le (Heap.lt_size z) ha)
  have up : ∀ {b : Addr}, b ≠ a → H1 b = none → upd H1 a (exo a C none) b = none := fun {b} hb n => (upd_ne hb).trans n
  have U : Un (frs X.stack) [] H1 (del H2 a) hp Gr := {
    keep := fun b o z n hf hx => (gk b (nha z)).trans (un.keep b o (k b o z) (up (nha z) n) hf hx)
    slot := fun b o z n hf hx => by
      have y := un.slot b o (k b o z) (up (nha z) n) hf hx
      rw [← gk b (nha z)] at y; exact y
    free := fun b o z n hx => (del_ne (nha z)).trans (un.free b o (k b o z) (up (nha z) n) hx)
    there := fun b o z hx => by
      have y := un.there b o (k b o z) hx
      rw [← gk b (nha z)] at y; exact y
    tups := fun b xs z => (del_ne (ne_of_none z hn)).trans (un.tups b xs ((upd_ne (ne_of_none z hn)).trans z))
    frzs := fun b o v z => (del_ne (ne_of_none z hn)).trans (un.frzs b o v ((upd_ne (ne_of_none z hn)).trans z))
    tbls := fun b ps z => by
      have y := un.tbls b ps ((upd_ne (ne_of_none z hn)).trans z)
      rw [← del_ne (H := H2) (ne_of_none z hn)] at y; exact y }
  have hok3 : HOk X.prog X.w (del H2 a) Gr := fun b o z => by
    have hba : b ≠ a := fun e => by rw [e, del_same] at z; cases z
    rw [del_ne hba] at z
    have noa : ∀ {c : Addr}, H2 c = some (.own b) → c ≠ a := fun {c} hc => at_ne ea hc exo_own
    refine (hok b o z).stay (fun c v hc y => ?_) (fun c hc => (del_ne (noa hc)).trans hc) fun c xs hc => (del_ne (at_ne ea hc exo_tup)).trans hc
    have hca : c ≠ a := hc.elim (fun hc => by rw [hc]; exact hba) noa
    exact (gk c hca).trans y
  have J : Inv X pins σ (del H2 a) ⟨Gr, g2, d2, t2, os2⟩ := I1.call' (ch := []) ho U hok3 hb (fun b z => absurd z (by simp))
  refine ⟨a, _, _, ⟨Gr, g2, d2, t2, os2⟩, _, .ref C, none, rfl, J, fun b o z => ?_, ge, hoe, ⟨rfl, rfl, fun vs e => by cases e; rfl⟩, rfl, rfl, del_same, rfl, hb, T, q⟩
  by_cases hba : b = a
  · rw [hba, ge] at z; cases z
  · exact (gk b hba).symm.trans z
variable {x : Str} {C fI : Addr} {k : Nat} {fd : FuncData} {ps : List Str} {sp : Sp} {ds : List Value} {dvs : List V} {ta : TA} {CX : CXT} {p pos : Pos}
theorem mk_core (T : OexC X.K C) (iC : PySem.W.findIn X.K (.ref C) "__init__" = some (some (.ref fI))) (tI : PySem.W.typeIn X.K (.ref fI) = some (.type "function")) (F1 : FnOk X.prog X.w X.K X.mg X.base CX k fI fd ps sp) (hr : Room (k + 1) X.A) (hb : Binds X.K fd ps ds) (hd : Vals dvs ds)
    (hx : Passes CX X (fun _ _ _ => False)) {pins : List (Addr × Obj)} {σ : L2.St} {H1 : Hp} {s1 : Shared} {vs : List V} {us : List Value} {Q : XK} (I1 : Inv X pins σ H1 s1) (r1 : Vals vs us) (hz : vs.length ≤ 1000)
    (q1 : ∀ a, H1 a = none → sp (.ref a :: (vs ++ dvs)) (upd H1 a (exo a C none)) (fun v H2 => v = .non ∧ ((H2 a = some (exo a C none) ∧ Q (.ref C) none (del H2 a)) ∨ ∃ (d : Addr) (fs : List (Str × V)), H2 a = some (exo a C (some d)) ∧ H2 d = some (exd d fs) ∧ H1 d = none ∧ Q (.ref C) (some d) (upd (del H2 a) d (.xd fs)))) (fun _ _ _ => False)) :
    wpAny (model X.prog X.w) X.A (call (.ref C) us) (L2N.MkP X pins σ Q) X.xe s1 := by
  obtain ⟨nm, q, NS, bs, bm, sn, sub, ab, col, dd, k0, k1, k2, k3, k5, hC, hbm⟩ := T.cls
  obtain ⟨hp, gs, dr, tk, oss⟩ := s1
  let a := hp.objs.size + 1
  have hsz : hp.objs.size ≤ a := Nat.le_succ _
  have hn : H1 a = none := I1.hok.fresh hsz
  have hq := q1 a hn
  have kk : ∀ b o, hp.get? b = some o → ((hp.push (PySem.W.kdv_tup us)).push (PySem.HandSPX.excO C hp.objs.size)).get? b = some o := fun b o z => Heap.get?_push_of_some _ (Heap.get?_push_of_some _ z)
  have hget : ((hp.push (PySem.W.kdv_tup us)).push (PySem.HandSPX.excO C hp.objs.size)).get? (hp.objs.size + 1) = some (PySem.HandSPX.excO C hp.objs.size) := by heap_get
  have I2 : Inv X pins σ (upd H1 a (exo a C none)) ⟨(hp.push (PySem.W.kdv_tup us)).push (PySem.HandSPX.excO C hp.objs.size), gs, dr, tk, oss⟩ := I1.laid (t' := tk) (o := exo a C none) kk hsz (exo_ok hget)
  have r2 : Vals (V.ref a :: (vs ++ dvs)) (Value.ref a :: (us ++ ds)) := .cons rfl (r1.append hd)
  have hl : (Value.ref a :: us ++ ds).length = ps.length := r2.length.symm.trans (F1.len _ _ _ _ hq)
  have hus : us.length ≤ sizeLine := by have := r1.length; rw [sizeLine_eq]; omega
  refine wpAny_call (PySem.HandSPX.call_own F.excBase_ValueError (fun Y => PySem.HandSPX.refsVE_contains Y bm hbm) (I1.kIn _ _ hC) (PySem.W.looks_findIn I1.kIn iC) (fun self => PySem.W.bind_fn I1.kIn self tI) hus ?_)
  refine codeAny_mono (F1.run _ X.stack _ _ ⟨Value.ref a :: us, []⟩ (Value.ref a :: (us ++ ds)) _ _ (fun _ _ _ => False) (hr.make C us []) (I2.env0.make C us []) (hb _ (Value.ref a :: us) I2.kIn hl) r2 hq) fun r s' hq' => ?_
  cases r with
  | error er => exact hx pins σ _ _ er s' I2 hq'
  | ok fl =>
    cases fl with
    | ret u =>
      obtain ⟨v, H2, os2, bare2, un2, hok2, rv, ev, q2⟩ := hq'
      subst ev
      obtain ⟨h2, g2, d2, t2, os'⟩ := s'
      rcases q2 with ⟨ea, q2⟩ | ⟨d, fs, ea, ed, hd1, q2⟩
      · exact ⟨rv, mk_endN (raises_own T.exC T.tyC) I1 hsz kk un2 hok2 os2 bare2 ea q2⟩
      · obtain ⟨t0, Gr, J, kG, ge, hoe, na⟩ := mk_end0 (d2 := d2) (t2 := t2) I1 hsz kk un2 hok2 os2 bare2 ea ed hd1
        exact ⟨rv, a, _, _, ⟨Gr, g2, d2, t2, os'⟩, _, .ref C, some d, rfl, J, kG, ge, hoe, ⟨rfl, rfl, fun vs e => by cases e; rfl⟩, rfl, rfl, na, rfl, bare2, raises_own T.exC T.tyC, q2⟩
    | next => exact False.elim hq'
    | brk => exact False.elim hq'
    | cont => exact False.elim hq'
theorem pmk_ex {es : List Expr} (T : OexC X.K C) (iC : PySem.W.findIn X.K (.ref C) "__init__" = some (some (.ref fI))) (tI : PySem.W.typeIn X.K (.ref fI) = some (.type "function")) (F1 : FnOk X.prog X.w X.K X.mg X.base CX k fI fd ps sp) (hr : Room (k + 1) X.A) (hb : Binds X.K fd ps ds) (hd : Vals dvs ds)
    (hx : Passes CX X (fun _ _ _ => False)) (hg : Gl X x) (hm : X.mg x = some (.ref C)) (ha : PA X es ta) (hdb : (x == ("__debug__" : Str)) = false)
    (hst : es = [] ∨ ∃ e er, es = e :: er ∧ starEach (e :: er) X.env = (false, eval e X.env) :: starEach er X.env ∧ (backTo pos (starEach er X.env)).any (·.1) = false) (hnil : es = [] → ∀ σ H Q, ta σ H Q → Q [] H) :
    L2N.PMk X (.Call (.Name x p) es [] pos) (tMkG C sp dvs ta) := by
  intro pins s σ H Q I h
  refine wpAny_Call_Name_kw (ld_glob I hg hm ?_ hdb)
  rcases hst with rfl | ⟨e, er, rfl, he, hpl⟩
  · have q := hnil rfl σ H _ h
    exact PySem.W.callWith_K0 I.kIn T.kC (mk_core T iC tI F1 hr hb hd hx I .nil q.1 q.2)
  · exact PySem.W.callWith_K (h₀ := X.base) I.ok.mod.kin T.kC (thn (ha.run pos pins s σ H _ I h) fun us s1 ⟨vs, H1, I1, r1, hz, q1⟩ => ⟨I1.kIn, mk_core T iC tI F1 hr hb hd hx I1 r1 hz q1⟩) he hpl
end
end FkS

set_option Elab.async false
set_option linter.all false
set_option autoImplicit false
set_option maxRecDepth 100000
set_option maxHeartbeats 2000000
/-! Fk 5: expressions -/
namespace Fk
open PySem PySem.Spec PyProof.Rows L2

/-- what is fixed of a program -/
structure FnI where
  nm : Str
  at_ : Str × Option Str
  ps : List Str
  N : List Str
  dfl : List P
  body : I
  hot : Bool := false
  cold : Bool := true
structure Stc where
  fns : List FnI
  bn : List Str
  cn : List (Str × P)
  cls : List Str
  fld : List Str := []
  xcs : List XcI := []
  exm : List (Nat × Option Nat × Bool) := []
  top : Bool := true
/-- within a comprehension -/
def Stc.blk (S : Stc) (cm : Bool) : Stc := { S with top := false, fns := if cm then S.fns else [], exm := if cm then S.exm else [] }
def cnOf (S : Stc) (k : Nat) : Option P := (S.cn[k]?).map (·.2)
/-- arguments, some of them an exception -/
abbrev rA (G : Gm) : Hp → Rho → List Sl → List V → Prop := fun F r as vs => RSs G F r as (vs.map some)
/-- two contexts of one frame -/
structure SameC (X' X : Cx) : Prop where
  prog : X'.prog = X.prog
  w : X'.w = X.w
  K : X'.K = X.K
  mg : X'.mg = X.mg
  base : X'.base = X.base
  A : X'.A = X.A
  pn : X.calm = false → X'.pn = X.pn
/-- the context of an except suite, of what is called there -/
structure HotX (X' X : Cx) (C a0 : Addr) (oe : Obj) (d : Option Addr) : Prop where
  prog : X'.prog = X.prog
  w : X'.w = X.w
  K : X'.K = X.K
  mg : X'.mg = X.mg
  base : X'.base = X.base
  A : X'.A = X.A.mark (some (.ref a0))
  pin : (a0, oe) ∈ X'.pn
  zn : L2N.Zn (.ref C) d oe
  fl : ∃ vs, oe.data = .fields vs
/-- f at a may be called with plain arguments -/
def CallOk (G : Gm) (g : List Sl → Hl → R D) (X : Cx) (W : WX) (a : Addr) : Prop :=
  ∀ (pins : List (Addr × Obj)) (s : Shared) (σ : L2.St) (H : Hp) (us : List Value) (vs : List V) (F : Hp) (r : Rho) (L : Hl) (as : List Sl) (Q : VK), Inv X pins σ H s → Vals vs us → rA G F r as vs → Rel G F r H L →
    Po G (rD G) F r (g as L) Q (fun c d H' => W c d σ H') → wpAny (model X.prog X.w) X.A (PySem.call (.ref a) us) (EP X pins σ Q) X.xe s
/-- C(..) makes an exception with these attributes -/
def tXc (G : Gm) (xi : XcI) (ta : TA) : L2.St → Hp → XK → Prop := fun σ H Q => ta σ H fun vs H1 => ∃ (F : Hp) (r : Rho) (L : Hl) (xs : List Sl) (fs : Flds), rA G F r xs vs ∧ Rel G F r H1 L ∧ xcD xi.kd xs = some fs ∧
  ∀ (F' : Hp) (r' : Rho) (H' : Hp) (d : Option Addr), Same F F' → Pre r r' → Rel G F' r' H' L → RX G F' fs d → Q (.ref (G.ca xi.cl)) d H'
def Xcs (S : Stc) (G : Gm) (Pr : Program) (w : World) (mg : Str → Option Value) (base : Heap) : Prop := ∀ xi ∈ S.xcs, ∀ X : Cx, X.prog = Pr → X.w = w → X.K = G.K → X.mg = mg → X.base = base → Room 4 X.A → ∀ (es : List Expr) (ta : TA) (p pos : Pos), PA X es ta → Gl X xi.nm →
  (xi.nm == ("__debug__" : Str)) = false → (es = [] ∨ ∃ e er, es = e :: er ∧ starEach (e :: er) X.env = (false, eval e X.env) :: starEach er X.env ∧ (backTo pos (starEach er X.env)).any (·.1) = false) → (es = [] → ∀ σ H Q, ta σ H Q → Q [] H) →
  L2N.PMk X (.Call (.Name xi.nm p) es [] pos) (tXc G xi ta)
/-- which exception is of which class -/
structure ExF (S : Stc) (K : PySem.W.Frag) (ca : Nat → Addr) : Prop where
  one : ∀ (c0 c : Nat) (b : Bool), (c0, some c, b) ∈ S.exm → PySem.W.exmOne K (.ref (ca c0)) (.ref (ca c)) = some b ∧ PySem.W.kitOne K (.ref (ca c0)) (.ref (ca c)) = some b
  val : ∀ (c0 : Nat) (b : Bool), (c0, none, b) ∈ S.exm → PySem.W.kitOne K (.ref (ca c0)) (.type "ValueError") = some b
  exc : ∀ (c0 : Nat) (o : Option Nat) (b : Bool), (c0, o, b) ∈ S.exm → ExcC K (ca c0)
/-- the context of a piece of text: sc its scope, sf the names that it may store -/
structure Ck (S : Stc) (G : Gm) (cf : Nat → List Sl → Hl → R D) (X : Cx) (sc sf : Scope) (N : List Str) (cm : Bool) (W : WX) : Prop where
  esc : X.env.scope = sc
  eN : X.N = N
  nd : List.Nodup N
  eK : X.K = G.K
  ecm : cm = true → X.calm = true
  tk : L2N.Takes X W
  po : PassesOwn (model X.prog X.w) X.A X.env X.xe
  hu : X.A.units + 64 < cLine
  fo : ∀ x : Str, L2.Loc sf x → L2.Loc sc x ∧ (X.fn x = true ∨ sc.names.lookup x = some NameKind.local)
  kd : sc.kind = ScopeKind.function
  bn : ∀ x ∈ S.bn, X.mg x = none
  con : ∀ (k : Nat) (x : Str) (p : P), S.cn[k]? = some (x, p) → ∃ (v : V) (u : Value), X.mg x = some u ∧ RelV v u ∧ ∀ F, RP G F p v
  call : ∀ (f : Nat) (fi : FnI), S.fns[f]? = some fi → fi.at_ = (fi.nm, none) → (if cm then fi.cold else fi.hot) = true → ∃ a : Addr, X.mg fi.nm = some (.ref a) ∧ PySem.W.keepIn X.K (.ref a) = true ∧ ∀ X' W', SameC X' X → L2N.Takes X' W' → CallOk G (cf f) X' W' a
  hot : cm = true → ∀ (f : Nat) (fi : FnI), S.fns[f]? = some fi → fi.at_ = (fi.nm, none) → fi.hot = true → ∃ a : Addr, X.mg fi.nm = some (.ref a) ∧ PySem.W.keepIn X.K (.ref a) = true ∧
    ∀ X' W' (a0 : Addr) (oe : Obj) (c : Nat) (d : Option Addr), HotX X' X (G.ca c) a0 oe d → L2N.Takes X' W' → CallOk (G.at (some (a0, c, d))) (cf f) X' W' a
  rm : cm = true → Room 4 X.A
  cpx : cm = true → G.px = none
  px : S.exm = [] ∨ ∀ (a : Addr) (c : Nat) (d : Option Addr), G.px = some (a, c, d) → ∃ oe, (a, oe) ∈ X.pn ∧ L2N.Zn (.ref (G.ca c)) d oe ∧ ∃ vs, oe.data = .fields vs
  fr : S.top = true → X.stack = X.env :: X.outer ∧ X.env.frame = some X.env.locals
  xc : cm = true → Xcs S G X.prog X.w X.mg X.base
  ex : ExF S G.K G.ca
  hc : cm = false → S.top = true → L2H.HotC X

section
variable (G : Gm) (cf : Nat → List Sl → Hl → R D) (cn : Nat → Option P) (W : WX)
/-- a reading by what the plain language computes -/
def tR {α β : Type} (rel : Hp → Rho → α → β → Prop) (f : Sg → Hl → R α) : L2.St → Hp → (β → Hp → Prop) → Prop := fun σ H Q =>
  ∃ (F : Hp) (r : Rho) (t : Sg) (L : Hl), RSs G F r t σ ∧ Rel G F r H L ∧ Po G rel F r (f t L) Q (fun c d H' => W c d σ H')
abbrev tE (k : I) : TE := tR G W (rD G) (dE cf cn k)
abbrev tT (k : I) : TT := tR G W rB (dT cf cn k)
abbrev tA (k : I) : TA := tR G W (rA G) (dA cf cn k)
end
theorem peW {X : Cx} {e : Expr} {t t' : TE} (h : PE X e t) (w : ∀ σ H Q, t' σ H Q → t σ H Q) : PE X e t' := ⟨fun pins s σ H Q I q => h.run pins s σ H Q I (w σ H Q q)⟩
theorem ptW {X : Cx} {e : Expr} {t t' : TT} (h : PT X e t) (w : ∀ σ H Q, t' σ H Q → t σ H Q) : PT X e t' := ⟨fun pins s σ H Q I q => h.run pins s σ H Q I (w σ H Q q)⟩
theorem pwW {X : Cx} {e : Expr} {t t' : TT} (h : PW X e t) (w : ∀ σ H Q, t' σ H Q → t σ H Q) : PW X e t' := ⟨fun wh pins s σ H Q I q => h.run wh pins s σ H Q I (w σ H Q q)⟩
theorem paW {X : Cx} {e : List Expr} {t t' : TA} (h : PA X e t) (w : ∀ σ H Q, t' σ H Q → t σ H Q) : PA X e t' := ⟨fun pos pins s σ H Q I q => h.run pos pins s σ H Q I (w σ H Q q)⟩
theorem tR.mk {α β : Type} {G : Gm} {W : WX} {rel : Hp → Rho → α → β → Prop} {f : Sg → Hl → R α} {F : Hp} {r : Rho} {t : Sg} {L : Hl} {σ : L2.St} {H : Hp} {Q : β → Hp → Prop} (hs : RSs G F r t σ) (R : Rel G F r H L)
    (po : Po G rel F r (f t L) Q (fun c d H' => W c d σ H')) : tR G W rel f σ H Q := ⟨F, r, t, L, hs, R, po⟩
def notComp : Expr → Bool
  | .ListComp _ _ _ _ => false
  | .SetComp _ _ _ _ => false
  | .DictComp _ _ _ _ _ => false
  | _ => true
theorem swaps_no {e : Expr} (h : notComp e = true) (t : Option Expr) (l : Nat) (env : Env) : swapsWith e t l env = pure false := by
  cases e <;> first | rfl | (simp [notComp] at h)
def notStar : Expr → Bool
  | .Starred _ _ => false
  | _ => true
theorem star_no {e : Expr} (h : notStar e = true) (es : List Expr) (env : Env) : starEach (e :: es) env = (false, eval e env) :: starEach es env := by
  cases e <;> first | rfl | (simp [notStar] at h)
theorem back_no (pos : Pos) : ∀ {es : List Expr}, es.all notStar = true → ∀ env : Env, (backTo pos (starEach es env)).any (·.1) = false
  | [], _, _ => rfl
  | e :: es, h, env => by
    rw [List.all_cons, Bool.and_eq_true] at h
    rw [star_no h.1]
    have := back_no pos h.2 env
    show (false || (backTo pos (starEach es env)).any (·.1)) = false
    rw [this]; rfl
def notSup : Expr → Bool
  | .Call (.Name _ _) [] [] _ => false
  | _ => true
theorem base_no {e : Expr} (h : notSup e = true) (f : Str) (env : Env) (wh : Sem Value) : attributeBase e f env wh = wh := by
  unfold attributeBase
  split
  · simp [notSup] at h
  · rfl
/-- a plain test: its value's truth -/
def plainT : Expr → Bool
  | .UnaryOp .Not _ _ => false
  | .BoolOp _ _ _ => false
  | .IfExp _ _ _ _ => false
  | .Compare _ _ _ _ => false
  | _ => true
theorem plainT_ok {e : Expr} (h : plainT e = true) (env : Env) (whole : Sem Value) : isTrue e env whole = (do let v ← whole; standAt e.pos; holding [v] (truthy v)) := by
  cases e with
  | UnaryOp o x p => cases o <;> first | rfl | (simp [plainT] at h)
  | BoolOp => simp [plainT] at h
  | IfExp => simp [plainT] at h
  | Compare => simp [plainT] at h
  | _ => rfl
def notSlice : Expr → Bool
  | .Slice _ _ _ _ => false
  | _ => true
theorem plainIx {e : Expr} (h : notSlice e = true) : PlainIx e := by
  intro o i
  cases e <;> first | rfl | (simp [notSlice] at h)
section
variable {S : Stc} {G : Gm} {cf : Nat → List Sl → Hl → R D} {X : Cx} {sc sf : Scope} {N : List Str} {cm : Bool} {W : WX} {pos : Pos}
def visB (sc : Scope) (x : Str) : Bool := match sc.names.lookup x with
  | some .local => true
  | some .cell => true
  | some .free => true
  | _ => false
def locB (sc : Scope) (x : Str) : Bool := match sc.names.lookup x with
  | some .local => true
  | some .cell => true
  | _ => false
theorem visB_ok {x : Str} (h : visB sc x = true) : Vis sc x := by
  unfold visB at h
  split at h <;> first | exact .inl ‹_› | exact .inr (.inl ‹_›) | exact .inr (.inr ‹_›) | cases h
theorem locB_ok {x : Str} (h : locB sc x = true) : Loc sc x := by
  unfold locB at h
  split at h <;> first | exact .inl ‹_› | exact .inr ‹_› | cases h
def gloB (sc : Scope) (x : Str) : Bool := match sc.names.lookup x with
  | some .globalImplicit => true
  | _ => false
theorem gloB_ok (C : Ck S G cf X sc sf N cm W) {x : Str} (h : gloB sc x = true) : Gl X x := by
  unfold gloB at h
  show X.env.scope.names.lookup x = _
  rw [C.esc]
  split at h <;> first | assumption | cases h
def nmB (x : Str) : Bool := x != ("__debug__" : Str) && x != ("__classdict__" : Str) && x != ("__name__" : Str)
theorem nmB_ok {x : Str} (h : nmB x = true) : (x == ("__debug__" : Str)) = false ∧ (x == ("__classdict__" : Str)) = false ∧ x ≠ "__name__" := by
  unfold nmB at h
  simp only [Bool.and_eq_true, bne_iff_ne, ne_eq] at h
  exact ⟨by simpa using h.1.1, by simpa using h.1.2, h.2⟩
/-- a name of the def -/
def varB (sc : Scope) (N : List Str) (x : Str) (i : Nat) : Bool := decide (N[i]? = some x) && visB sc x && nmB x
theorem s_name (C : Ck S G cf X sc sf N cm W) {x : Str} {i : Nat} (h : varB sc N x i = true) : PE X (.Name x pos) (tVar i) := by
  unfold varB at h
  simp only [Bool.and_eq_true, decide_eq_true_eq] at h
  exact pe_var (by rw [C.eN]; exact h.1.1) (by rw [C.esc]; exact visB_ok h.1.2) (nmB_ok h.2).1 (nmB_ok h.2).2.1
theorem s_var (C : Ck S G cf X sc sf N cm W) {x : Str} {i : Nat} (h : varB sc N x i = true) : PE X (.Name x pos) (tE G cf (cnOf S) W (.var i)) := by
  refine peW (s_name C h) fun σ H Q q => ?_
  obtain ⟨F, r, t, L, hs, R, po⟩ := q
  unfold dE getV at po
  split at po
  · rename_i d e
    obtain ⟨v, hv, rv⟩ := hs.get e
    cases rv with
    | v rv => exact ⟨_, hv, Po.ok po R rv⟩
  · exact po.elim
theorem s_lit {x : P} {v : V} {e : Expr} (h : PE X e (tC v)) (r : ∀ F, RP G F x v) : PE X e (tE G cf (cnOf S) W (.lit x)) := by
  refine peW h fun σ H Q q => ?_
  obtain ⟨F, r', t, L, hs, R, po⟩ := q
  exact Po.ok po R (.p (r F))
theorem s_con (C : Ck S G cf X sc sf N cm W) {x : Str} {p : P} {k : Nat} (h : S.cn[k]? = some (x, p)) (hg : gloB sc x = true) (hn : nmB x = true) : PE X (.Name x pos) (tE G cf (cnOf S) W (.con k)) := by
  obtain ⟨v, u, hm, rv, rp⟩ := C.con k x p h
  refine peW (pe_glob (gloB_ok C hg) hm rv (nmB_ok hn).1) fun σ H Q q => ?_
  obtain ⟨F, r', t, L, hs, R, po⟩ := q
  unfold dE cnOf at po
  rw [h] at po
  exact Po.ok po R (.p (rp F))
/-- two operands by values, then what follows -/
theorem two {γ δ : Type} {rel2 : Hp → Rho → γ → δ → Prop} {f : D → D → Hl → R γ} {ka kb : I} {K : V → V → Hp → Prop} {σ : L2.St} {H : Hp} {Q2 : δ → Hp → Prop}
    {F : Hp} {r : Rho} {t : Sg} {L : Hl} (hs : RSs G F r t σ) (R : Rel G F r H L) (po : Po G rel2 F r ((dE cf (cnOf S) ka t L).bind fun x L => (dE cf (cnOf S) kb t L).bind fun y L => f x y L) Q2 (fun c d H' => W c d σ H'))
    (hr : ∀ (F : Hp) (r : Rho) (L : Hl) (a b : D) (x y : V) (H' : Hp), RSs G F r t σ → Rel G F r H' L → RD G F r a x → RD G F r b y → Po G rel2 F r (f a b L) Q2 (fun c d H' => W c d σ H') → K x y H') :
    tE G cf (cnOf S) W ka σ H fun x H1 => tE G cf (cnOf S) W kb σ H1 fun y H2 => K x y H2 := by
  refine tR.mk hs R (Po.step po fun x H1 F1 r1 a L1 _ s1 p1 R1 ra po1 => ?_)
  refine tR.mk (hs.mono s1 p1) R1 (Po.step po1 fun y H2 F2 r2 b L2 _ s2 p2 R2 rb po2 => ?_)
  exact hr F2 r2 L2 a b x y H2 ((hs.mono s1 p1).mono s2 p2) R2 (ra.mono s2 p2) rb po2
theorem s_bin (C : Ck S G cf X sc sf N cm W) {a b : Expr} {o : Op} {op : Operator} {ka kb : I} (h : binOk o op = true) (ha : PE X a (tE G cf (cnOf S) W ka)) (hb : PE X b (tE G cf (cnOf S) W kb)) :
    PE X (.BinOp a op b pos) (tE G cf (cnOf S) W (.op o ka kb)) :=
  peW (pe_op (binR C.eK h) ha hb) fun σ H Q q => by
    obtain ⟨F, r, t, L, hs, R, po⟩ := q
    simp only [dE] at po
    exact two (f := opD o) hs R po fun F r L a b x y H' hs R ra rb po => ⟨F, r, L, a, b, _, R, ra, rb, po⟩
theorem mark_no {op : CmpOp} {b : Expr} (h : match b with | .Set _ _ _ => false | _ => true) : behindInMarks op b = false := by
  cases b <;> first | rfl | (simp at h)
def notSet : Expr → Bool
  | .Set _ _ _ => false
  | _ => true
theorem s_cmp (C : Ck S G cf X sc sf N cm W) {a b : Expr} {o : Op} {op : CmpOp} {ka kb : I} (h : cmpOk o op = true) (hb' : notSet b = true) (ha : PE X a (tE G cf (cnOf S) W ka)) (hb : PE X b (tE G cf (cnOf S) W kb)) :
    PE X (.Compare a [op] [b] pos) (tE G cf (cnOf S) W (.op o ka kb)) :=
  peW (pe_cmpR (cmpR C.eK C.hu h) ha hb (mark_no (by cases b <;> first | rfl | (simp [notSet] at hb')))) fun σ H Q q => by
    obtain ⟨F, r, t, L, hs, R, po⟩ := q
    simp only [dE] at po
    exact two (f := opD o) hs R po fun F r L a b x y H' hs R ra rb po => ⟨F, r, L, a, b, _, R, ra, rb, po⟩
theorem bind_bind {α β γ : Type} (r : R α) (f : α → Hl → R β) (g : β → Hl → R γ) : (r.bind f).bind g = r.bind fun a L => (f a L).bind g := by
  cases r <;> rfl
theorem bind_bind' {α β γ δ : Type} (r : R α) (f : α → Hl → R β) (h : α → Hl → β → Hl → R γ) (g : γ → Hl → R δ) : (r.bind fun a L => ((f a L).bind (h a L)).bind g) = r.bind fun a L => (f a L).bind fun b L' => (h a L b L').bind g := by
  cases r with
  | ok a L => exact bind_bind _ _ _
  | _ => rfl
theorem blR_bl {b : Option Bool} {L L' : Hl} {d : D} (h : blR b L = .ok d L') : ∃ k, d = .p (.bl k) := by
  cases b with
  | none => cases h
  | some k => cases h; exact ⟨k, rfl⟩
theorem cmp_bl {o : Op} {op : CmpOp} (h : cmpOk o op = true) {a b d : D} {L L' : Hl} (e : opD o a b L = .ok d L') : ∃ k, d = .p (.bl k) := by
  cases o <;> cases op <;> first | (simp [cmpOk] at h; done) | skip
  all_goals
    unfold opD at e
    dsimp only at e
    first
    | exact blR_bl e
    | (split at e <;> first | (cases e; exact ⟨_, rfl⟩) | exact blR_bl e | cases e)
theorem s_cmpT (C : Ck S G cf X sc sf N cm W) {a b : Expr} {o : Op} {op : CmpOp} {ka kb : I} (h : cmpOk o op = true) (hb' : notSet b = true) (ha : PE X a (tE G cf (cnOf S) W ka)) (hb : PE X b (tE G cf (cnOf S) W kb)) :
    PT X (.Compare a [op] [b] pos) (tT G cf (cnOf S) W (.tval (.op o ka kb))) := by
  refine ptW (pt_cmpR (cmpR C.eK C.hu h) ha hb (mark_no (by cases b <;> first | rfl | (simp [notSet] at hb')))) fun σ H Q q => ?_
  obtain ⟨F, r, t, L, hs, R, po⟩ := q
  simp only [dT, dE] at po
  rw [bind_bind, bind_bind'] at po
  exact two (rel2 := rB) (f := fun x y L => (opD o x y L).bind fun x L => match truD L x with
    | some b => Fk.R.ok b L
    | none => Fk.R.bad) hs R po fun F r L a b x y H' hs R ra rb po => ⟨F, r, L, a, b, _, R, ra, rb, Po.step po fun v H2 F2 r2 z L2 e s2 p2 R2 rz po2 => by
    obtain ⟨k, rfl⟩ := cmp_bl h e
    cases rz with
    | p rz =>
      cases rz
      exact ⟨k, rfl, Po.ok po2 R2 rfl⟩⟩
end
end Fk

set_option Elab.async false
set_option linter.all false
set_option autoImplicit false
set_option maxRecDepth 100000
set_option maxHeartbeats 2000000
/-! Fk R: calls of the plain language -/
namespace Fk
open PySem PySem.Spec PyProof.Rows L2
/-- what a call gives: the new objects go, if nothing names them -/
def endK {α : Type} (n : Nat) (c : Bool) (L : Hl) (f : Hl → R α) : R α := f (if c && (L.take n).all (closedO n) then L.take n else L)
def endD (n : Nat) (r : RS2) : R D := match r with
  | .ok (.rt d) L => .ok d (if closedD n d && (L.take n).all (closedO n) then L.take n else L)
  | .ok (.nx _) L => .ok (.p .non) (if (L.take n).all (closedO n) then L.take n else L)
  | .ex c fs _ L => .ex c fs (if (L.take n).all (closedO n) then L.take n else L)
  | _ => .bad
def dflN (fi : FnI) (m : Nat) : List Sl := (fi.dfl.drop (m + fi.dfl.length - fi.ps.length)).map fun p => .v (.p p)
def run (S : Stc) : Nat → Nat → List Sl → Hl → R D
  | 0, _, _, _ => .bad
  | n + 1, f, as, L => match S.fns[f]? with
    | some fi => if as.length ≤ fi.ps.length ∧ fi.dfl.length ≤ fi.ps.length ∧ fi.ps.length ≤ as.length + fi.dfl.length then
        endD L.length (dS (run S n) (cnOf S) fi.body (as ++ dflN fi as.length ++ List.replicate (fi.N.length - fi.ps.length) .u) L) else .bad
    | none => .bad
end Fk

set_option Elab.async false
set_option linter.all false
set_option autoImplicit false
set_option maxRecDepth 100000
set_option maxHeartbeats 2000000
/-! Fk P: to compute what the plain language says -/
namespace Fk
open PySem PySem.Spec PyProof.Rows L2
section
variable (cf : Nat → List Sl → Hl → R D) (cn : Nat → Option P)
/-- the body of a loop -/
def forB (g b : I) (x : P) (t : Sg) (L : Hl) : RS2 := match gI g (.p x) t with
  | some t' => dS cf cn b t' L
  | none => .bad
/-- a turn of a comprehension -/
def tB (t : Sg) (ws : List Nat) (g c e : I) (x : P) (L : Hl) : R (Option P) := match gI g (.p x) (wipeS t ws) with
  | some t' => (dT cf cn c t' L).bind fun b L => if b then (dE cf cn e t' L).bind fun y L => (match y with
    | .p y => .ok (some y) L
    | _ => .bad) else .ok none L
  | none => .bad
end
/-! ways on, by name -/
section
variable (cf : Nat → List Sl → Hl → R D) (cn : Nat → Option P)
def kop (o : Op) (b : I) (t : Sg) (x : D) (L : Hl) : R D := (dE cf cn b t L).bind (opD o x)
def kneg (x : D) (L : Hl) : R D := match x with
    | .p (.int i) => .ok (.p (.int (-i))) L
    | _ => .bad
def knot (x : D) (L : Hl) : R D := match truD L x with
    | some b => .ok (.p (.bl (!b))) L
    | none => .bad
def kand (b : I) (t : Sg) (x : D) (L : Hl) : R D := match truD L x with
    | some true => dE cf cn b t L
    | some false => .ok x L
    | none => .bad
def kor (b : I) (t : Sg) (x : D) (L : Hl) : R D := match truD L x with
    | some true => .ok x L
    | some false => dE cf cn b t L
    | none => .bad
def kch3 (o' : Op) (c : I) (t : Sg) (y : D) (z : D) (L : Hl) : R D := match z with
    | .p (.bl true) => (dE cf cn c t L).bind (opD o' y)
    | .p (.bl false) => .ok (.p (.bl false)) L
    | _ => .bad
def kch2 (o o' : Op) (c : I) (t : Sg) (x y : D) (L : Hl) : R D := (opD o x y L).bind (kch3 cf cn o' c t y)
def kch (o o' : Op) (b c : I) (t : Sg) (x : D) (L : Hl) : R D := (dE cf cn b t L).bind (kch2 cf cn o o' c t x)
def kite (a b : I) (t : Sg) (q : Bool) (L : Hl) : R D := if q then dE cf cn a t L else dE cf cn b t L
def kbi (b : Bi) (xs : List Sl) (L : Hl) : R D := match vals xs with
    | some ys => biD b ys L
    | none => .bad
def kme2 (m : Me) (x : D) (xs : List Sl) (L : Hl) : R D := match vals xs with
    | some ys => meD m x ys L
    | none => .bad
def kme (m : Me) (as : I) (t : Sg) (x : D) (L : Hl) : R D := if tyOk m x L then (dA cf cn as t L).bind (kme2 m x) else .bad
def ktup (xs : List Sl) (L : Hl) : R D := match pures xs with
    | some ys => if ys.length ≤ sizeLine then .ok (.p (.tup ys)) L else .bad
    | none => .bad
def klst (m : Bool) (xs : List Sl) (L : Hl) : R D := match pures xs with
    | some ys => if ys.length ≤ sizeLine then newL m ys L else .bad
    | none => .bad
def ktrev (x : D) (L : Hl) : R D := match rdS L x with
    | some xs => .ok (.p (.tup xs.reverse)) L
    | none => .bad
def klrng (m : Bool) (x : D) (L : Hl) : R D := match x with
    | .p (.int j) => if -(2 ^ 62) ≤ j ∧ j ≤ 16777216 then newL m (rangeP 0 j.toNat) L else .bad
    | _ => .bad
def khsum (i n : Nat) (x : D) (L : Hl) : R D := match rdS L x with
    | some xs => (match boolsP xs with
      | some ns => if i < n ∧ xs.length ≤ 10000 then .ok (.p (.int ns.sum)) L else .bad
      | none => .bad)
    | none => .bad
def kix (i : I) (t : Sg) (x : D) (L : Hl) : R D := (dE cf cn i t L).bind (ixD x)
def ksl3 (m : Bool) (x : D) (y : Option Int) (z : Option Int) (L : Hl) : R D := slD m x y z L
def ksl2 (m : Bool) (hi : I) (t : Sg) (x : D) (y : Option Int) (L : Hl) : R D := (dO cf cn hi t L).bind (ksl3 m x y)
def ksl (m : Bool) (lo hi : I) (t : Sg) (x : D) (L : Hl) : R D := (dO cf cn lo t L).bind (ksl2 cf cn m hi t x)
def kfld (f : Nat) (x : D) (L : Hl) : R D := fldD x f L
def kisi (c : Cl) (x : D) (L : Hl) : R D := match look L x with
    | some y => blR (tyP y c) L
    | none => .bad
def kcomp3 (m : Bool) (n : Nat) (_ : Unit) (L' : Hl) : R D := compEnd m n L'
def kcomp (m : Bool) (ws : List Nat) (g c e : I) (t : Sg) (xs : List P) (L : Hl) : R D := (compL (tB cf cn t ws g c e) L.length xs (L ++ [.lst []])).bind (kcomp3 m L.length)
def ko1 (x : D) (L : Hl) : R (Option Int) := match x with
    | .p (.int i) => .ok (some i) L
    | _ => .bad
def ka2 (x : Sl) (xs : List Sl) (L : Hl) : R (List Sl) := .ok (x :: xs) L
def ka (r : I) (t : Sg) (x : D) (L : Hl) : R (List Sl) := (dA cf cn r t L).bind (ka2 (.v x))
def kits (k : It) (xs : List Sl) (L : Hl) : R (List P) := match vals xs with
    | some ys => itD k ys L
    | none => .bad
def ktand (b : I) (t : Sg) (q : Bool) (L : Hl) : R Bool := if q then dT cf cn b t L else .ok false L
def ktor (b : I) (t : Sg) (q : Bool) (L : Hl) : R Bool := if q then .ok true L else dT cf cn b t L
def ktnot (q : Bool) (L : Hl) : R Bool := .ok (!q) L
def ktval (x : D) (L : Hl) : R Bool := match truD L x with
    | some b => .ok b L
    | none => .bad
def kexpr (t : Sg) (_ : D) (L : Hl) : RS2 := .ok (.nx t) L
def kasg (g : I) (t : Sg) (x : D) (L : Hl) : RS2 := match gI g x t with
    | some t' => .ok (.nx t') L
    | none => .bad
def kset4 (t : Sg) (_ : Unit) (L : Hl) : RS2 := .ok (.nx t) L
def kset3 (x y : D) (t : Sg) (z : D) (L : Hl) : RS2 := (setD y z x L).st t (kset4 t)
def kset2 (i : I) (x : D) (t : Sg) (y : D) (L : Hl) : RS2 := (dE cf cn i t L).st t (kset3 x y t)
def kset (o i : I) (t : Sg) (x : D) (L : Hl) : RS2 := (dE cf cn o t L).st t (kset2 cf cn i x t)
def kret (x : D) (L : Hl) : RS2 := .ok (.rt x) L
def kif (a b : I) (t : Sg) (q : Bool) (L : Hl) : RS2 := if q then dS cf cn a t L else dS cf cn b t L
def kfor (g b : I) (t : Sg) (xs : List P) (L : Hl) : RS2 := forL (forB cf cn g b) xs t L
def kraise (c : Nat) (k : Xk) (t : Sg) (xs : List Sl) (L : Hl) : RS2 := match xcD k xs with
    | some fs => .ex c fs t L
    | none => .bad
def ktB2 (y : D) (L : Hl) : R (Option P) := match y with
    | .p y => .ok (some y) L
    | _ => .bad
def ktB (e : I) (t : Sg) (b : Bool) (L : Hl) : R (Option P) := if b then (dE cf cn e t L).bind ktB2 else .ok none L
end
/-! values behind a look -/
def kand2 (cf : Nat → List Sl → Hl → R D) (cn : Nat → Option P) (b : I) (t : Sg) (x : D) (o : Option Bool) (L : Hl) : R D := match o with
  | some true => dE cf cn b t L
  | some false => .ok x L
  | none => .bad
def kmeb (cf : Nat → List Sl → Hl → R D) (cn : Nat → Option P) (m : Me) (as : I) (t : Sg) (x : D) (c : Bool) (L : Hl) : R D := if c then (dA cf cn as t L).bind (kme2 m x) else .bad
def kor2 (cf : Nat → List Sl → Hl → R D) (cn : Nat → Option P) (b : I) (t : Sg) (x : D) (o : Option Bool) (L : Hl) : R D := match o with
  | some true => .ok x L
  | some false => dE cf cn b t L
  | none => .bad
def ofO (o : Option P) (L : Hl) : R D := match o with
  | some x => .ok (.p x) L
  | none => .bad
def knot2 (o : Option Bool) (L : Hl) : R D := match o with
  | some b => .ok (.p (.bl (!b))) L
  | none => .bad
def ktv2 (o : Option Bool) (L : Hl) : R Bool := match o with
  | some b => .ok b L
  | none => .bad
def ktup2 (o : Option (List P)) (L : Hl) : R D := match o with
  | some ys => if ys.length ≤ sizeLine then .ok (.p (.tup ys)) L else .bad
  | none => .bad
def klst2 (m : Bool) (o : Option (List P)) (L : Hl) : R D := match o with
  | some ys => if ys.length ≤ sizeLine then newL m ys L else .bad
  | none => .bad
def khs2 (o : Option (List Int)) (c : Prop) [Decidable c] (L : Hl) : R D := match o with
  | some ns => if c then .ok (.p (.int ns.sum)) L else .bad
  | none => .bad
def kexi (ks : List (Nat × Bool)) (o : Option Sl) (L : Hl) : R D := match o with
  | some (.e c _) => blR (ks.lookup c) L
  | _ => .bad
def kexf (f : Nat) (o : Option Sl) (L : Hl) : R D := match o with
  | some (.e _ fs) => ofO (lkP f fs) L
  | _ => .bad
def kfrz2 (i : Nat) (t : Sg) (n : Nat) (o : Option O) (L : Hl) : RS2 := match o with
  | some (.lst xs) => .ok (.nx (t.set i (.v (.p (.lst xs))))) (L.set n .dead)
  | _ => .bad
def kfrz (i : Nat) (t : Sg) (o : Option Sl) (L : Hl) : RS2 := match o with
  | some (.v (.ref n)) => kfrz2 i t n L[n]? L
  | some (.v (.p _)) => .ok (.nx t) L
  | _ => .bad
def kraise2 (c : Nat) (t : Sg) (o : Option Flds) (L : Hl) : RS2 := match o with
  | some fs => .ex c fs t L
  | none => .bad
def kend (i : Nat) (r : RS2) : RS2 := match r with
  | .ok (.nx t') L' => .ok (.nx ((t'.map clr).set i .u)) L'
  | .ok (.bk t') L' => .ok (.bk ((t'.map clr).set i .u)) L'
  | .ok (.ct t') L' => .ok (.ct ((t'.map clr).set i .u)) L'
  | .ok (.rt d) L' => .ok (.rt d) L'
  | _ => .bad
def ktry (i : Nat) (c : Nat) (fs : Flds) (s : Sg → Hl → RS2) (t : Sg) (L : Hl) (o : Option Bool) : RS2 := match o with
  | some true => kend i (s (t.set i (.e c fs)) L)
  | some false => .ex c fs t L
  | none => .bad
def klenr (o : Option O) (L : Hl) : R D := match o with
  | some (.lst xs) => .ok (.p (.int xs.length)) L
  | some (.dct xs) => .ok (.p (.int xs.length)) L
  | _ => .bad
def kixr (k : Int) (o : Option O) (L : Hl) : R D := match o with
  | some (.lst xs) => ofO (atP xs k) L
  | _ => .bad
def kst2 (n : Nat) (x : P) (xs : List P) (o : Option Nat) (L : Hl) : R Unit := match o with
  | some j => .ok () (L.set n (.lst (xs.set j x)))
  | none => .bad
def kst (n : Nat) (i x : P) (o : Option O) (L : Hl) : R Unit := match o, i with
  | some (.lst xs), .int k => kst2 n x xs (ixN xs.length k) L
  | some (.dct kvs), i => if keyP i ∧ kvs.length < 1000000 then .ok () (L.set n (.dct (putK' i x kvs))) else .bad
  | _, _ => .bad
def kapp (n : Nat) (x : P) (o : Option O) (L : Hl) : R D := match o with
  | some (.lst xs) => if xs.length < sizeLine then .ok (.p .non) (L.set n (.lst (xs ++ [x]))) else .bad
  | _ => .bad
def ktyl (o : Option O) : Bool := match o with
  | some (.lst _) => true
  | _ => false
def krdl (o : Option O) : Option (List P) := match o with
  | some (.lst xs) => some xs
  | _ => none
section
variable {cf : Nat → List Sl → Hl → R D} {cn : Nat → Option P} {t : Sg} {L : Hl}
theorem ev_var {i : Nat} : dE cf cn (.var i) t L = getV t i L := rfl
theorem ev_lit {x : P} : dE cf cn (.lit x) t L = .ok (.p x) L := rfl
theorem ev_con {k : Nat} : dE cf cn (.con k) t L = ofO (cn k) L := rfl
theorem ek_ofO {x : P} : ofO (some x) L = .ok (.p x) L := rfl
theorem ev_op {o : Op} {a b : I} : dE cf cn (.op o a b) t L = (dE cf cn a t L).bind (kop cf cn o b t) := rfl
theorem ek_op {o : Op} {b : I} {x : D} : kop cf cn o b t x L = (dE cf cn b t L).bind (opD o x) := rfl
theorem ev_neg {a : I} : dE cf cn (.neg a) t L = (dE cf cn a t L).bind kneg := rfl
theorem ek_neg {i : Int} : kneg (.p (.int i)) L = .ok (.p (.int (-i))) L := rfl
theorem ev_notv {a : I} : dE cf cn (.notv a) t L = (dE cf cn a t L).bind knot := rfl
theorem ek_not {x : D} : knot x L = knot2 (truD L x) L := rfl
theorem ek_not2 {b : Bool} : knot2 (some b) L = .ok (.p (.bl (!b))) L := rfl
theorem ev_andv {a b : I} : dE cf cn (.andv a b) t L = (dE cf cn a t L).bind (kand cf cn b t) := rfl
theorem ek_and {b : I} {x : D} : kand cf cn b t x L = kand2 cf cn b t x (truD L x) L := rfl
theorem ek_and1 {b : I} {x : D} : kand2 cf cn b t x (some true) L = dE cf cn b t L := rfl
theorem ek_and0 {b : I} {x : D} : kand2 cf cn b t x (some false) L = .ok x L := rfl
theorem ev_orv {a b : I} : dE cf cn (.orv a b) t L = (dE cf cn a t L).bind (kor cf cn b t) := rfl
theorem ek_or {b : I} {x : D} : kor cf cn b t x L = kor2 cf cn b t x (truD L x) L := rfl
theorem ek_or1 {b : I} {x : D} : kor2 cf cn b t x (some true) L = .ok x L := rfl
theorem ek_or0 {b : I} {x : D} : kor2 cf cn b t x (some false) L = dE cf cn b t L := rfl
theorem ev_chain {o o' : Op} {a b c : I} : dE cf cn (.chain o o' a b c) t L = (dE cf cn a t L).bind (kch cf cn o o' b c t) := rfl
theorem ek_ch {o o' : Op} {b c : I} {x : D} : kch cf cn o o' b c t x L = (dE cf cn b t L).bind (kch2 cf cn o o' c t x) := rfl
theorem ek_ch2 {o o' : Op} {c : I} {x y : D} : kch2 cf cn o o' c t x y L = (opD o x y L).bind (kch3 cf cn o' c t y) := rfl
theorem ek_ch3t {o' : Op} {c : I} {y : D} : kch3 cf cn o' c t y (.p (.bl true)) L = (dE cf cn c t L).bind (opD o' y) := rfl
theorem ek_ch3f {o' : Op} {c : I} {y : D} : kch3 cf cn o' c t y (.p (.bl false)) L = .ok (.p (.bl false)) L := rfl
theorem ev_ite {c a b : I} : dE cf cn (.ite c a b) t L = (dT cf cn c t L).bind (kite cf cn a b t) := rfl
theorem ek_ite1 {a b : I} : kite cf cn a b t true L = dE cf cn a t L := rfl
theorem ek_ite0 {a b : I} : kite cf cn a b t false L = dE cf cn b t L := rfl
theorem ev_call {f : Nat} {as : I} : dE cf cn (.call f as) t L = (dA cf cn as t L).bind (cf f) := rfl
theorem ev_bi {b : Bi} {as : I} : dE cf cn (.bi b as) t L = (dA cf cn as t L).bind (kbi b) := rfl
theorem ek_bi1 {b : Bi} {x : D} : kbi b [.v x] L = biD b [x] L := rfl
theorem ek_bi2 {b : Bi} {x y : D} : kbi b [.v x, .v y] L = biD b [x, y] L := rfl
theorem ev_me {m : Me} {o as : I} : dE cf cn (.me m o as) t L = (dE cf cn o t L).bind (kme cf cn m as t) := rfl
theorem ek_me {m : Me} {as : I} {x : D} : kme cf cn m as t x L = kmeb cf cn m as t x (tyOk m x L) L := rfl
theorem ek_meb {m : Me} {as : I} {x : D} : kmeb cf cn m as t x true L = (dA cf cn as t L).bind (kme2 m x) := rfl
theorem ek_me20 {m : Me} {x : D} : kme2 m x [] L = meD m x [] L := rfl
theorem ek_me21 {m : Me} {x y : D} : kme2 m x [.v y] L = meD m x [y] L := rfl
theorem ek_me22 {m : Me} {x y z : D} : kme2 m x [.v y, .v z] L = meD m x [y, z] L := rfl
theorem ev_tup {as : I} : dE cf cn (.tup as) t L = (dA cf cn as t L).bind ktup := rfl
theorem ek_tup {xs : List Sl} : ktup xs L = ktup2 (pures xs) L := rfl
theorem ek_tup2 {ys : List P} (h2 : ys.length ≤ sizeLine) : ktup2 (some ys) L = .ok (.p (.tup ys)) L := if_pos h2
theorem ev_lst {m : Bool} {as : I} : dE cf cn (.lst m as) t L = (dA cf cn as t L).bind (klst m) := rfl
theorem ek_lst {m : Bool} {xs : List Sl} : klst m xs L = klst2 m (pures xs) L := rfl
theorem ek_lst2 {m : Bool} {ys : List P} (h2 : ys.length ≤ sizeLine) : klst2 m (some ys) L = newL m ys L := if_pos h2
theorem ev_trev {a : I} : dE cf cn (.trev a) t L = (dE cf cn a t L).bind ktrev := rfl
theorem ek_trev {xs : List P} : ktrev (.p (.lst xs)) L = .ok (.p (.tup xs.reverse)) L := rfl
theorem ev_lrng {m : Bool} {a : I} : dE cf cn (.lrng m (.cons a .nil)) t L = (dE cf cn a t L).bind (klrng m) := rfl
theorem ek_lrng {m : Bool} {n : Nat} (h : n ≤ 16777216) : klrng m (.p (.int (n : Int))) L = newL m (rangeP 0 n) L := by
  unfold klrng
  dsimp only
  rw [if_pos ⟨by omega, by omega⟩, Int.toNat_natCast]
theorem ev_hsum {i : Nat} {a : I} : dE cf cn (.hsum i a) t L = (dE cf cn a t L).bind (khsum i t.length) := rfl
theorem ek_hsum {i n : Nat} {xs : List P} : khsum i n (.p (.lst xs)) L = khs2 (boolsP xs) (i < n ∧ xs.length ≤ 10000) L := rfl
theorem ek_hs2 {c : Prop} [Decidable c] {ns : List Int} (h : c) : khs2 (some ns) c L = .ok (.p (.int ns.sum)) L := if_pos h
theorem ev_dct0 {m : Bool} : dE cf cn (.dct0 m) t L = newK m [] L := rfl
theorem ev_ix {a i : I} : dE cf cn (.ix a i) t L = (dE cf cn a t L).bind (kix cf cn i t) := rfl
theorem ek_ix {i : I} {x : D} : kix cf cn i t x L = (dE cf cn i t L).bind (ixD x) := rfl
theorem ev_sl {m : Bool} {a lo hi : I} : dE cf cn (.sl m a lo hi) t L = (dE cf cn a t L).bind (ksl cf cn m lo hi t) := rfl
theorem ek_sl {m : Bool} {lo hi : I} {x : D} : ksl cf cn m lo hi t x L = (dO cf cn lo t L).bind (ksl2 cf cn m hi t x) := rfl
theorem ek_sl2 {m : Bool} {hi : I} {x : D} {y : Option Int} : ksl2 cf cn m hi t x y L = (dO cf cn hi t L).bind (ksl3 m x y) := rfl
theorem ek_sl3 {m : Bool} {x : D} {y z : Option Int} : ksl3 m x y z L = slD m x y z L := rfl
theorem ev_fld {a : I} {f : Nat} : dE cf cn (.fld a f) t L = (dE cf cn a t L).bind (kfld f) := rfl
theorem ek_fld {f : Nat} {x : D} : kfld f x L = fldD x f L := rfl
theorem ev_isi {a : I} {c : Cl} : dE cf cn (.isi a c) t L = (dE cf cn a t L).bind (kisi c) := rfl
theorem ek_isi {c : Cl} {x : P} : kisi c (.p x) L = blR (tyP x c) L := rfl
theorem ek_blR {b : Bool} : blR (some b) L = .ok (.p (.bl b)) L := rfl
theorem ev_exi {i : Nat} {ks : List (Nat × Bool)} : dE cf cn (.exi i ks) t L = kexi ks t[i]? L := rfl
theorem ek_exi {ks : List (Nat × Bool)} {c : Nat} {fs : Flds} : kexi ks (some (.e c fs)) L = blR (ks.lookup c) L := rfl
theorem ev_exf {i f : Nat} : dE cf cn (.exf i f) t L = kexf f t[i]? L := rfl
theorem ek_exf {f c : Nat} {fs : Flds} : kexf f (some (.e c fs)) L = ofO (lkP f fs) L := rfl
theorem ev_comp {m : Bool} {ws : List Nat} {g it c e : I} : dE cf cn (.comp m ws g it c e) t L = (dI cf cn it t L).bind (kcomp cf cn m ws g c e t) := rfl
theorem ek_comp {m : Bool} {ws : List Nat} {g c e : I} {xs : List P} : kcomp cf cn m ws g c e t xs L = (compL (tB cf cn t ws g c e) L.length xs (L ++ [.lst []])).bind (kcomp3 m L.length) := rfl
theorem ek_comp3 {m : Bool} {n : Nat} {u : Unit} : kcomp3 m n u L = compEnd m n L := rfl
theorem ev_o0 : dO cf cn .nil t L = .ok none L := rfl
theorem ev_o1 {a r : I} : dO cf cn (.cons a r) t L = (dE cf cn a t L).bind ko1 := rfl
theorem ek_o1 {i : Int} : ko1 (.p (.int i)) L = .ok (some i) L := rfl
theorem ev_a0 : dA cf cn .nil t L = .ok [] L := rfl
theorem ev_a1 {a r : I} (h : ∀ i, a = .exv i → False) : dA cf cn (.cons a r) t L = (dE cf cn a t L).bind (ka cf cn r t) := by
  cases a <;> first | rfl | exact (h _ rfl).elim
theorem ek_a {r : I} {x : D} : ka cf cn r t x L = (dA cf cn r t L).bind (ka2 (.v x)) := rfl
theorem ek_a2 {x : Sl} {xs : List Sl} : ka2 x xs L = .ok (x :: xs) L := rfl
def kexv (r : Option Sl) (xs : R (List Sl)) : R (List Sl) := match r with
  | some (.e c fs) => xs.bind (ka2 (.e c fs))
  | _ => .bad
theorem ev_a2 {i : Nat} {r : I} : dA cf cn (.cons (.exv i) r) t L = kexv t[i]? (dA cf cn r t L) := rfl
theorem ek_exv {c : Nat} {fs : Flds} {xs : R (List Sl)} : kexv (some (.e c fs)) xs = xs.bind (ka2 (.e c fs)) := rfl
theorem ev_its {k : It} {as : I} : dI cf cn (.its k as) t L = (dA cf cn as t L).bind (kits k) := rfl
theorem ek_its1 {k : It} {x : D} : kits k [.v x] L = itD k [x] L := rfl
theorem ek_its2 {k : It} {x y : D} : kits k [.v x, .v y] L = itD k [x, y] L := rfl
theorem ev_tand {a b : I} : dT cf cn (.tand a b) t L = (dT cf cn a t L).bind (ktand cf cn b t) := rfl
theorem ek_tand1 {b : I} : ktand cf cn b t true L = dT cf cn b t L := rfl
theorem ek_tand0 {b : I} : ktand cf cn b t false L = .ok false L := rfl
theorem ev_tor {a b : I} : dT cf cn (.tor a b) t L = (dT cf cn a t L).bind (ktor cf cn b t) := rfl
theorem ek_tor1 {b : I} : ktor cf cn b t true L = .ok true L := rfl
theorem ek_tor0 {b : I} : ktor cf cn b t false L = dT cf cn b t L := rfl
theorem ev_tnot {a : I} : dT cf cn (.tnot a) t L = (dT cf cn a t L).bind ktnot := rfl
theorem ek_tnot {q : Bool} : ktnot q L = .ok (!q) L := rfl
theorem ev_tval {a : I} : dT cf cn (.tval a) t L = (dE cf cn a t L).bind ktval := rfl
theorem ek_tval {x : D} : ktval x L = ktv2 (truD L x) L := rfl
theorem ek_tv2 {b : Bool} : ktv2 (some b) L = .ok b L := rfl
theorem ev_tyes : dT cf cn .tyes t L = .ok true L := rfl
theorem ev_pass : dS cf cn .pass t L = .ok (.nx t) L := rfl
theorem ev_seq {a b : I} : dS cf cn (.seq a b) t L = (dS cf cn a t L).seq (dS cf cn b) := rfl
theorem ev_expr {e : I} : dS cf cn (.expr e) t L = (dE cf cn e t L).st t (kexpr t) := rfl
theorem ek_expr {x : D} : kexpr t x L = .ok (.nx t) L := rfl
theorem ev_asg {g e : I} : dS cf cn (.asg g e) t L = (dE cf cn e t L).st t (kasg g t) := rfl
theorem ek_asg {i : Nat} {x : D} : kasg (.gn i) t x L = .ok (.nx (t.set i (.v x))) L := rfl
theorem ev_seti {o i e : I} : dS cf cn (.seti o i e) t L = (dE cf cn e t L).st t (kset cf cn o i t) := rfl
theorem ek_set {o i : I} {x : D} : kset cf cn o i t x L = (dE cf cn o t L).st t (kset2 cf cn i x t) := rfl
theorem ek_set2 {i : I} {x y : D} : kset2 cf cn i x t y L = (dE cf cn i t L).st t (kset3 x y t) := rfl
theorem ek_set3 {x y z : D} : kset3 x y t z L = (setD y z x L).st t (kset4 t) := rfl
theorem ek_set4 {u : Unit} : kset4 t u L = .ok (.nx t) L := rfl
theorem ev_ret {e : I} : dS cf cn (.ret e) t L = (dE cf cn e t L).st t kret := rfl
theorem ek_ret {x : D} : kret x L = .ok (.rt x) L := rfl
theorem ev_retn : dS cf cn .retn t L = .ok (.rt (.p .non)) L := rfl
theorem ev_if {c a b : I} : dS cf cn (.if_ c a b) t L = (dT cf cn c t L).st t (kif cf cn a b t) := rfl
theorem ek_if1 {a b : I} : kif cf cn a b t true L = dS cf cn a t L := rfl
theorem ek_if0 {a b : I} : kif cf cn a b t false L = dS cf cn b t L := rfl
theorem ev_for {g it b : I} : dS cf cn (.for_ g it b) t L = (dI cf cn it t L).st t (kfor cf cn g b t) := rfl
theorem ek_for {g b : I} {xs : List P} : kfor cf cn g b t xs L = forL (forB cf cn g b) xs t L := rfl
theorem ev_brk : dS cf cn .brk t L = .ok (.bk t) L := rfl
theorem ev_cont : dS cf cn .cont t L = .ok (.ct t) L := rfl
theorem ev_while {c b : I} : dS cf cn (.while_ c b) t L = whileL (dT cf cn c) (dS cf cn b) 1000000 t L := rfl
theorem ev_frz {i : Nat} : dS cf cn (.frz i) t L = kfrz i t t[i]? L := rfl
theorem ek_frz {i n : Nat} : kfrz i t (some (.v (.ref n))) L = kfrz2 i t n L[n]? L := rfl
theorem ek_frzp {i : Nat} {x : P} : kfrz i t (some (.v (.p x))) L = .ok (.nx t) L := rfl
theorem ek_frz2 {i n : Nat} {xs : List P} : kfrz2 i t n (some (.lst xs)) L = .ok (.nx (t.set i (.v (.p (.lst xs))))) (L.set n .dead) := rfl
theorem ev_raise {x c : Nat} {k : Xk} {as : I} : dS cf cn (.raise x c k as) t L = (dA cf cn as t L).st t (kraise c k t) := rfl
theorem ek_raise {c : Nat} {k : Xk} {xs : List Sl} : kraise c k t xs L = kraise2 c t (xcD k xs) L := rfl
theorem ek_raise2 {c : Nat} {fs : Flds} : kraise2 c t (some fs) L = .ex c fs t L := rfl
theorem ek_xp0 : xcD .plain [] = some [] := rfl
theorem ek_xp1 {x : P} : xcD .plain [.v (.p x)] = some [] := rfl
theorem ev_try {b s : I} {x i : Nat} {ks : List (Nat × Bool)} : dS cf cn (.try_ b x ks i s) t L = tryS ks i (dS cf cn s) (dS cf cn b t L) := rfl
theorem ek_try0 {s : Sg → Hl → RS2} {i : Nat} {ks : List (Nat × Bool)} {f : Fl} : tryS ks i s (.ok f L) = .ok f L := rfl
theorem ek_tryx {s : Sg → Hl → RS2} {i c : Nat} {ks : List (Nat × Bool)} {fs : Flds} : tryS ks i s (.ex c fs t L) = ktry i c fs s t L (ks.lookup c) := rfl
theorem ek_try1 {s : Sg → Hl → RS2} {i c : Nat} {fs : Flds} : ktry i c fs s t L (some true) = kend i (s (t.set i (.e c fs)) L) := rfl
theorem ek_tryf {s : Sg → Hl → RS2} {i c : Nat} {fs : Flds} : ktry i c fs s t L (some false) = .ex c fs t L := rfl
theorem ek_endr {i : Nat} {d : D} : kend i (.ok (.rt d) L) = .ok (.rt d) L := rfl
theorem ek_endn {i : Nat} : kend i (.ok (.nx t) L) = .ok (.nx ((t.map clr).set i .u)) L := rfl
theorem ek_endb {i : Nat} : kend i (.ok (.bk t) L) = .ok (.bk ((t.map clr).set i .u)) L := rfl
theorem ek_endc {i : Nat} : kend i (.ok (.ct t) L) = .ok (.ct ((t.map clr).set i .u)) L := rfl

theorem ev_forB {i : Nat} {b : I} {x : P} : forB cf cn (.gn i) b x t L = dS cf cn b (t.set i (.v (.p x))) L := rfl
theorem ev_forB2 {i j : Nat} {b : I} {x y : P} : forB cf cn (.gt (.cons (.gn i) (.cons (.gn j) .nil))) b (.tup [x, y]) t L = dS cf cn b ((t.set i (.v (.p x))).set j (.v (.p y))) L := rfl
theorem ev_tB {i : Nat} {ws : List Nat} {c e : I} {x : P} : tB cf cn t ws (.gn i) c e x L = (dT cf cn c ((wipeS t ws).set i (.v (.p x))) L).bind (ktB cf cn e ((wipeS t ws).set i (.v (.p x)))) := rfl
theorem ek_tB1 {e : I} : ktB cf cn e t true L = (dE cf cn e t L).bind ktB2 := rfl
theorem ek_tB0 {e : I} : ktB cf cn e t false L = .ok none L := rfl
theorem ek_tB2 {x : P} : ktB2 (.p x) L = .ok (some x) L := rfl
theorem gv_0 {d : D} {r : Sg} : getV (.v d :: r) 0 L = .ok d L := rfl
theorem gv_s {x : Sl} {r : Sg} {n : Nat} : getV (x :: r) (n + 1) L = getV r n L := rfl
end
theorem tv_ok {cf : Nat → List Sl → Hl → R D} {cn : Nat → Option P} {t : Sg} {L : Hl} {i : Nat} {d : D} (h : t[i]? = some (.v d)) : getV t i L = .ok d L := by unfold getV; rw [h]
section
variable {L : Hl}
theorem op_add {m : Bool} {i j : Int} : opD (.add m) (.p (.int i)) (.p (.int j)) L = .ok (.p (.int (i + j))) L := rfl
theorem op_sub {i j : Int} : opD .sub (.p (.int i)) (.p (.int j)) L = .ok (.p (.int (i - j))) L := rfl
theorem op_mul {m : Bool} {i j : Int} (h : i.natAbs.log2 + j.natAbs.log2 < 1000000) : opD (.mul m) (.p (.int i)) (.p (.int j)) L = .ok (.p (.int (i * j))) L := if_pos h
theorem op_fdiv {i j : Int} (h : 0 < j) (h2 : j.natAbs.log2 < 9000) : opD .fdiv (.p (.int i)) (.p (.int j)) L = .ok (.p (.int (i / j))) L := if_pos ⟨h, h2⟩
theorem op_fdivs {i j : Int} (h : 0 < j) (h2 : j < 1152921504606846976) : opD .fdiv (.p (.int i)) (.p (.int j)) L = .ok (.p (.int (i / j))) L := op_fdiv h (by
  have : j.natAbs < 2 ^ 60 := by omega
  by_cases h0 : j.natAbs = 0
  · rw [h0]; decide
  · exact Nat.lt_trans ((Nat.log2_lt h0).mpr this) (by decide))
theorem op_mod {i j : Int} (h : 0 < j) : opD .mod (.p (.int i)) (.p (.int j)) L = .ok (.p (.int (i % j))) L := if_pos h
theorem op_pow {i j : Int} (h : 0 ≤ j) (h2 : j ≤ 1000000) (h3 : i.natAbs < 2 ^ 64) : opD .pow (.p (.int i)) (.p (.int j)) L = .ok (.p (.int (i ^ j.toNat))) L := if_pos ⟨h, h2, h3⟩
theorem op_lt {i j : Int} : opD .lt (.p (.int i)) (.p (.int j)) L = .ok (.p (.bl (decide (i < j)))) L := rfl
theorem op_le {i j : Int} : opD .le (.p (.int i)) (.p (.int j)) L = .ok (.p (.bl (decide (i ≤ j)))) L := rfl
theorem op_gt {i j : Int} : opD .gt (.p (.int i)) (.p (.int j)) L = .ok (.p (.bl (decide (j < i)))) L := rfl
theorem op_ge {i j : Int} : opD .ge (.p (.int i)) (.p (.int j)) L = .ok (.p (.bl (decide (j ≤ i)))) L := rfl
theorem op_eqi {i j : Int} : opD .eq (.p (.int i)) (.p (.int j)) L = .ok (.p (.bl (decide (i = j)))) L := rfl
theorem op_eqb {i j : Bool} : opD .eq (.p (.bl i)) (.p (.bl j)) L = .ok (.p (.bl (decide (i = j)))) L := rfl
theorem op_eqs {i j : Str} : opD .eq (.p (.str i)) (.p (.str j)) L = .ok (.p (.bl (decide (i = j)))) L := rfl
theorem op_nei {i j : Int} : opD .ne (.p (.int i)) (.p (.int j)) L = .ok (.p (.bl (!decide (i = j)))) L := rfl
theorem op_neb {i j : Bool} : opD .ne (.p (.bl i)) (.p (.bl j)) L = .ok (.p (.bl (!decide (i = j)))) L := rfl
theorem op_nes {i j : Str} : opD .ne (.p (.str i)) (.p (.str j)) L = .ok (.p (.bl (!decide (i = j)))) L := rfl
theorem op_addl {i j : List P} (h : i.length + j.length ≤ sizeLine) : opD (.add false) (.p (.lst i)) (.p (.lst j)) L = .ok (.p (.lst (i ++ j))) L := if_pos h
theorem op_addt {m : Bool} {i j : List P} (h : i.length + j.length ≤ sizeLine) : opD (.add m) (.p (.tup i)) (.p (.tup j)) L = .ok (.p (.tup (i ++ j))) L := if_pos h
theorem op_adds {m : Bool} {i j : Str} (h : i.length + j.length ≤ sizeLine) : opD (.add m) (.p (.str i)) (.p (.str j)) L = .ok (.p (.str (i ++ j))) L := if_pos h
theorem op_eq {x y : D} {a b : P} {q : Bool} (h1 : look L x = some a) (h2 : look L y = some b) (h : eqP a b = some q) : opD .eq x y L = .ok (.p (.bl q)) L := by
  show (match look L x, look L y with
    | some a, some b => blR (eqP a b) L
    | _, _ => .bad) = _
  rw [h1, h2]; show blR (eqP a b) L = _; rw [h]; rfl
theorem op_ne {x y : D} {a b : P} {q : Bool} (h1 : look L x = some a) (h2 : look L y = some b) (h : eqP a b = some q) : opD .ne x y L = .ok (.p (.bl (!q))) L := by
  show (match look L x, look L y with
    | some a, some b => blR ((eqP a b).map (!·)) L
    | _, _ => .bad) = _
  rw [h1, h2]; show blR ((eqP a b).map (!·)) L = _; rw [h]; rfl
theorem op_eqll {a b : List P} {q : Bool} (h : eqP (.lst a) (.lst b) = some q) : opD .eq (.p (.lst a)) (.p (.lst b)) L = .ok (.p (.bl q)) L := op_eq rfl rfl h
theorem op_nell {a b : List P} {q : Bool} (h : eqP (.lst a) (.lst b) = some q) : opD .ne (.p (.lst a)) (.p (.lst b)) L = .ok (.p (.bl (!q))) L := op_ne rfl rfl h
theorem op_eqtt {a b : List P} {q : Bool} (h : eqP (.tup a) (.tup b) = some q) : opD .eq (.p (.tup a)) (.p (.tup b)) L = .ok (.p (.bl q)) L := op_eq rfl rfl h
theorem op_nett {a b : List P} {q : Bool} (h : eqP (.tup a) (.tup b) = some q) : opD .ne (.p (.tup a)) (.p (.tup b)) L = .ok (.p (.bl (!q))) L := op_ne rfl rfl h
theorem tr_bl {b : Bool} : truD L (.p (.bl b)) = some b := rfl
theorem tr_non : truD L (.p .non) = some false := rfl
theorem tr_int {i : Int} : truD L (.p (.int i)) = some (i != 0) := rfl
theorem tr_lst {xs : List P} : truD L (.p (.lst xs)) = some (!xs.isEmpty) := rfl
theorem tr_tup {xs : List P} : truD L (.p (.tup xs)) = some (!xs.isEmpty) := rfl
theorem va_nil : vals [] = some [] := rfl
theorem va_cons {x : D} {r : List Sl} : vals (.v x :: r) = (vals r).map (x :: ·) := rfl
theorem pu_nil : pures [] = some [] := rfl
theorem pu_cons {x : P} {r : List Sl} : pures (.v (.p x) :: r) = (pures r).map (x :: ·) := rfl
theorem bi_lenl {xs : List P} : biD .len [.p (.lst xs)] L = .ok (.p (.int xs.length)) L := rfl
theorem bi_lent {xs : List P} : biD .len [.p (.tup xs)] L = .ok (.p (.int xs.length)) L := rfl
theorem bi_lenr {xs : List P} : biD .len [.p (.rol xs)] L = .ok (.p (.int xs.length)) L := rfl
theorem bi_lenp {n : Nat} : biD .len [.ref n] L = klenr L[n]? L := by
  show (match rdQ L (.ref n) with
      | some xs => R.ok (α := D) (.p (.int xs.length)) L
      | none => (match rdK L (.ref n) with
        | some xs => .ok (.p (.int xs.length)) L
        | none => .bad)) = _
  unfold rdQ rdK klenr
  dsimp only
  cases h : L[n]? with
  | none => rfl
  | some o => cases o <;> rfl
theorem ek_lenr {xs : List P} : klenr (some (.lst xs)) L = .ok (.p (.int xs.length)) L := rfl
theorem bi_int {i : Int} : biD .int [.p (.int i)] L = .ok (.p (.int i)) L := rfl
theorem bi_min {i j : Int} : biD .min [.p (.int i), .p (.int j)] L = .ok (.p (.int (if j < i then j else i))) L := rfl
theorem bi_max {i j : Int} : biD .max [.p (.int i), .p (.int j)] L = .ok (.p (.int (if j > i then j else i))) L := rfl
theorem bi_listl {m : Bool} {xs : List P} : biD (.list m) [.p (.lst xs)] L = newL m xs L := rfl
theorem bi_listt {m : Bool} {xs : List P} : biD (.list m) [.p (.tup xs)] L = newL m xs L := rfl
theorem bi_tupl {xs : List P} : biD .tup [.p (.lst xs)] L = .ok (.p (.tup xs)) L := rfl
theorem bi_tupt {xs : List P} : biD .tup [.p (.tup xs)] L = .ok (.p (.tup xs)) L := rfl
def ktupr (o : Option O) (L : Hl) : R D := match o with
  | some (.lst xs) => .ok (.p (.tup xs)) L
  | _ => .bad
theorem bi_tupp {n : Nat} : biD .tup [.ref n] L = ktupr L[n]? L := by
  show (match rdQ L (.ref n) with
    | some xs => R.ok (α := D) (.p (.tup xs)) L
    | none => .bad) = _
  unfold rdQ ktupr
  dsimp only
  cases h : L[n]? with
  | none => rfl
  | some o => cases o <;> rfl
theorem ek_tupr {xs : List P} : ktupr (some (.lst xs)) L = .ok (.p (.tup xs)) L := rfl
def klisr (m : Bool) (o : Option O) (L : Hl) : R D := match o with
  | some (.lst xs) => newL m xs L
  | _ => .bad
theorem bi_lisp {m : Bool} {n : Nat} : biD (.list m) [.ref n] L = klisr m L[n]? L := by
  show (match rdQ L (.ref n) with
    | some xs => newL m xs L
    | none => .bad) = _
  unfold rdQ klisr
  dsimp only
  cases h : L[n]? with
  | none => rfl
  | some o => cases o <;> rfl
theorem ek_lisr {m : Bool} {xs : List P} : klisr m (some (.lst xs)) L = newL m xs L := rfl
theorem bi_str {i : Int} (h : i.natAbs.log2 < 1920) : biD .str [.p (.int i)] L = .ok (.p (.str (toString i))) L := if_pos h
theorem new_f {xs : List P} : newL false xs L = .ok (.p (.lst xs)) L := rfl
theorem new_t {xs : List P} : newL true xs L = .ok (.ref L.length) (L ++ [.lst xs]) := rfl
theorem newK_f : newK false [] L = .ok (.p (.dct [])) L := rfl
theorem ix_q {x : D} {xs : List P} {k : Int} {y : P} (hs : isStrD x = false) (h : rdQ L x = some xs) (h2 : atP xs k = some y) : ixD x (.p (.int k)) L = .ok (.p y) L := by
  have go : ∀ x : D, isStrD x = false → ixD x (.p (.int k)) L = (match rdQ L x with
    | some xs => (match atP xs k with
      | some y => R.ok (α := D) (.p y) L
      | none => .bad)
    | none => .bad) := fun x hx => by
    cases x with
    | p x => cases x <;> first | rfl | cases hx
    | ref n => rfl
  rw [go x hs, h]; show (match atP xs k with
      | some y => R.ok (α := D) (.p y) L
      | none => .bad) = _
  rw [h2]
theorem ix_t {xs : List P} {k : Int} : ixD (.p (.tup xs)) (.p (.int k)) L = ofO (atP xs k) L := rfl
theorem ix_l {xs : List P} {k : Int} : ixD (.p (.lst xs)) (.p (.int k)) L = ofO (atP xs k) L := rfl
theorem ix_r {xs : List P} {k : Int} : ixD (.p (.rol xs)) (.p (.int k)) L = ofO (atP xs k) L := rfl
theorem ix_p {n : Nat} {k : Int} : ixD (.ref n) (.p (.int k)) L = kixr k L[n]? L := by
  show (match rdQ L (.ref n) with
    | some xs => ofO (atP xs k) L
    | none => .bad) = _
  unfold rdQ kixr
  dsimp only
  cases h : L[n]? with
  | none => rfl
  | some o => cases o <;> rfl
theorem ek_ixr {k : Int} {xs : List P} : kixr k (some (.lst xs)) L = ofO (atP xs k) L := rfl
theorem at_0 {x : P} {xs : List P} : atP (x :: xs) 0 = some x := by
  unfold atP ixN
  rw [if_pos (by omega), if_pos (by simp only [List.length_cons]; omega)]; rfl
theorem at_1 {x y : P} {xs : List P} : atP (x :: y :: xs) 1 = some y := by
  unfold atP ixN
  rw [if_pos (by omega), if_pos (by simp only [List.length_cons]; omega)]; rfl
theorem at_2 {x y z : P} {xs : List P} : atP (x :: y :: z :: xs) 2 = some z := by
  unfold atP ixN
  rw [if_pos (by omega), if_pos (by simp only [List.length_cons]; omega)]; rfl
theorem at_n {xs : List P} {k : Nat} : atP xs (k : Int) = xs[k]? := by
  unfold atP ixN
  rw [if_pos (by omega)]
  by_cases h : k < xs.length
  · rw [if_pos (by omega)]; rfl
  · rw [if_neg (by omega), List.getElem?_eq_none (by omega)]; rfl
theorem at_nn {xs : List P} {k : Int} {n : Nat} {y : P} (h : k = n) (hy : xs[n]? = some y) : atP xs k = some y := by rw [h, at_n, hy]
theorem ixN_n {l k : Nat} (h : k < l) : ixN l (k : Int) = some k := by
  unfold ixN; rw [if_pos (by omega), if_pos (by omega)]; rfl
theorem set_l {n : Nat} {i x : P} : setD (.ref n) (.p i) (.p x) L = kst n i x L[n]? L := rfl
theorem ek_st {n : Nat} {k : Int} {x : P} {xs : List P} : kst n (.int k) x (some (.lst xs)) L = kst2 n x xs (ixN xs.length k) L := rfl
theorem ek_st2 {n j : Nat} {x : P} {xs : List P} : kst2 n x xs (some j) L = .ok () (L.set n (.lst (xs.set j x))) := rfl
theorem ixN_0 {l : Nat} (h : 0 < l) : ixN l 0 = some 0 := by unfold ixN; rw [if_pos (by omega), if_pos (by omega)]; rfl
theorem ixN_1 {l : Nat} (h : 1 < l) : ixN l 1 = some 1 := by unfold ixN; rw [if_pos (by omega), if_pos (by omega)]; rfl
theorem ixN_2 {l : Nat} (h : 2 < l) : ixN l 2 = some 2 := by unfold ixN; rw [if_pos (by omega), if_pos (by omega)]; rfl
theorem me_app {n : Nat} {x : P} : meD .append (.ref n) [.p x] L = kapp n x L[n]? L := rfl
theorem ek_app {n : Nat} {xs : List P} {x : P} (hl : xs.length < sizeLine) : kapp n x (some (.lst xs)) L = .ok (.p .non) (L.set n (.lst (xs ++ [x]))) := if_pos hl
theorem ty_app {n : Nat} : tyOk .append (.ref n) L = ktyl L[n]? := by
  show (rdL L (.ref n)).isSome = _
  unfold rdL ktyl
  dsimp only
  cases h : L[n]? with
  | none => rfl
  | some o => cases o <;> rfl
theorem ek_tyl {xs : List P} : ktyl (some (.lst xs)) = true := rfl
def kjoin (a : Str) (o : Option (List Str)) (L : Hl) : R D := match o with
  | some ys => if (ys.map (·.length)).sum + ys.length * a.length ≤ 16777216 then .ok (.p (.str (Txt.join a ys))) L else .bad
  | none => .bad
theorem me_joinl {a : Str} {xs : List P} : meD .join (.p (.str a)) [.p (.lst xs)] L = kjoin a (strsP xs) L := rfl
theorem ek_join {a : Str} {ys : List Str} (h : (ys.map (·.length)).sum + ys.length * a.length ≤ 16777216) : kjoin a (some ys) L = .ok (.p (.str (Txt.join a ys))) L := if_pos h
theorem ty_join {s : Str} : tyOk .join (.p (.str s)) L = true := rfl
theorem it_seql {xs : List P} : itD .seq [.p (.lst xs)] L = .ok xs L := rfl
theorem it_seqt {xs : List P} : itD .seq [.p (.tup xs)] L = .ok xs L := rfl
theorem it_seqr {xs : List P} : itD .seq [.p (.rol xs)] L = .ok xs L := rfl
def Rb (n : Nat) : Prop := n ≤ 16777216
theorem it_rngn {n : Nat} (h : Rb n) : itD .range [.p (.int (n : Int))] L = .ok (rangeP 0 n) L := by
  unfold itD rangeD
  unfold Rb at h
  dsimp only
  rw [if_pos ⟨by omega, by omega⟩, Int.toNat_natCast]
theorem it_rng {j : Int} (h : 0 ≤ j) (h2 : j ≤ 16777216) : itD .range [.p (.int j)] L = .ok (rangeP 0 j.toNat) L := if_pos ⟨by omega, by omega⟩
theorem it_rng2 {i j : Int} (h0 : -4611686018427387904 ≤ i) (h1 : i < 4611686018427387904) (h : -4611686018427387904 ≤ j) (h2 : j < 4611686018427387904) : itD .range [.p (.int i), .p (.int j)] L = .ok (rangeP i (j - i).toNat) L := if_pos ⟨by omega, by omega, by omega, by omega⟩
theorem it_rev {xs : List P} : itD .rev [.p (.lst xs)] L = .ok xs.reverse L := rfl
theorem it_revt {xs : List P} : itD .rev [.p (.tup xs)] L = .ok xs.reverse L := rfl
theorem it_ziptl {xs ys : List P} : itD .zip [.p (.tup xs), .p (.lst ys)] L = .ok ((xs.zip ys).map fun q => .tup [q.1, q.2]) L := rfl
theorem it_zipll {xs ys : List P} : itD .zip [.p (.lst xs), .p (.lst ys)] L = .ok ((xs.zip ys).map fun q => .tup [q.1, q.2]) L := rfl
theorem it_ziptt {xs ys : List P} : itD .zip [.p (.tup xs), .p (.tup ys)] L = .ok ((xs.zip ys).map fun q => .tup [q.1, q.2]) L := rfl
theorem lk_p {x : P} : look L (.p x) = some x := rfl
theorem sl_t {m : Bool} {xs : List P} {lo hi : Option Int} : slD m (.p (.tup xs)) lo hi L = .ok (.p (.tup (cutP xs lo hi))) L := rfl
theorem sl_l {xs : List P} {lo hi : Option Int} : slD false (.p (.lst xs)) lo hi L = .ok (.p (.lst (cutP xs lo hi))) L := rfl
theorem cut_to {xs : List P} {k : Nat} : cutP xs none (some (k : Int)) = xs.take k := by
  unfold cutP
  rw [HT.sIx_none, HT.sIx_nat, List.drop_zero, Nat.sub_zero]
  by_cases h : k ≤ xs.length
  · rw [Nat.min_eq_left h]
  · rw [Nat.min_eq_right (by omega), List.take_length, List.take_of_length_le (by omega)]
theorem cut_from1 {xs : List P} {k : Nat} : cutP xs (some ((k : Int) + 1)) none = xs.drop (k + 1) := by
  have : ((k : Int) + 1) = ((k + 1 : Nat) : Int) := by omega
  rw [this]
  unfold cutP
  rw [HT.sIx_none, HT.sIx_nat]
  by_cases h : k + 1 ≤ xs.length
  · rw [Nat.min_eq_left h, List.take_of_length_le (by rw [List.length_drop]; omega)]
  · rw [Nat.min_eq_right (by omega), List.drop_of_length_le (Nat.le_refl _), List.drop_of_length_le (by omega), List.take_nil]
theorem cut_1 {xs : List P} : cutP xs (some 1) none = xs.drop 1 := cut_from1 (k := 0)
theorem cut_from {xs : List P} {k : Nat} : cutP xs (some (k : Int)) none = xs.drop k := by
  unfold cutP
  rw [HT.sIx_none, HT.sIx_nat]
  by_cases h : k ≤ xs.length
  · rw [Nat.min_eq_left h, List.take_of_length_le (by rw [List.length_drop]; omega)]
  · rw [Nat.min_eq_right (by omega), List.drop_of_length_le (Nat.le_refl _), List.drop_of_length_le (by omega), List.take_nil]
end
/-! ends of calls -/
theorem all_take {n : Nat} {p : O → Bool} {L : Hl} (h : L.all p = true) : (L.take n).all p = true := by
  rw [List.all_eq_true] at h ⊢
  exact fun x hx => h x (List.mem_of_mem_take hx)
theorem en_rt {n : Nat} {d : D} {L : Hl} (h : n = L.length) : endD n (.ok (.rt d) L) = .ok d L := by
  subst h; unfold endD; simp
theorem en_nx {n : Nat} {t : Sg} {L : Hl} (h : n = L.length) : endD n (.ok (.nx t) L) = .ok (.p .non) L := by
  subst h; unfold endD; simp
theorem en_ex {n c : Nat} {fs : Flds} {t : Sg} {L : Hl} (h : n = L.length) : endD n (.ex c fs t L) = .ex c fs L := by
  subst h; unfold endD; simp
/-- no object of the heap names another -/
def Clo (L : Hl) : Prop := ∀ n, L.length ≤ n → L.all (closedO n) = true
theorem en_rtN {L M : Hl} {x : P} (h : Clo L) : endD L.length (.ok (.rt (.p x)) (L ++ M)) = .ok (.p x) L := by
  unfold endD
  have e : (L ++ M).take L.length = L := List.take_left ..
  rw [show (RS2.ok (.rt (.p x)) (L ++ M) : RS2) = .ok (.rt (.p x)) (L ++ M) from rfl]
  dsimp only
  rw [e, h _ (Nat.le_refl _)]; rfl
theorem en_exN {L M : Hl} {c : Nat} {fs : Flds} {t : Sg} (h : Clo L) : endD L.length (.ex c fs t (L ++ M)) = .ex c fs L := by
  unfold endD
  have e : (L ++ M).take L.length = L := List.take_left ..
  dsimp only
  rw [e, h _ (Nat.le_refl _)]; rfl
/-- the first object changed, new ones gone -/
def TC (T : Hl) : Prop := ∀ n, T.all (closedO n) = true
theorem en_rtB {b' : List P} {T M : Hl} {x : P} {n : Nat} (hn : n = T.length + 1) (h : TC T) : endD n (.ok (.rt (.p x)) (.lst b' :: (T ++ M))) = .ok (.p x) (.lst b' :: T) := by
  subst hn
  unfold endD
  have e : (O.lst b' :: (T ++ M)).take (T.length + 1) = .lst b' :: T := by rw [List.take_succ_cons, List.take_left ..]
  dsimp only
  rw [e]
  have : (O.lst b' :: T).all (closedO (T.length + 1)) = true := by
    rw [List.all_cons]; simp only [closedO, Bool.true_and]; exact h _
  rw [this]; rfl
theorem tc_nil : TC [] := fun _ => rfl
theorem tc_dead {T : Hl} (h : TC T) : TC (T ++ [.dead]) := fun n => by
  rw [List.all_append, h n]; rfl
theorem tc_lst {T : Hl} {xs : List P} (h : TC T) : TC (T ++ [.lst xs]) := fun n => by
  rw [List.all_append, h n]; rfl
theorem cl_nil : Clo [] := fun _ _ => rfl
theorem cl_lst {L : Hl} {xs : List P} (h : ∀ n, L.all (closedO n) = true) : Clo (.lst xs :: L) := fun n hn => by
  rw [List.all_cons]; simp only [closedO, Bool.true_and]; exact h n
theorem cl_1 {xs : List P} : Clo [.lst xs] := cl_lst fun _ => rfl
theorem hl_get {L : Hl} {x : O} : (L ++ [x])[L.length]? = some x := by simp
theorem hl_set {L : Hl} {x y : O} : (L ++ [x]).set L.length y = L ++ [y] := by simp
/-! loops -/
theorem for_ind {b : P → Sg → Hl → RS2} (J : Nat → Sg → Hl → Prop) (Q : RS2 → Prop) : ∀ (xs : List P) (k : Nat) (t : Sg) (L : Hl), J k t L →
    (∀ (i : Nat) (x : P) (t : Sg) (L : Hl), xs[i]? = some x → J (k + i) t L → (∃ t' L', (b x t L = .ok (.nx t') L' ∨ b x t L = .ok (.ct t') L') ∧ J (k + i + 1) t' L') ∨ (∃ d L', b x t L = .ok (.rt d) L' ∧ Q (.ok (.rt d) L')) ∨ (∃ c fs t' L', b x t L = .ex c fs t' L' ∧ Q (.ex c fs t' L')) ∨ (∃ t' L', b x t L = .ok (.bk t') L' ∧ Q (.ok (.nx t') L'))) →
    (∃ t' L', forL b xs t L = .ok (.nx t') L' ∧ J (k + xs.length) t' L') ∨ Q (forL b xs t L)
  | [], k, t, L, h, _ => .inl ⟨t, L, rfl, h⟩
  | x :: xs, k, t, L, h, s => by
    have s0 := s 0 x t L rfl h
    unfold forL
    rcases s0 with ⟨t', L', e, h'⟩ | ⟨d, L', e, q⟩ | ⟨c, fs, t', L', e, q⟩ | ⟨t', L', e, q⟩
    · have := for_ind J Q xs (k + 1) t' L' h' fun i y u M hy hJ => by
        have := s (i + 1) y u M (by simpa using hy) (by rw [show k + (i + 1) = k + 1 + i by omega]; exact hJ)
        rwa [show k + (i + 1) + 1 = k + 1 + i + 1 by omega] at this
      rw [show k + (x :: xs).length = k + 1 + xs.length by simp; omega]
      rcases e with e | e <;> (rw [e]; exact this)
    · rw [e]; exact .inr q
    · rw [e]; exact .inr q
    · rw [e]; exact .inr q
/-- a loop that runs to its end -/
theorem for_all {b : P → Sg → Hl → RS2} (J : Nat → Sg → Hl → Prop) {xs : List P} {t : Sg} {L : Hl} (h : J 0 t L)
    (s : ∀ (i : Nat) (x : P) (t : Sg) (L : Hl), xs[i]? = some x → J i t L → ∃ t' L', b x t L = .ok (.nx t') L' ∧ J (i + 1) t' L') :
    ∃ t' L', forL b xs t L = .ok (.nx t') L' ∧ J xs.length t' L' := by
  have := for_ind (b := b) J (fun _ => False) xs 0 t L h fun i x t L hx hJ => by
    rw [Nat.zero_add] at hJ
    obtain ⟨t', L', e, h'⟩ := s i x t L hx hJ
    exact .inl ⟨t', L', .inl e, by rw [Nat.zero_add]; exact h'⟩
  rcases this with ⟨t', L', e, h'⟩ | h
  · exact ⟨t', L', e, by rwa [Nat.zero_add] at h'⟩
  · exact h.elim
theorem comp_go {turn : P → Hl → R (Option P)} {f : P → P} {L : Hl} : ∀ (xs acc : List P), (∀ x ∈ xs, ∀ acc, turn x (L ++ [.lst acc]) = .ok (some (f x)) (L ++ [.lst acc])) → acc.length + xs.length ≤ sizeLine → compL turn L.length xs (L ++ [.lst acc]) = .ok () (L ++ [.lst (acc ++ xs.map f)])
  | [], acc, _, _ => by simp [compL]
  | x :: xs, acc, h, hl => by
    unfold compL
    rw [h x List.mem_cons_self acc, R.nox_ok, R.bind_ok]
    dsimp only
    rw [hl_get]
    dsimp only
    rw [if_pos (by simp at hl; omega), hl_set, comp_go xs (acc ++ [f x]) (fun y hy => h y (List.mem_cons_of_mem _ hy)) (by simp at hl ⊢; omega)]
    simp
theorem comp_all {turn : P → Hl → R (Option P)} (f : P → P) {L : Hl} {xs : List P} (h : ∀ x ∈ xs, ∀ acc, turn x (L ++ [.lst acc]) = .ok (some (f x)) (L ++ [.lst acc])) (hl : xs.length ≤ sizeLine) : compL turn L.length xs (L ++ [.lst []]) = .ok () (L ++ [.lst (xs.map f)]) := by
  have := comp_go (f := f) xs [] h (by simpa using hl)
  simpa using this
theorem comp_end {L : Hl} {ys : List P} (h : Clo L) : compEnd false L.length (L ++ [.lst ys]) = .ok (.p (.lst ys)) L := by
  unfold compEnd
  rw [hl_get]
  dsimp only
  rw [if_neg (by decide)]
  have e : (L ++ [O.lst ys]).take L.length = L := List.take_left ..
  rw [e, if_pos (h _ (Nat.le_refl _))]
theorem comp_endT {L : Hl} {ys : List P} : compEnd true L.length (L ++ [.lst ys]) = .ok (.ref L.length) (L ++ [.lst ys]) := by
  unfold compEnd
  rw [hl_get]; rfl
/-- a loop over a list with one thing to say of each -/
theorem for_mem {b : P → Sg → Hl → RS2} (J : Sg → Prop) {L : Hl} : ∀ {xs : List P} {t : Sg}, J t → (∀ x ∈ xs, ∀ t, J t → ∃ t', b x t L = .ok (.nx t') L ∧ J t') → ∃ t', forL b xs t L = .ok (.nx t') L ∧ J t'
  | [], t, h, _ => ⟨t, rfl, h⟩
  | x :: xs, t, h, s => by
    obtain ⟨t', e, h'⟩ := s x List.mem_cons_self t h
    obtain ⟨t2, e2, h2⟩ := for_mem (b := b) J (L := L) (xs := xs) h' fun y hy => s y (List.mem_cons_of_mem _ hy)
    exact ⟨t2, by rw [forL, e]; exact e2, h2⟩
theorem str_len {i : Int} {k : Nat} (h0 : 0 ≤ i) (h : i.toNat < 10 ^ k) (hk : 0 < k) : (Str.ofString (toString i)).length ≤ k := by
  obtain ⟨m, rfl⟩ := Int.eq_ofNat_of_zero_le h0
  unfold Str.length
  rw [Str.ofString_eq_toList]
  show ((Nat.repr m).toList.map Char.toNat).toArray.size ≤ k
  rw [List.size_toArray, List.length_map, Nat.toList_repr]
  exact (Nat.length_toDigits_le_iff (by decide) hk).mpr (by simpa using h)
/-! lists of ints -/
abbrev iP (xs : List Int) : List P := xs.map P.int
theorem toYs_ints : ∀ xs : List Int, toYs (iP xs) = some (xs.map PyData.int)
  | [] => by rw [iP, List.map_nil, toYs]; rfl
  | x :: xs => by
    rw [iP, List.map_cons, toYs, toY, toYs_ints xs]; rfl
theorem can_ints : ∀ xs : List Int, PyData.canLayAll0 (xs.map PyData.int) = true
  | [] => by simp only [List.map_nil, PyData.canLayAll0]
  | x :: xs => by simp only [List.map_cons, PyData.canLayAll0, PyData.canLay0, can_ints xs, Bool.and_self]
theorem eqv_ints : ∀ xs ys : List Int, PyData.eqvAll (xs.map PyData.int) (ys.map PyData.int) = decide (xs = ys)
  | [], [] => by simp [PyData.eqvAll]
  | [], _ :: _ => by simp [PyData.eqvAll]
  | _ :: _, [] => by simp [PyData.eqvAll]
  | x :: xs, y :: ys => by
    simp only [List.map_cons, PyData.eqvAll, PyData.eqv, eqv_ints xs ys, List.cons.injEq, Bool.decide_and]
    rfl
theorem dep_ints : ∀ xs : List Int, PyData.depthAll (xs.map PyData.int) = 0
  | [] => by simp only [List.map_nil, PyData.depthAll]
  | x :: xs => by simp only [List.map_cons, PyData.depthAll, PyData.depth, dep_ints xs, Nat.max_self]
theorem shl_ints (xs : List Int) : SeqAt.shaped (.list (xs.map PyData.int)) = true := by
  unfold SeqAt.shaped
  simp only [PyData.canLay0, can_ints, PyData.depth, dep_ints, Bool.true_and]
  decide
theorem sht_ints (xs : List Int) : SeqAt.shaped (.tuple (xs.map PyData.int)) = true := by
  unfold SeqAt.shaped
  simp only [PyData.canLay0, can_ints, PyData.depth, dep_ints, Bool.true_and]
  decide
theorem eqP_lst {a b : List Int} : eqP (.lst (iP a)) (.lst (iP b)) = some (decide (a = b)) := by
  have h : ∀ xs : List Int, toY (.lst (iP xs)) = some (.list (xs.map PyData.int)) := fun xs => by rw [toY, toYs_ints]; rfl
  show (match toY (.lst (iP a)), toY (.lst (iP b)) with
    | some d, some e => if SeqAt.shaped d && SeqAt.shaped e then some (PyData.eqv d e) else none
    | _, _ => none) = _
  rw [h, h]
  dsimp only
  rw [shl_ints, shl_ints, Bool.and_self, if_pos rfl, PyData.eqv, eqv_ints]
theorem eqP_tup {a b : List Int} : eqP (.tup (iP a)) (.tup (iP b)) = some (decide (a = b)) := by
  have h : ∀ xs : List Int, toY (.tup (iP xs)) = some (.tuple (xs.map PyData.int)) := fun xs => by rw [toY, toYs_ints]; rfl
  show (match toY (.tup (iP a)), toY (.tup (iP b)) with
    | some d, some e => if SeqAt.shaped d && SeqAt.shaped e then some (PyData.eqv d e) else none
    | _, _ => none) = _
  rw [h, h]
  dsimp only
  rw [sht_ints, sht_ints, Bool.and_self, if_pos rfl, PyData.eqv, eqv_ints]
theorem op_eqL {L : Hl} {a b : List Int} : opD .eq (.p (.lst (iP a))) (.p (.lst (iP b))) L = .ok (.p (.bl (decide (a = b)))) L := op_eqll eqP_lst
theorem op_neL {L : Hl} {a b : List Int} : opD .ne (.p (.lst (iP a))) (.p (.lst (iP b))) L = .ok (.p (.bl (!decide (a = b)))) L := op_nell eqP_lst
theorem op_eqT {L : Hl} {a b : List Int} : opD .eq (.p (.tup (iP a))) (.p (.tup (iP b))) L = .ok (.p (.bl (decide (a = b)))) L := op_eqtt eqP_tup
theorem op_neT {L : Hl} {a b : List Int} : opD .ne (.p (.tup (iP a))) (.p (.tup (iP b))) L = .ok (.p (.bl (!decide (a = b)))) L := op_nett eqP_tup
end Fk

set_option Elab.async false
set_option linter.all false
set_option autoImplicit false
set_option maxRecDepth 100000
set_option maxHeartbeats 2000000
/-! Fk 6: more expressions -/
namespace Fk
open PySem PySem.Spec PyProof.Rows L2
section
variable {S : Stc} {G : Gm} {cf : Nat → List Sl → Hl → R D} {X : Cx} {sc sf : Scope} {N : List Str} {cm : Bool} {W : WX} {pos : Pos}
theorem isEmpty_RPs {F : Hp} {xs : List P} {vs : List V} (t : RPs G F xs vs) : xs.isEmpty = vs.isEmpty := by
  cases t <;> rfl
theorem isEmpty_RPk {F : Hp} {xs : List (P × P)} {vs : List (Key × V)} (t : RPk G F xs vs) : xs.isEmpty = vs.isEmpty := by
  cases t <;> rfl
theorem RPk.len {F : Hp} : ∀ {xs : List (P × P)} {vs : List (Key × V)}, RPk G F xs vs → xs.length = vs.length
  | _, _, .nil => rfl
  | _, _, .cons _ _ t => congrArg (· + 1) (RPk.len t)
theorem tru {F : Hp} {r : Rho} {H : Hp} {L : Hl} {x : D} {v : V} {b : Bool} (R : Rel G F r H L) (h : RD G F r x v) (e : truD L x = some b) : TruV G.K v H b := by
  have seq : ∀ {xs : List P}, rdL L x = some xs → some (!xs.isEmpty) = some b → TruV G.K v H b := fun {xs} e1 e2 => by
    cases e2
    obtain ⟨a, vs, rfl, q, t⟩ := rdL_ok R h e1
    exact .inl ⟨vs, .inl (.inl q), by rw [isEmpty_RPs t]⟩
  have dic : ∀ {xs : List (P × P)}, rdK L x = some xs → some (!xs.isEmpty) = some b → TruV G.K v H b := fun {xs} e1 e2 => by
    cases e2
    obtain ⟨a, vs, rfl, q, t⟩ := rdK_ok R h e1
    exact .inr (.inr ⟨vs, q, by rw [isEmpty_RPk t]⟩)
  unfold truD at e
  split at e
  · cases e; cases h with | p h => cases h; rfl
  · cases e; cases h with | p h => cases h; rfl
  · cases e; cases h with | p h => cases h; rfl
  · split at e
    · cases e; cases h with | p h => cases h; exact ⟨‹_›, rfl⟩
    · cases e
  · cases e
    cases h with | p h => cases h with | tup q t => exact .inr (.inl ⟨_, SqT.same R.sub q, by rw [isEmpty_RPs t]⟩)
  · cases e
    cases h with | p h => cases h with | rol q t => exact .inl ⟨_, R.sub.seq q, by rw [isEmpty_RPs t]⟩
  · split at e
    · exact seq ‹_› e
    · split at e
      · exact dic ‹_› e
      · cases e
theorem s_neg (C : Ck S G cf X sc sf N cm W) {a : Expr} {ka : I} (ha : PE X a (tE G cf (cnOf S) W ka)) : PE X (.UnaryOp .USub a pos) (tE G cf (cnOf S) W (.neg ka)) :=
  peW (pe_un un_neg ha) fun σ H Q q => by
    obtain ⟨F, r, t, L, hs, R, po⟩ := q
    simp only [dE] at po
    refine tR.mk hs R (Po.step po fun x H1 F1 r1 a L1 _ s1 p1 R1 ra po1 => ?_)
    split at po1
    · exact ⟨_, pI ra rfl, Po.ok po1 R1 (.p (.int _))⟩
    · exact po1.elim
theorem s_not (C : Ck S G cf X sc sf N cm W) {a : Expr} {ka : I} (ha : PE X a (tE G cf (cnOf S) W ka)) : PE X (.UnaryOp .Not a pos) (tE G cf (cnOf S) W (.notv ka)) :=
  peW (pe_notT ha) fun σ H Q q => by
    obtain ⟨F, r, t, L, hs, R, po⟩ := q
    simp only [dE] at po
    refine tR.mk hs R (Po.step po fun x H1 F1 r1 a L1 _ s1 p1 R1 ra po1 => ?_)
    split at po1
    · exact ⟨_, by rw [C.eK]; exact tru R1 ra ‹_›, Po.ok po1 R1 (.p (.bl _))⟩
    · exact po1.elim
theorem s_and (C : Ck S G cf X sc sf N cm W) {a b : Expr} {rest : List Expr} {ka kb : I} (ha : PE X a (tE G cf (cnOf S) W ka)) (hb : PE X (.BoolOp .And (b :: rest) pos) (tE G cf (cnOf S) W kb)) :
    PE X (.BoolOp .And (a :: b :: rest) pos) (tE G cf (cnOf S) W (.andv ka kb)) :=
  peW (pe_andT ha hb) fun σ H Q q => by
    obtain ⟨F, r, t, L, hs, R, po⟩ := q
    simp only [dE] at po
    refine tR.mk hs R (Po.step po fun x H1 F1 r1 a L1 _ s1 p1 R1 ra po1 => ?_)
    split at po1
    · exact ⟨true, by rw [C.eK]; exact tru R1 ra ‹_›, iteT (tR.mk (hs.mono s1 p1) R1 po1)⟩
    · exact ⟨false, by rw [C.eK]; exact tru R1 ra ‹_›, iteF (Po.ok po1 R1 ra)⟩
    · exact po1.elim
theorem s_or (C : Ck S G cf X sc sf N cm W) {a b : Expr} {rest : List Expr} {ka kb : I} (ha : PE X a (tE G cf (cnOf S) W ka)) (hb : PE X (.BoolOp .Or (b :: rest) pos) (tE G cf (cnOf S) W kb)) :
    PE X (.BoolOp .Or (a :: b :: rest) pos) (tE G cf (cnOf S) W (.orv ka kb)) :=
  peW (pe_orT ha hb) fun σ H Q q => by
    obtain ⟨F, r, t, L, hs, R, po⟩ := q
    simp only [dE] at po
    refine tR.mk hs R (Po.step po fun x H1 F1 r1 a L1 _ s1 p1 R1 ra po1 => ?_)
    split at po1
    · exact ⟨true, by rw [C.eK]; exact tru R1 ra ‹_›, iteT (Po.ok po1 R1 ra)⟩
    · exact ⟨false, by rw [C.eK]; exact tru R1 ra ‹_›, iteF (tR.mk (hs.mono s1 p1) R1 po1)⟩
    · exact po1.elim
theorem s_ite (C : Ck S G cf X sc sf N cm W) {c a b : Expr} {kc ka kb : I} (hc : PT X c (tT G cf (cnOf S) W kc)) (ha : PE X a (tE G cf (cnOf S) W ka)) (hb : PE X b (tE G cf (cnOf S) W kb)) :
    PE X (.IfExp c a b pos) (tE G cf (cnOf S) W (.ite kc ka kb)) :=
  peW (pe_ifExp hc ha hb) fun σ H Q q => by
    obtain ⟨F, r, t, L, hs, R, po⟩ := q
    simp only [dE] at po
    refine tR.mk hs R (Po.step po fun x H1 F1 r1 bq L1 _ s1 p1 R1 ra po1 => ?_)
    subst ra
    cases bq with
    | true => exact iteT (tR.mk (hs.mono s1 p1) R1 po1)
    | false => exact iteF (tR.mk (hs.mono s1 p1) R1 po1)
theorem chain_po {ka kb kc : I} {o o' : Op} {F : Hp} {r : Rho} {t : Sg} {L : Hl} {H : Hp} {σ : L2.St} {Q : VK} (hs : RSs G F r t σ) (R : Rel G F r H L)
    (hb : ∀ (a b d : D) (L L' : Hl), opD o a b L = .ok d L' → ∃ k, d = .p (.bl k))
    (po : Po G (rD G) F r (dE cf (cnOf S) (.chain o o' ka kb kc) t L) Q (fun c d H' => W c d σ H')) :
    tChain (rO G (opD o)) (rO G (opD o')) (tE G cf (cnOf S) W ka) (tE G cf (cnOf S) W kb) (tE G cf (cnOf S) W kc) σ H Q := by
  simp only [dE] at po
  refine two (f := fun x y L => (opD o x y L).bind fun z L => match z with
    | .p (.bl true) => (dE cf (cnOf S) kc t L).bind fun w L => opD o' y w L
    | .p (.bl false) => .ok (.p (.bl false)) L
    | _ => .bad) hs R po fun F r L a b x y H' hs2 R ra rb po => ?_
  refine ⟨F, r, L, a, b, _, R, ra, rb, Po.step po fun z H3 F3 r3 d L3 e s3 p3 R3 rz po3 => ?_⟩
  obtain ⟨k, rfl⟩ := hb _ _ _ _ _ e
  cases rz with
  | p rz =>
    cases rz
    refine ⟨k, rfl, ?_⟩
    cases k with
    | true => exact iteT (tR.mk (hs2.mono s3 p3) R3 (Po.step po3 fun w' H4 F4 r4 c L4 _ s4 p4 R4 rc po4 => ⟨F4, r4, L4, b, c, _, R4, (rb.mono s3 p3).mono s4 p4, rc, po4⟩))
    | false => exact iteF (Po.ok po3 R3 (.p (.bl _)))
theorem bind_okE {α β : Type} {r : R α} {f : α → Hl → R β} {b : β} {L : Hl} (h : r.bind f = .ok b L) : ∃ a L1, r = .ok a L1 ∧ f a L1 = .ok b L := by
  cases r with
  | ok a L1 => exact ⟨a, L1, rfl, h⟩
  | ex c fs L1 => cases h
  | bad => cases h
theorem chain_bl {ka kb kc : I} {o o' : Op} {op op' : CmpOp} (h : cmpOk o op = true) (h' : cmpOk o' op' = true) {t : Sg} {L L' : Hl} {d : D} (e : dE cf (cnOf S) (.chain o o' ka kb kc) t L = .ok d L') : ∃ k, d = .p (.bl k) := by
  simp only [dE] at e
  obtain ⟨a, L1, _, e⟩ := bind_okE e
  obtain ⟨b, L2, _, e⟩ := bind_okE e
  obtain ⟨z, L3, _, e⟩ := bind_okE e
  split at e
  · obtain ⟨w', L4, _, e⟩ := bind_okE e
    exact cmp_bl h' e
  · cases e; exact ⟨_, rfl⟩
  · cases e
theorem s_chain (C : Ck S G cf X sc sf N cm W) {a b c : Expr} {o o' : Op} {op op' : CmpOp} {ka kb kc : I} (h : cmpOk o op = true) (h' : cmpOk o' op' = true)
    (ha : PE X a (tE G cf (cnOf S) W ka)) (hb : PE X b (tE G cf (cnOf S) W kb)) (hc : PE X c (tE G cf (cnOf S) W kc)) (hm : lastMarks [op, op'] [b, c] = false) :
    PE X (.Compare a [op, op'] [b, c] pos) (tE G cf (cnOf S) W (.chain o o' ka kb kc)) :=
  peW (pe_chain (cmpR C.eK C.hu h) (cmpR C.eK C.hu h') ha hb hc hm) fun σ H Q q => by
    obtain ⟨F, r, t, L, hs, R, po⟩ := q
    exact chain_po hs R (fun _ _ _ _ _ e => cmp_bl h e) po
theorem s_chainT (C : Ck S G cf X sc sf N cm W) {a b c : Expr} {o o' : Op} {op op' : CmpOp} {ka kb kc : I} (h : cmpOk o op = true) (h' : cmpOk o' op' = true)
    (ha : PE X a (tE G cf (cnOf S) W ka)) (hb : PE X b (tE G cf (cnOf S) W kb)) (hc : PE X c (tE G cf (cnOf S) W kc)) (hm : lastMarks [op, op'] [b, c] = false) :
    PT X (.Compare a [op, op'] [b, c] pos) (tT G cf (cnOf S) W (.tval (.chain o o' ka kb kc))) :=
  ptW (pt_chain (cmpR C.eK C.hu h) (cmpR C.eK C.hu h') ha hb hc hm) fun σ H Q q => by
    obtain ⟨F, r, t, L, hs, R, po⟩ := q
    simp only [dT] at po
    refine chain_po hs R (fun _ _ _ _ _ e => cmp_bl h e) (Po.step po fun v H2 F2 r2 z L2 e s2 p2 R2 rz po2 => ?_)
    obtain ⟨k, rfl⟩ := chain_bl h h' e
    cases rz with
    | p rz =>
      cases rz
      exact ⟨k, rfl, Po.ok po2 R2 rfl⟩
/-! ### tests -/
theorem s_tval (C : Ck S G cf X sc sf N cm W) {a : Expr} {ka : I} (h : plainT a = true) (ha : PE X a (tE G cf (cnOf S) W ka)) : PT X a (tT G cf (cnOf S) W (.tval ka)) :=
  ptW (pt_truth ha (plainT_ok h _)) fun σ H Q q => by
    obtain ⟨F, r, t, L, hs, R, po⟩ := q
    simp only [dT] at po
    refine tR.mk hs R (Po.step po fun x H1 F1 r1 a L1 _ s1 p1 R1 ra po1 => ?_)
    split at po1
    · exact ⟨_, by rw [C.eK]; exact tru R1 ra ‹_›, Po.ok po1 R1 rfl⟩
    · exact po1.elim
theorem s_tnot {a : Expr} {ka : I} (ha : PT X a (tT G cf (cnOf S) W ka)) : PT X (.UnaryOp .Not a pos) (tT G cf (cnOf S) W (.tnot ka)) :=
  ptW (pt_not ha) fun σ H Q q => by
    obtain ⟨F, r, t, L, hs, R, po⟩ := q
    simp only [dT] at po
    refine tR.mk hs R (Po.step po fun x H1 F1 r1 a L1 _ s1 p1 R1 ra po1 => ?_)
    cases ra
    exact Po.ok po1 R1 rfl
theorem s_tand {a b : Expr} {rest : List Expr} {ka kb : I} (ha : PT X a (tT G cf (cnOf S) W ka)) (hb : PW X (.BoolOp .And (b :: rest) pos) (tT G cf (cnOf S) W kb)) :
    PW X (.BoolOp .And (a :: b :: rest) pos) (tT G cf (cnOf S) W (.tand ka kb)) :=
  pwW (pw_and ha hb) fun σ H Q q => by
    obtain ⟨F, r, t, L, hs, R, po⟩ := q
    simp only [dT] at po
    refine tR.mk hs R (Po.step po fun x H1 F1 r1 bq L1 _ s1 p1 R1 ra po1 => ?_)
    subst ra
    cases bq with
    | true => exact iteT (tR.mk (hs.mono s1 p1) R1 po1)
    | false => exact iteF (Po.ok po1 R1 rfl)
theorem s_tor {a b : Expr} {rest : List Expr} {ka kb : I} (ha : PT X a (tT G cf (cnOf S) W ka)) (hb : PW X (.BoolOp .Or (b :: rest) pos) (tT G cf (cnOf S) W kb)) :
    PW X (.BoolOp .Or (a :: b :: rest) pos) (tT G cf (cnOf S) W (.tor ka kb)) :=
  pwW (pw_or ha hb) fun σ H Q q => by
    obtain ⟨F, r, t, L, hs, R, po⟩ := q
    simp only [dT] at po
    refine tR.mk hs R (Po.step po fun x H1 F1 r1 bq L1 _ s1 p1 R1 ra po1 => ?_)
    subst ra
    cases bq with
    | true => exact iteT (Po.ok po1 R1 rfl)
    | false => exact iteF (tR.mk (hs.mono s1 p1) R1 po1)
/-! ### arguments -/
theorem s_anil : PA X [] (tA G cf (cnOf S) W .nil) :=
  paW pa_nil fun σ H Q q => by
    obtain ⟨F, r, t, L, hs, R, po⟩ := q
    simp only [dA] at po
    exact Po.ok po R .nil
theorem s_acons {a : Expr} {es : List Expr} {ka kr : I} (hn : ∀ i, ka ≠ .exv i) (h : notStar a = true) (ha : PE X a (tE G cf (cnOf S) W ka)) (hr : PA X es (tA G cf (cnOf S) W kr)) : PA X (a :: es) (tA G cf (cnOf S) W (.cons ka kr)) :=
  paW (pa_cons ha hr (star_no h _ _)) fun σ H Q q => by
    obtain ⟨F, r, t, L, hs, R, po⟩ := q
    have po' : Po G (rA G) F r ((dE cf (cnOf S) ka t L).bind fun x L => (dA cf (cnOf S) kr t L).bind fun xs L => .ok (.v x :: xs) L) Q (fun c d H' => W c d σ H') := by
      cases ka <;> first | exact absurd rfl (hn _) | (simp only [dA] at po; exact po)
    refine tR.mk hs R (Po.step po' fun x H1 F1 r1 a L1 _ s1 p1 R1 ra po1 => ?_)
    refine tR.mk (hs.mono s1 p1) R1 (Po.step po1 fun xs H2 F2 r2 as L2 _ s2 p2 R2 ras po2 => ?_)
    exact Po.ok po2 R2 (.cons (.v (ra.mono s2 p2)) ras)
theorem s_aexv (C : Ck S G cf X sc sf N cm W) {x : Str} {i : Nat} {es : List Expr} {kr : I} (h : varB sc N x i = true) (hr : PA X es (tA G cf (cnOf S) W kr)) : PA X (.Name x pos :: es) (tA G cf (cnOf S) W (.cons (.exv i) kr)) :=
  paW (pa_cons (s_name C h) hr (star_no rfl _ _)) fun σ H Q q => by
    obtain ⟨F, r, t, L, hs, R, po⟩ := q
    simp only [dA] at po
    split at po
    · rename_i c fs e
      obtain ⟨v, hv, rv⟩ := hs.get e
      cases rv with
      | e h1 h2 =>
        refine ⟨_, hv, tR.mk hs R (Po.step po fun xs H2 F2 r2 as L2 _ s2 p2 R2 ras po2 => ?_)⟩
        exact Po.ok po2 R2 (.cons (.e h1 (h2.mono s2)) ras)
    · exact po.elim
theorem vals_ok {F : Hp} {r : Rho} : ∀ {as : List Sl} {xs : List D} {vs : List V}, vals as = some xs → rA G F r as vs → ∃ _ : xs.length = vs.length, ∀ (i : Nat) (x : D), xs[i]? = some x → ∃ v, vs[i]? = some v ∧ RD G F r x v
  | [], xs, vs, e, h => by
    cases e
    cases vs with
    | nil => exact ⟨rfl, fun i x h => by simp at h⟩
    | cons v vs => cases h
  | .v d :: as, xs, vs, e, h => by
    simp only [vals] at e
    obtain ⟨ys, e1, e2⟩ := Option.map_eq_some_iff.mp e
    subst e2
    cases vs with
    | nil => cases h
    | cons v vs =>
      cases h with
      | cons h1 h2 =>
        obtain ⟨hl, hg⟩ := vals_ok e1 h2
        refine ⟨by simp [hl], fun i x hx => ?_⟩
        cases i with
        | zero =>
          simp at hx
          subst hx
          cases h1 with
          | v h1 => exact ⟨v, rfl, h1⟩
        | succ i => simpa using hg i x (by simpa using hx)
  | .u :: as, xs, vs, e, h => by simp [vals] at e
  | .e _ _ :: as, xs, vs, e, h => by simp [vals] at e
theorem vals1 {F : Hp} {r : Rho} {as : List Sl} {x : D} {vs : List V} (e : vals as = some [x]) (h : rA G F r as vs) : ∃ v, vs = [v] ∧ RD G F r x v := by
  obtain ⟨hl, hg⟩ := vals_ok e h
  obtain ⟨v, hv, rv⟩ := hg 0 x rfl
  match vs, hl with
  | [w], _ => simp at hv; subst hv; exact ⟨_, rfl, rv⟩
theorem vals2 {F : Hp} {r : Rho} {as : List Sl} {x y : D} {vs : List V} (e : vals as = some [x, y]) (h : rA G F r as vs) : ∃ v w, vs = [v, w] ∧ RD G F r x v ∧ RD G F r y w := by
  obtain ⟨hl, hg⟩ := vals_ok e h
  obtain ⟨v, hv, rv⟩ := hg 0 x rfl
  obtain ⟨w, hw, rw'⟩ := hg 1 y rfl
  match vs, hl with
  | [a, b], _ => simp at hv hw; subst hv hw; exact ⟨_, _, rfl, rv, rw'⟩
theorem pures_ok {F : Hp} {r : Rho} : ∀ {as : List Sl} {xs : List P} {vs : List V}, pures as = some xs → rA G F r as vs → RPs G F xs vs
  | [], xs, vs, e, h => by
    cases e
    cases vs with
    | nil => exact .nil
    | cons v vs => cases h
  | .v (.p d) :: as, xs, vs, e, h => by
    simp only [pures] at e
    obtain ⟨ys, e1, e2⟩ := Option.map_eq_some_iff.mp e
    subst e2
    cases vs with
    | nil => cases h
    | cons v vs =>
      cases h with
      | cons h1 h2 =>
        cases h1 with
        | v h1 =>
          cases h1 with
          | p h1 => exact .cons h1 (pures_ok e1 h2)
  | .v (.ref _) :: as, xs, vs, e, h => by simp [pures] at e
  | .u :: as, xs, vs, e, h => by simp [pures] at e
  | .e _ _ :: as, xs, vs, e, h => by simp [pures] at e
/-! ### displays -/
theorem s_tup {es : List Expr} {ka : I} {k : Nat} (ha : PA X es (tA G cf (cnOf S) W ka)) : PE X (.Tuple es k pos) (tE G cf (cnOf S) W (.tup ka)) :=
  peW (pe_tup ha) fun σ H Q q => by
    obtain ⟨F, r, t, L, hs, R, po⟩ := q
    simp only [dE] at po
    refine tR.mk hs R (Po.step po fun x H1 F1 r1 a L1 _ s1 p1 R1 ra po1 => ?_)
    split at po1
    · split at po1
      · have t := pures_ok ‹_› ra
        exact ⟨by rw [← t.len]; assumption, newT_ok R1 t po1⟩
      · exact po1.elim
    · exact po1.elim
theorem s_lst {es : List Expr} {ka : I} {m : Bool} (ha : PA X es (tA G cf (cnOf S) W ka)) : PE X (.List es pos) (tE G cf (cnOf S) W (.lst m ka)) :=
  peW (pe_lst ha) fun σ H Q q => by
    obtain ⟨F, r, t, L, hs, R, po⟩ := q
    simp only [dE] at po
    refine tR.mk hs R (Po.step po fun x H1 F1 r1 a L1 _ s1 p1 R1 ra po1 => ?_)
    split at po1
    · split at po1
      · have t := pures_ok ‹_› ra
        exact ⟨by rw [← t.len]; assumption, newL_ok R1 t po1⟩
      · exact po1.elim
    · exact po1.elim
/-! ### a[i], a[i:j] -/
theorem atP_ok {F : Hp} {xs : List P} {vs : List V} {i : Int} {x : P} (t : RPs G F xs vs) (e : atP xs i = some x) : ∃ v, atI vs i = some v ∧ RP G F x v := by
  unfold atP at e
  unfold atI
  rw [← t.len]
  obtain ⟨j, e1, e2⟩ := Option.bind_eq_some_iff.mp e
  obtain ⟨v, hv, rv⟩ := t.get e2
  exact ⟨v, by rw [e1]; exact hv, rv⟩
theorem s_ix (C : Ck S G cf X sc sf N cm W) {a b : Expr} {ka kb : I} (h : notSlice b = true) (ha : PE X a (tE G cf (cnOf S) W ka)) (hb : PE X b (tE G cf (cnOf S) W kb)) : PE X (.Subscript a b pos) (tE G cf (cnOf S) W (.ix ka kb)) :=
  peW (pe_ix ix_seq ha hb (plainIx h)) fun σ H Q q => by
    obtain ⟨F, r, t, L, hs, R, po⟩ := q
    simp only [dE] at po
    refine two (f := ixD) hs R po fun F r L a b x y H' hs R ra rb po => ?_
    unfold ixD at po
    split at po
    · split at po
      · split at po
        · exact .inr (.inr ⟨_, _, _, pS ra rfl, pI rb rfl, ‹_›, ‹_›, Po.ok po R (.p (.str _))⟩)
        · exact po.elim
      · exact po.elim
    · split at po
      · split at po
        · obtain ⟨p, vs, rfl, q, t⟩ := rdQ_ok R ra ‹_›
          obtain ⟨v, hv, rv⟩ := atP_ok t ‹_›
          rw [← C.eK] at q
          rcases q with q | q
          · exact .inl ⟨_, _, _, _, rfl, pI rb rfl, q, hv, Po.ok po R (.p rv)⟩
          · exact .inr (.inl ⟨_, _, _, _, rfl, pI rb rfl, q, hv, Po.ok po R (.p rv)⟩)
        · exact po.elim
      · exact po.elim
    · exact po.elim
abbrev rZ : Hp → Rho → Option Int → Option Int → Prop := fun _ _ a b => a = b
theorem s_ono : PO X none (tR G W rZ (dO cf (cnOf S) .nil)) := ⟨fun pins s σ H Q I q => by
  refine po_none.run pins s σ H Q I ?_
  obtain ⟨F, r, t, L, hs, R, po⟩ := q
  simp only [dO] at po
  exact Po.ok po R rfl⟩
theorem s_oso {a : Expr} {ka : I} (ha : PE X a (tE G cf (cnOf S) W ka)) : PO X (some a) (tR G W rZ (dO cf (cnOf S) (.cons ka .nil))) := ⟨fun pins s σ H Q I q => by
  refine (po_some ha).run pins s σ H Q I ?_
  obtain ⟨F, r, t, L, hs, R, po⟩ := q
  simp only [dO] at po
  refine tR.mk hs R (Po.step po fun x H1 F1 r1 a L1 _ s1 p1 R1 ra po1 => ?_)
  split at po1
  · exact ⟨_, pI ra rfl, Po.ok po1 R1 rfl⟩
  · exact po1.elim⟩
theorem cutP_ok {F : Hp} {xs : List P} {vs : List V} (t : RPs G F xs vs) (lo hi : Option Int) : RPs G F (cutP xs lo hi) (cutV vs lo hi) := by
  unfold cutP cutV
  rw [t.len]
  exact (t.drop _).take _
theorem cutP_all {F : Hp} {xs : List P} {vs : List V} (t : RPs G F xs vs) {lo hi : Option Int} (hw : HT.sIx vs.length 0 lo = 0 ∧ HT.sIx vs.length vs.length hi = vs.length) : cutP xs lo hi = xs := by
  unfold cutP
  rw [t.len, hw.1, hw.2, ← t.len]
  simp
theorem s_sl (C : Ck S G cf X sc sf N cm W) {a : Expr} {lo hi : Option Expr} {ka kl kh : I} {m : Bool} {p2 : Pos} (ha : PE X a (tE G cf (cnOf S) W ka)) (hl : PO X lo (tR G W rZ (dO cf (cnOf S) kl))) (hh : PO X hi (tR G W rZ (dO cf (cnOf S) kh))) :
    PE X (.Subscript a (.Slice lo hi none p2) pos) (tE G cf (cnOf S) W (.sl m ka kl kh)) :=
  peW (pe_slice (SlR.or sl_list (SlR.or sl_tupA sl_str)) ha hl hh) fun σ H Q q => by
    obtain ⟨F, r, t, L, hs, R, po⟩ := q
    simp only [dE] at po
    refine tR.mk hs R (Po.step po fun x H1 F1 r1 a L1 _ s1 p1 R1 ra po1 => ?_)
    refine tR.mk (hs.mono s1 p1) R1 (Po.step po1 fun y H2 F2 r2 b L2 _ s2 p2 R2 rb po2 => ?_)
    refine tR.mk ((hs.mono s1 p1).mono s2 p2) R2 (Po.step po2 fun z H3 F3 r3 c L3 _ s3 p3 R3 rc po3 => ?_)
    subst rb
    subst rc
    have ra' := (ra.mono s2 p2).mono s3 p3
    unfold slD at po3
    split at po3
    · split at po3
      · exact .inr (.inr ⟨_, pS ra' rfl, ‹_›, Po.ok po3 R3 (.p (.str _))⟩)
      · exact po3.elim
    · obtain ⟨p, vs, rfl, q, t⟩ := pT ra' rfl
      refine .inr (.inl ⟨p, vs, rfl, by rw [C.eK]; exact SqT.same R3.sub q, fun hw => ?_, fun hw => newT_ok R3 (cutP_ok t _ _) po3⟩)
      rw [cutP_all t hw] at po3
      exact Po.ok po3 R3 ra'
    · rename_i xs
      cases ra' with
      | p ra' =>
        cases ra' with
        | rol q t => exact .inl ⟨_, _, rfl, by rw [C.eK]; exact R3.sub.seq q, newL_ok R3 (cutP_ok t _ _) po3⟩
    · split at po3
      · obtain ⟨p, vs, rfl, q, t⟩ := rdL_ok R3 ra' ‹_›
        exact .inl ⟨p, vs, rfl, .inl (.inl q), newL_ok R3 (cutP_ok t _ _) po3⟩
      · exact po3.elim
/-! ### calls of defs -/
theorem s_call (C : Ck S G cf X sc sf N cm W) {x : Str} {p : Pos} {e : Expr} {es : List Expr} {f : Nat} {fi : FnI} {ka : I} (hf : S.fns[f]? = some fi) (hat : fi.at_ = (x, none)) (hx : fi.nm = x) (hcm : (if cm then fi.cold else fi.hot) = true) (hg : gloB sc x = true) (hn : nmB x = true)
    (hst : notStar e = true) (hst2 : es.all notStar = true) (ha : PA X (e :: es) (tA G cf (cnOf S) W ka)) : PE X (.Call (.Name x p) (e :: es) [] pos) (tE G cf (cnOf S) W (.call f ka)) := by
  subst hx
  obtain ⟨a, hm, hk, hc⟩ := C.call f fi hf hat hcm
  refine ⟨fun pins s σ H Q I q => ?_⟩
  obtain ⟨F, r, t, L, hs, R, po⟩ := q
  simp only [dE] at po
  refine wpAny_Call_Name_kw (ld_glob I (gloB_ok C hg) hm ?_ (nmB_ok hn).1)
  have hA : tA G cf (cnOf S) W ka σ H (fun vs H1 => ∃ (F1 : Hp) (r1 : Rho) (L1 : Hl) (as : List Sl), rA G F1 r1 as vs ∧ Rel G F1 r1 H1 L1 ∧ Po G (rD G) F1 r1 (cf f as L1) Q (fun c d H' => W c d σ H')) :=
    tR.mk hs R (Po.step po fun vs H1 F1 r1 as L1 _ s1 p1 R1 ra po1 => ⟨F1, r1, L1, as, ra, R1, po1⟩)
  refine PySem.W.callWith_K (h₀ := X.base) I.ok.mod.kin hk (thn (ha.run pos pins s σ H _ I hA) fun us s1 hh => ?_) (star_no hst _ _) (back_no _ hst2 _)
  obtain ⟨vs, H1, I1, rv, F1, r1, L1, as, ra, R1, po1⟩ := hh
  exact ⟨I1.kIn, hc X W ⟨rfl, rfl, rfl, rfl, rfl, rfl, fun _ => rfl⟩ C.tk pins s1 σ H1 us vs F1 r1 L1 as Q I1 rv ra R1 po1⟩
end
end Fk

set_option Elab.async false
set_option linter.all false
set_option autoImplicit false
set_option maxRecDepth 100000
set_option maxHeartbeats 2000000
/-! Fk 7: built-in functions, methods, what is walked, comprehensions -/
namespace Fk
open PySem PySem.Spec PyProof.Rows L2
def biN : Bi → Str
  | .len => "len" | .int => "int" | .str => "str" | .sum => "sum" | .abs => "abs" | .bool => "bool" | .list _ => "list" | .tup => "tuple" | .min => "min" | .max => "max"
  | .sorted _ => "sorted" | .all => "all" | .any => "any" | .repr => "repr" | .listr _ => "list" | .dict _ => "dict"
/-- a type's call, or a function's -/
def biV : Bi → Value
  | .len => .builtin "len" | .int => .type "int" | .str => .type "str" | .sum => .builtin "sum" | .abs => .builtin "abs" | .bool => .type "bool" | .list _ => .type "list" | .tup => .type "tuple" | .min => .builtin "min" | .max => .builtin "max"
  | .sorted _ => .builtin "sorted" | .all => .builtin "all" | .any => .builtin "any" | .repr => .builtin "repr" | .listr _ => .type "list" | .dict _ => .type "dict"
theorem biV_boot (b : Bi) : bootBuiltins (biN b) = some (biV b) := by cases b <;> first | decide +kernel | (rename_i m; cases m <;> decide +kernel)
theorem biV_two (b : Bi) : (∃ id, biV b = .builtin id) ∨ ∃ T, biV b = .type T := by cases b <;> first | exact .inl ⟨_, rfl⟩ | exact .inr ⟨_, rfl⟩
theorem biN_ne (b : Bi) : biN b ≠ "__name__" := by cases b <;> first | decide +kernel | (rename_i m; cases m <;> decide +kernel)
theorem biN_nd (b : Bi) : (biN b == ("__debug__" : Str)) = false := by cases b <;> first | decide +kernel | (rename_i m; cases m <;> decide +kernel)
def biB : Bi → Option (String × Bool)
  | .len => some ("len", false) | .int => some ("int", true) | .str => some ("str", true) | .sum => some ("sum", false) | .abs => some ("abs", false) | .bool => some ("bool", true) | .list _ => some ("list", true) | .tup => some ("tuple", true)
  | .min => some ("min", false) | .max => some ("max", false) | .sorted _ => some ("sorted", false) | .all => some ("all", false) | .any => some ("any", false) | .repr => some ("repr", false) | .listr _ => some ("list", true) | .dict _ => some ("dict", true)
section
variable {S : Stc} {G : Gm} {cf : Nat → List Sl → Hl → R D} {X : Cx} {sc sf : Scope} {N : List Str} {cm : Bool} {W : WX} {pos : Pos}
/-- values and their list -/
def RDl (G : Gm) (F : Hp) (r : Rho) (ds : List D) (vs : List V) : Prop := RSs G F r (ds.map .v) (vs.map some)
theorem vals_map : ∀ {as : List Sl} {ds : List D}, vals as = some ds → as = ds.map .v
  | [], _, e => by cases e; rfl
  | .v d :: as, ds, e => by
    simp only [vals] at e
    obtain ⟨ys, e1, e2⟩ := Option.map_eq_some_iff.mp e
    subst e2
    rw [vals_map e1]; rfl
  | .u :: _, _, e => by simp [vals] at e
  | .e _ _ :: _, _, e => by simp [vals] at e
theorem RDl.one {F : Hp} {r : Rho} {x : D} {vs : List V} (h : RDl G F r [x] vs) : ∃ v, vs = [v] ∧ RD G F r x v := by
  unfold RDl at h
  cases vs with
  | nil => cases h
  | cons v vs =>
    cases vs with
    | nil => cases h with | cons h1 h2 => cases h1 with | v h1 => exact ⟨_, rfl, h1⟩
    | cons w vs => cases h with | cons h1 h2 => cases h2
theorem RDl.two {F : Hp} {r : Rho} {x y : D} {vs : List V} (h : RDl G F r [x, y] vs) : ∃ v w, vs = [v, w] ∧ RD G F r x v ∧ RD G F r y w := by
  unfold RDl at h
  cases vs with
  | nil => cases h
  | cons v vs =>
    cases vs with
    | nil => cases h with | cons h1 h2 => cases h2
    | cons w vs =>
      cases vs with
      | nil =>
        cases h with
        | cons h1 h2 => cases h1 with | v h1 => cases h2 with | cons h2 h3 => cases h2 with | v h2 => exact ⟨_, _, rfl, h1, h2⟩
      | cons z vs => cases h with | cons h1 h2 => cases h2 with | cons h2 h3 => cases h3
theorem RDl.nil {F : Hp} {r : Rho} {vs : List V} (h : RDl G F r [] vs) : vs = [] := by
  unfold RDl at h
  cases vs with
  | nil => rfl
  | cons v vs => cases h
def rBi (G : Gm) (f : List D → Hl → R D) : List V → Hp → VK → Prop := fun xs H Q => ∃ (F : Hp) (r : Rho) (L : Hl) (ds : List D) (E : XK), Rel G F r H L ∧ RDl G F r ds xs ∧ Po G (rD G) F r (f ds L) Q E
theorem biR (hK : X.K = G.K) (hc : X.calm = true) (b : Bi) : CallR X (biV b) (rBi G (biD b)) := by
  intro pins s σ H xs us Q I rv hh
  obtain ⟨F, r, L, ds, E, R, rd, po⟩ := hh
  unfold biD at po
  split at po
  · -- len
    obtain ⟨v, rfl, rx⟩ := rd.one
    split at po
    · split at po
      · exact call_len pins s σ H _ us Q I rv ⟨_, _, rfl, by rw [pS rx rfl]; exact ⟨‹_›, rfl⟩, Po.ok po R (.p (.int _))⟩
      · exact po.elim
    · split at po
      · obtain ⟨a, vs, rfl, q, t⟩ := rdQ_ok R rx ‹_›
        rw [t.len] at po
        refine call_len pins s σ H _ us Q I rv ⟨_, _, rfl, ?_, Po.ok po R (.p (.int _))⟩
        rw [hK]
        rcases q with q | q
        · exact .inl ⟨_, q, rfl⟩
        · exact .inr ⟨_, q, rfl⟩
      · split at po
        · obtain ⟨a, kv, rfl, q, t⟩ := rdK_ok R rx ‹_›
          rw [RPk.len t] at po
          exact call_lenD pins s σ H _ us Q I rv ⟨_, _, rfl, q, Po.ok po R (.p (.int _))⟩
        · exact po.elim
  · obtain ⟨v, rfl, rx⟩ := rd.one
    split at po
    · exact call_int1 pins s σ H _ us Q I rv (.inl ⟨_, by rw [pI rx rfl], Po.ok po R (.p (.int _))⟩)
    · cases rx with
      | p h => cases h; exact call_int1 pins s σ H _ us Q I rv (.inr ⟨_, rfl, Po.ok po R (.p (.int _))⟩)
    · exact po.elim
  · obtain ⟨v, rfl, rx⟩ := rd.one
    split at po
    · split at po
      · exact call_str_int pins s σ H _ us Q I rv ⟨_, by rw [pI rx rfl], ‹_›, Po.ok po R (.p (.str _))⟩
      · exact po.elim
    · exact po.elim
  · obtain ⟨v, rfl, rx⟩ := rd.one
    split at po
    · exact call_abs pins s σ H _ us Q I rv ⟨_, by rw [pI rx rfl], Po.ok po R (.p (.int _))⟩
    · exact po.elim
  · obtain ⟨v, rfl, rx⟩ := rd.one
    split at po
    · split at po
      · obtain ⟨a, vs, rfl, q, t⟩ := rdS_ok R rx ‹_›
        rw [← hK] at q
        have e := intsP_ok t ‹_›
        subst e
        exact cr_sum hc pins s σ H _ us Q I rv ⟨_, _, rfl, q, Po.ok po R (.p (.int _))⟩
      · exact po.elim
    · exact po.elim
  · obtain ⟨v, w', rfl, rx, ry⟩ := rd.two
    split at po
    · exact call_min2 hc pins s σ H _ us Q I rv ⟨_, _, by rw [pI rx rfl, pI ry rfl], Po.ok po R (.p (.int _))⟩
    · exact po.elim
  · obtain ⟨v, w', rfl, rx, ry⟩ := rd.two
    split at po
    · exact call_max2 hc pins s σ H _ us Q I rv ⟨_, _, by rw [pI rx rfl, pI ry rfl], Po.ok po R (.p (.int _))⟩
    · exact po.elim
  · obtain ⟨v, rfl, rx⟩ := rd.one
    split at po
    · obtain ⟨a, vs, rfl, q, t⟩ := rdQ_ok R rx ‹_›
      rw [← hK] at q
      exact call_list_of pins s σ H _ us Q I rv ⟨_, _, rfl, q, newL_ok R t po⟩
    · exact po.elim
  · obtain ⟨v, rfl, rx⟩ := rd.one
    split at po
    · obtain ⟨a, vs, rfl, q, t⟩ := rdQ_ok R rx ‹_›
      rw [← hK] at q
      refine call_tuple_of pins s σ H _ us Q I rv ⟨a, vs, rfl, ?_⟩
      rcases q with q | q
      · exact .inl ⟨q, newT_ok R t po⟩
      · refine .inr ⟨q, ?_⟩
        rename_i x xs e
        -- a tuple is itself
        cases rx with
        | p h =>
          cases h with
          | tup q2 t2 =>
            simp only [rdQ, Option.some.injEq] at e
            subst e
            exact Po.ok po R (.p (.tup q2 t2))
          | lst q2 t2 => exact absurd (I.bk) (fun _ => by
              have h1 := R.sub _ _ q2
              rcases q with (q | ⟨o, q⟩) | ⟨o, its, n, hk, hcl, hdt, hsz, hv⟩
              · rw [h1] at q; cases q
              · rw [h1] at q; cases q
              · obtain ⟨_, its2, n2, _, h2⟩ := I.hok _ _ h1
                rw [I.kIn _ _ hk] at h2
                cases h2
                exact absurd (show Value.type "list" = Value.type "tuple" from hcl) (by decide))
          | rol q2 t2 => exact absurd (I.bk) (fun _ => by
              obtain ⟨its1, _, p1, _⟩ := I.list (by rw [hK]; exact R.sub.seq q2)
              obtain ⟨its2, _, p2, _⟩ := I.tuple q
              obtain ⟨o1, n1, e1, c1, _, _⟩ := p1
              obtain ⟨o2, e2, c2, _⟩ := p2
              rw [e1] at e2
              cases e2
              rw [c1] at c2
              exact absurd c2 (by decide))
          | _ => simp [rdQ] at e
        | ref h =>
          exact absurd (I.bk) (fun _ => by
              simp only [rdQ] at e
              split at e
              · rename_i ys hy
                obtain ⟨u, h1, _, e4⟩ := R.at hy (by intro z; cases z) h
                cases e4 with
                | lst t4 =>
                  obtain ⟨its1, _, p1, _⟩ := I.list (SqL.of (K := X.K) h1)
                  obtain ⟨its2, _, p2, _⟩ := I.tuple q
                  obtain ⟨o1, n1, e1, c1, _, _⟩ := p1
                  obtain ⟨o2, e2, c2, _⟩ := p2
                  rw [e1] at e2
                  cases e2
                  rw [c1] at c2
                  exact absurd c2 (by decide)
              · cases e)
    · exact po.elim
  · exact po.elim
theorem s_bi (C : Ck S G cf X sc sf N cm W) {x : Str} {p : Pos} {e : Expr} {es : List Expr} {b : Bi} {ka : I} (hx : x = biN b) (hb : x ∈ S.bn) (hcm : cm = true) (hg : gloB sc x = true) (hst : notStar e = true) (hst2 : es.all notStar = true)
    (ha : PA X (e :: es) (tA G cf (cnOf S) W ka)) : PE X (.Call (.Name x p) (e :: es) [] pos) (tE G cf (cnOf S) W (.bi b ka)) := by
  have fin : ∀ σ H Q, tE G cf (cnOf S) W (.bi b ka) σ H Q → tCB (rBi G (biD b)) (tA G cf (cnOf S) W ka) σ H Q := fun σ H Q q => by
    obtain ⟨F, r, t, L, hs, R, po⟩ := q
    simp only [dE] at po
    refine tR.mk hs R (Po.step po fun x H1 F1 r1 as L1 _ s1 p1 R1 ra po1 => ?_)
    split at po1
    · have := vals_map ‹_›
      subst this
      exact ⟨F1, r1, L1, _, _, R1, ra, po1⟩
    · exact po1.elim
  have hR := biR (X := X) (G := G) C.eK (C.ecm hcm) b
  subst hx
  have h1 := biV_boot b
  rcases biV_two b with ⟨id, e1⟩ | ⟨T, e1⟩
  · rw [e1] at hR h1
    exact peW (pe_callB hR (gloB_ok C hg) (C.bn _ hb) h1 ha (biN_ne b) (biN_nd b) (star_no hst _ _) (back_no _ hst2 _)) fin
  · rw [e1] at hR h1
    exact peW (pe_callTy hR (gloB_ok C hg) (C.bn _ hb) h1 ha (biN_ne b) (biN_nd b) (star_no hst _ _) (back_no _ hst2 _)) fin
/-! ### isinstance(x, c), c a built-in class -/
def clN : Cl → String
  | .int => "int" | .bool => "bool" | .str => "str" | .tup => "tuple" | .lst => "list" | .dct => "dict" | .own _ => "object"
def clB : Cl → Bool
  | .own _ => false
  | _ => true
def tyN : P → String
  | .non => "NoneType" | .bl _ => "bool" | .int _ => "int" | .str _ => "str" | .tup _ => "tuple" | .lst _ => "list" | .rol _ => "list" | .dct _ => "dict" | _ => "object"
theorem tyP_kit {x : P} {c : Cl} {b : Bool} (h : clB c = true) (e : tyP x c = some b) : kitB (tyN x) (clN c) = some b := by
  cases x <;> cases c <;> simp only [tyP, Option.some.injEq, reduceCtorEq] at e <;> first | (cases h; done) | (subst e; dsimp only [tyN, clN]; decide +kernel)
theorem ty_ok {F : Hp} {r : Rho} {H : Hp} {L : Hl} {d : D} {x : P} {v : V} {c : Cl} {b : Bool} (R : Rel G F r H L) (hd : RD G F r d v) (hl : look L d = some x) (e : tyP x c = some b) (hc : clB c = true) : TyX G.K H v (.type (tyN x)) := by
  cases hd with
  | p h =>
    simp only [look, Option.some.injEq] at hl
    subst hl
    cases h with
    | non => exact .base .non
    | bl b => exact .base (.bl b)
    | int b => exact .base (.int b)
    | str b => exact .base (.str b)
    | tup q t =>
      rcases SqT.same R.sub q with (q | ⟨o, q⟩) | ⟨o, its, n, hk, hcl, _⟩
      · exact .base (.tup q)
      · exact .fTuple q
      · exact .kTuple hk hcl
    | lst q t => exact .base (.lst (R.sub _ _ q))
    | rol q t =>
      rcases R.sub.seq q with (q | ⟨o, q⟩) | ⟨o, its, n, hk, hcl, _⟩
      · exact .base (.lst q)
      · exact .base (.frz q)
      · exact .kList hk hcl
    | dct q t => exact .base (.dK (R.sub _ _ q))
    | obj q t => cases c <;> first | (cases hc; done) | (simp [tyP] at e)
    | cls c => simp [tyP] at e
    | ty c => simp [tyP] at e
  | ref h =>
    simp only [look] at hl
    split at hl
    · rename_i ys hy
      cases hl
      obtain ⟨u, e2, _, e4⟩ := R.at hy (by intro z; cases z) h
      cases e4 with
      | lst t => exact .base (.lst e2)
    · cases hl
theorem clN_boot (c : Cl) (h : clB c = true) : bootBuiltins (Str.ofString (clN c)) = some (.type (clN c)) := by cases c <;> first | (cases h; done) | decide +kernel
theorem s_isi (C : Ck S G cf X sc sf N cm W) {p pc : Pos} {a : Expr} {c : Cl} {ka : I} {x : Str} (hc : clB c = true) (hx : x = Str.ofString (clN c)) (hb : x ∈ S.bn) (hb2 : ("isinstance" : Str) ∈ S.bn) (hg : gloB sc x = true) (hg2 : gloB sc "isinstance" = true) (hn : nmB x = true)
    (hst : notStar a = true) (ha : PE X a (tE G cf (cnOf S) W ka)) : PE X (.Call (.Name "isinstance" p) [a, .Name x pc] [] pos) (tE G cf (cnOf S) W (.isi ka c)) := by
  have h1 := clN_boot c hc
  rw [← hx] at h1
  have hcl : PE X (.Name x pc) (tC (.ty (clN c))) := pe_bltn (gloB_ok C hg) (C.bn _ hb) h1 rfl (nmB_ok hn).2.2 (nmB_ok hn).1
  refine peW (pe_callB call_isi (gloB_ok C hg2) (C.bn _ hb2) PyProof.Rows.boot_isinstance (pa_cons ha (pa_cons hcl pa_nil (star_no rfl _ _)) (star_no hst _ _)) (by decide) (by decide) (star_no hst _ _) (back_no _ rfl _)) fun σ H Q q => ?_
  obtain ⟨F, r, t, L, hs, R, po⟩ := q
  simp only [dE] at po
  refine tR.mk hs R (Po.step po fun v H1 F1 r1 d L1 _ s1 p1 R1 ra po1 => ?_)
  split at po1
  · rename_i y hl
    obtain ⟨b, e, q⟩ := blR_ok (P := fun _ => True) R1 po1
    exact ⟨v, .ty (clN c), .type (tyN y), .type (clN c), b, rfl, .ty _, by rw [C.eK]; exact ty_ok R1 ra hl e hc, kit_ty (tyP_kit hc e), q⟩
  · exact po1.elim
end
end Fk

set_option Elab.async false
set_option linter.all false
set_option autoImplicit false
set_option maxRecDepth 100000
set_option maxHeartbeats 2000000
/-! Fk Z: zip of two sequences, each a list or a tuple -/
namespace FkZ
open PySem PySem.Spec PyProof.Rows
inductive Kd where
  | lst | tup
def IsIt (c : Kd) (h : Heap) (it l : Addr) (m : Nat) : Prop := match c with
  | .lst => h.IsListIter it l m
  | .tup => h.IsTupleIter it l m
def IsSq (c : Kd) (h : Heap) (l : Addr) (us : Array Value) : Prop := match c with
  | .lst => h.IsList l us
  | .tup => h.IsTuple l us
section
variable {c : Kd} {h h2 : Heap} {it l b : Addr} {m : Nat} {us : Array Value}
theorem IsIt.keep (p : IsIt c h it l m) (e : Heap.ExtBut b h h2) (ne : it ≠ b) : IsIt c h2 it l m := by
  cases c with
  | lst => exact Heap.IsListIter.extBut p e ne
  | tup => exact Heap.IsTupleIter.extBut p e ne
theorem IsSq.keep (p : IsSq c h l us) (e : Heap.ExtBut b h h2) (ne : l ≠ b) : IsSq c h2 l us := by
  cases c with
  | lst => exact Heap.IsList.extBut p e ne
  | tup => exact Heap.IsTuple.extBut p e ne
theorem IsIt.obj (p : IsIt c h it l m) : ∃ o vs, h.get? it = some o ∧ o.data = .fields vs := by
  cases c with
  | lst => obtain ⟨o, e, _, d⟩ := (show h.IsListIter it l m from p); exact ⟨o, _, e, d⟩
  | tup => obtain ⟨o, e, _, d⟩ := (show h.IsTupleIter it l m from p); exact ⟨o, _, e, d⟩
theorem IsIt.same (p : IsIt c h it l m) (e : ∀ o, h.get? it = some o → h2.get? it = some o) : IsIt c h2 it l m := by
  cases c with
  | lst => exact Heap.IsListIter.at p e
  | tup => exact Heap.IsTupleIter.at p e
end
section
variable {prog : Program} {w : World} {A : Around} {E : Value → Shared → Prop} {s : Shared} {c : Kd} {it l : Addr} {m : Nat} {us : Array Value}
theorem nx_item {u : Value} {Q : Value → Shared → Prop} (p : IsIt c s.heap it l m) (q : IsSq c s.heap l us) (e : us[m]? = some u) (hQ : ∀ h2, IsIt c h2 it l (m + 1) → Heap.SameBut it s.heap h2 → Q u { s with heap := h2 }) :
    wpAny (model prog w) A (Builtin.SmallTypes.nextOf (.ref it)) Q E s := by
  cases c with
  | lst => exact wpAny_nextOf_list_item p q e hQ
  | tup => exact RZ.nextOf_tuple_item p q e hQ
theorem nx_end {Q : Value → Shared → Prop} (hh : A.handled = none) (p : IsIt c s.heap it l m) (q : IsSq c s.heap l us) (e : us[m]? = none) (hE : ∀ h2 x, Heap.ExtBut it s.heap h2 → (∃ o, h2.get? x = some o ∧ o.cls = .type "StopIteration") → E (.ref x) { s with heap := h2 }) :
    wpAny (model prog w) A (Builtin.SmallTypes.nextOf (.ref it)) Q E s := by
  cases c with
  | lst => exact wpAny_nextOf_list_end hh p q e hE
  | tup => exact RZ.nextOf_tuple_end hh p q e hE
end
section
variable {prog : Program} {w : World} {A : Around} {E : Value → Shared → Prop} {s : Shared} {c1 c2 : Kd} {zz ti tr ia ib la lb : Addr} {m1 m2 : Nat} {us vs : Array Value} {u v a b : Value}
/-- what a step leaves alone -/
abbrev Rest (zz tr ia ib : Addr) (h h2 : Heap) : Prop := ∀ k o, k ≠ zz → k ≠ tr → k ≠ ia → k ≠ ib → h.get? k = some o → h2.get? k = some o
theorem zz_item {Q : Value → Shared → Prop} (D : ZipApart zz ti tr ia ib la lb) (qz : IsZip s.heap zz ti tr .none) (qi : IsPair s.heap ti (.ref ia) (.ref ib)) (qr : IsPair s.heap tr a b) (pa : IsIt c1 s.heap ia la m1) (pb : IsIt c2 s.heap ib lb m2)
    (sa : IsSq c1 s.heap la us) (sb : IsSq c2 s.heap lb vs) (eu : us[m1]? = some u) (ev : vs[m2]? = some v)
    (hQ : ∀ h2, IsZip h2 zz ti tr (rawInt s.heap.objs.size) → IsPair h2 tr u v → IsIt c1 h2 ia la (m1 + 1) → IsIt c2 h2 ib lb (m2 + 1) → IsPair h2 s.heap.objs.size u v → h2.objs.size = s.heap.objs.size + 1 → Rest zz tr ia ib s.heap h2 → Q (.ref s.heap.objs.size) { s with heap := h2 }) :
    wpAny (model prog w) A (Builtin.«zip.__next__» ⟨[.ref zz], []⟩) (fun fin s2 => ∃ x, fin = .done (.ret x) ∧ Q x s2) E s := by
  show wpAny _ _ (field (.ref zz) 2 >>= _) _ _ _
  refine wpAny_bind (wpAny_field qz rfl (x := .bool false) rfl ?_)
  show wpAny _ _ (field (.ref zz) 3 >>= _) _ _ _
  refine wpAny_bind (wpAny_field qz rfl (x := .ref ti) rfl (wpAny_bind (wpAny_seqItems qi rfl ?_)))
  show wpAny _ _ (Builtin.SmallTypes.ownedTupleIsFree (.ref zz) >>= _) _ _ _
  refine (wpAny_bind (by
    unfold Builtin.SmallTypes.ownedTupleIsFree
    refine wpAny_bind (wpAny_field qz rfl (x := .none) rfl (wpAny_pure ?_))
    simp only [if_true]
    refine (wpAny_bind (wpAny_rule (wpAny_bind (wpAny_field qz rfl (x := .ref tr) rfl (wpAny_bind (wpAny_setField_rec qz (by simp) fun g1 z1 k1 => ?_))))))
    have z1 : IsZip g1 zz ti tr .ellipsis := z1
    refine (wpAny_bind ?_)
    simp only [List.forIn_cons, List.forIn_nil, List.zipIdx_cons, List.zipIdx_nil]
    refine (wpAny_bind (wpAny_bind (wpAny_onRaise ?_)))
    show wpAny _ _ (Builtin.SmallTypes.nextOf (.ref ia) >>= _) _ _ _
    refine wpAny_bind (nx_item (pa.keep k1.extBut D.i1z) (sa.keep k1.extBut D.l1z) eu fun g2 a2 k2 => wpAny_pure ?_)
    have r2 : IsPair g2 tr a b := k2.extBut _ _ D.TOi1 (k1.extBut _ _ D.TOz qr)
    refine wpAny_bind (wpAny_seqItems r2 rfl (wpAny_bind (wpAny_updateSeq_pair r2 fun g3 r3 k3 => ?_)))
    have r3 : IsPair g3 tr u b := r3
    refine (wpAny_bind (wpAny_letGo (wpAny_pure (wpAny_bind (wpAny_bind (wpAny_onRaise ?_))))))
    show wpAny _ _ (Builtin.SmallTypes.nextOf (.ref ib) >>= _) _ _ _
    refine wpAny_bind (nx_item (((pb.keep k1.extBut D.i2z).keep k2.extBut D.i12.symm).keep k3.extBut D.TOi2.symm) (((sb.keep k1.extBut D.l2z).keep k2.extBut D.l2i1).keep k3.extBut D.l2TO) ev fun g4 b4 k4 => wpAny_pure ?_)
    have r4 : IsPair g4 tr u b := k4.extBut _ _ D.TOi2 r3
    refine wpAny_bind (wpAny_seqItems r4 rfl (wpAny_bind (wpAny_updateSeq_pair r4 fun g5 r5 k5 => ?_)))
    have r5 : IsPair g5 tr u v := r5
    refine (wpAny_bind (wpAny_letGo (wpAny_pure (wpAny_pure (wpAny_bind (wpAny_seqItems r5 rfl (wpAny_bind (wpAny_newTuple ?_))))))))
    have sz : g5.objs.size = s.heap.objs.size := by rw [k5.1, k4.1, k3.1, k2.1, k1.1]
    have z5 : IsZip g5 zz ti tr .ellipsis := k5.extBut _ _ D.TOz.symm (k4.extBut _ _ D.i2z.symm (k3.extBut _ _ D.TOz.symm (k2.extBut _ _ D.i1z.symm z1)))
    have rest5 : Rest zz tr ia ib s.heap g5 := fun k o n1 n2 n3 n4 e => k5.extBut _ _ n2 (k4.extBut _ _ n4 (k3.extBut _ _ n2 (k2.extBut _ _ n3 (k1.extBut _ _ n1 e))))
    have a5 : IsIt c1 g5 ia la (m1 + 1) := ((a2.keep k3.extBut D.TOi1.symm).keep k4.extBut D.i12).keep k5.extBut D.TOi1.symm
    have b5 : IsIt c2 g5 ib lb (m2 + 1) := b4.keep k5.extBut D.TOi2.symm
    have ltz : zz < g5.objs.size := Heap.lt_size z5
    show wpAny _ _ (Builtin.SmallTypes.ownedTupleHandOut (.ref zz) (.ref g5.objs.size) >>= _) _ _ _
    refine (wpAny_bind ?_)
    unfold Builtin.SmallTypes.ownedTupleHandOut
    have z6 : IsZip (g5.push { cls := .type "tuple", data := .seq #[u, v] }) zz ti tr .ellipsis := Heap.get?_push_of_some _ z5
    refine wpAny_bind (wpAny_setField_rec z6 (by simp) fun g7 z7 k7 => ?_)
    have z7 : IsZip g7 zz ti tr (rawInt g5.objs.size) := z7
    refine wpAny_setField_rec z7 (by simp) fun g8 z8 k8 => ?_
    have z8 : IsZip g8 zz ti tr (rawInt g5.objs.size) := z8
    have up : ∀ k o, k ≠ zz → g5.get? k = some o → g8.get? k = some o := fun k o n1 e => k8.extBut _ _ n1 (k7.extBut _ _ n1 (Heap.get?_push_of_some _ e))
    have t8 : IsPair g8 g5.objs.size u v := k8.extBut _ _ (Nat.ne_of_gt ltz) (k7.extBut _ _ (Nat.ne_of_gt ltz) (Heap.get?_push_size _ rfl))
    have s8 : g8.objs.size = g5.objs.size + 1 := by rw [k8.1, k7.1, Heap.size_push]
    rw [sz] at z8 t8 s8
    refine wpAny_pure ⟨_, rfl, ?_⟩
    show Q (.ref g5.objs.size) _
    rw [sz]
    exact hQ g8 z8 (up _ _ D.TOz r5) (a5.same fun o e => up _ o D.i1z e) (b5.same fun o e => up _ o D.i2z e) t8 s8 fun k o n1 n2 n3 n4 e => up k o n1 (rest5 k o n1 n2 n3 n4 e)))
theorem zz_end {Q : Fin → Shared → Prop} (hh : A.handled = none) (D : ZipApart zz ti tr ia ib la lb) (qz : IsZip s.heap zz ti tr .none) (qi : IsPair s.heap ti (.ref ia) (.ref ib)) (qr : IsPair s.heap tr a b) (pa : IsIt c1 s.heap ia la m1) (pb : IsIt c2 s.heap ib lb m2)
    (sa : IsSq c1 s.heap la us) (sb : IsSq c2 s.heap lb vs) (en : us[m1]? = none ∨ vs[m2]? = none)
    (hE : ∀ h2 x, Rest zz tr ia ib s.heap h2 → (∃ o, h2.get? x = some o ∧ o.cls = .type "StopIteration") → E (.ref x) { s with heap := h2 }) :
    wpAny (model prog w) A (Builtin.«zip.__next__» ⟨[.ref zz], []⟩) Q E s := by
  show wpAny _ _ (field (.ref zz) 2 >>= _) _ _ _
  refine wpAny_bind (wpAny_field qz rfl (x := .bool false) rfl ?_)
  show wpAny _ _ (field (.ref zz) 3 >>= _) _ _ _
  refine wpAny_bind (wpAny_field qz rfl (x := .ref ti) rfl (wpAny_bind (wpAny_seqItems qi rfl ?_)))
  show wpAny _ _ (Builtin.SmallTypes.ownedTupleIsFree (.ref zz) >>= _) _ _ _
  refine (wpAny_bind (by
    unfold Builtin.SmallTypes.ownedTupleIsFree
    refine wpAny_bind (wpAny_field qz rfl (x := .none) rfl (wpAny_pure ?_))
    simp only [if_true]
    refine (wpAny_bind (wpAny_rule (wpAny_bind (wpAny_field qz rfl (x := .ref tr) rfl (wpAny_bind (wpAny_setField_rec qz (by simp) fun g1 z1 k1 => ?_))))))
    have z1 : IsZip g1 zz ti tr .ellipsis := z1
    refine (wpAny_bind ?_)
    simp only [List.forIn_cons, List.forIn_nil, List.zipIdx_cons, List.zipIdx_nil]
    refine (wpAny_bind (wpAny_bind (wpAny_onRaise ?_)))
    show wpAny _ _ (Builtin.SmallTypes.nextOf (.ref ia) >>= _) _ _ _
    cases eu : us[m1]? with
    | none =>
      refine wpAny_bind (nx_end hh (pa.keep k1.extBut D.i1z) (sa.keep k1.extBut D.l1z) eu fun g2 x k2 hx => ?_)
      obtain ⟨o, ho, hc⟩ := hx
      have z2 : IsZip g2 zz ti tr .ellipsis := k2 _ _ D.i1z.symm z1
      have nx : x ≠ zz := fun q => by rw [q, z2] at ho; cases ho; simp at hc
      exact wpAny_setField_rec z2 (by simp) fun g3 _ k3 => hE g3 x (fun k o n1 n2 n3 n4 e => k3.extBut _ _ n1 (k2 _ _ n3 (k1.extBut _ _ n1 e))) ⟨o, k3.extBut _ _ nx ho, hc⟩
    | some u =>
      have ev : vs[m2]? = none := en.resolve_left fun q => by rw [eu] at q; cases q
      refine wpAny_bind (nx_item (pa.keep k1.extBut D.i1z) (sa.keep k1.extBut D.l1z) eu fun g2 a2 k2 => wpAny_pure ?_)
      have r2 : IsPair g2 tr a b := k2.extBut _ _ D.TOi1 (k1.extBut _ _ D.TOz qr)
      refine wpAny_bind (wpAny_seqItems r2 rfl (wpAny_bind (wpAny_updateSeq_pair r2 fun g3 r3 k3 => ?_)))
      refine (wpAny_bind (wpAny_letGo (wpAny_pure (wpAny_bind (wpAny_bind (wpAny_onRaise ?_))))))
      show wpAny _ _ (Builtin.SmallTypes.nextOf (.ref ib) >>= _) _ _ _
      refine wpAny_bind (nx_end hh (((pb.keep k1.extBut D.i2z).keep k2.extBut D.i12.symm).keep k3.extBut D.TOi2.symm) (((sb.keep k1.extBut D.l2z).keep k2.extBut D.l2i1).keep k3.extBut D.l2TO) ev fun g4 x k4 hx => ?_)
      obtain ⟨o, ho, hc⟩ := hx
      have z4 : IsZip g4 zz ti tr .ellipsis := k4 _ _ D.i2z.symm (k3.extBut _ _ D.TOz.symm (k2.extBut _ _ D.i1z.symm z1))
      have nx : x ≠ zz := fun q => by rw [q, z4] at ho; cases ho; simp at hc
      exact wpAny_setField_rec z4 (by simp) fun g5 _ k5 => hE g5 x (fun k o n1 n2 n3 n4 e => k5.extBut _ _ n1 (k4 _ _ n4 (k3.extBut _ _ n2 (k2.extBut _ _ n3 (k1.extBut _ _ n1 e))))) ⟨o, k5.extBut _ _ nx ho, hc⟩))
theorem py_item {Q : Option Value → Shared → Prop} (D : ZipApart zz ti tr ia ib la lb) (qz : IsZip s.heap zz ti tr .none) (qi : IsPair s.heap ti (.ref ia) (.ref ib)) (qr : IsPair s.heap tr a b) (pa : IsIt c1 s.heap ia la m1) (pb : IsIt c2 s.heap ib lb m2)
    (sa : IsSq c1 s.heap la us) (sb : IsSq c2 s.heap lb vs) (eu : us[m1]? = some u) (ev : vs[m2]? = some v)
    (hQ : ∀ h2, IsZip h2 zz ti tr (rawInt s.heap.objs.size) → IsPair h2 tr u v → IsIt c1 h2 ia la (m1 + 1) → IsIt c2 h2 ib lb (m2 + 1) → IsPair h2 s.heap.objs.size u v → h2.objs.size = s.heap.objs.size + 1 → Rest zz tr ia ib s.heap h2 → Q (some (.ref s.heap.objs.size)) { s with heap := h2 }) :
    wpAny (model prog w) A (pyNext (.ref zz)) Q E s := by
  have ty : s.TypeIs (.ref zz) "zip" := ⟨_, qz, rfl⟩
  unfold pyNext
  exact wpAny_bind (wpAny_attempt (wpAny_callSpecial?_slot (name := Str.ofString "__next__") ty F.slot_zip_next (wpAny_call_entry F.slot_zip_next ty F.entry_zip_next (zz_item D qz qi qr pa pb sa sb eu ev fun h2 x1 x2 x3 x4 x5 x6 x7 => wpAny_pure (hQ h2 x1 x2 x3 x4 x5 x6 x7)) (F.args_zip_next_1 _))))
theorem py_end {Q : Option Value → Shared → Prop} (hh : A.handled = none) (D : ZipApart zz ti tr ia ib la lb) (qz : IsZip s.heap zz ti tr .none) (qi : IsPair s.heap ti (.ref ia) (.ref ib)) (qr : IsPair s.heap tr a b) (pa : IsIt c1 s.heap ia la m1) (pb : IsIt c2 s.heap ib lb m2)
    (sa : IsSq c1 s.heap la us) (sb : IsSq c2 s.heap lb vs) (en : us[m1]? = none ∨ vs[m2]? = none) (hQ : ∀ h2, Rest zz tr ia ib s.heap h2 → Q none { s with heap := h2 }) : wpAny (model prog w) A (pyNext (.ref zz)) Q E s := by
  have ty : s.TypeIs (.ref zz) "zip" := ⟨_, qz, rfl⟩
  unfold pyNext
  refine wpAny_bind (wpAny_attempt (wpAny_callSpecial?_slot (name := Str.ofString "__next__") ty F.slot_zip_next (wpAny_call_entry F.slot_zip_next ty F.entry_zip_next (zz_end hh D qz qi qr pa pb sa sb en fun h2 x hk hx => ?_) (F.args_zip_next_1 _))))
  obtain ⟨o, ho, hc⟩ := hx
  exact wpAny_bind (wpAny_isInstance (T := "StopIteration") (b := true) ⟨o, ho, hc⟩ isSubtype_stop (wpAny_pure (hQ _ hk)))
end
/-! ### zip(a tuple, a list) -/
abbrev w1 (h : Heap) (la : Addr) : Heap := h.push { cls := .type "tuple_iterator", data := .fields #[.ref la, .int 0 0] }
abbrev w2 (h : Heap) (la lb : Addr) : Heap := (w1 h la).push { cls := .type "list_iterator", data := .fields #[.ref lb, .int 0 0] }
abbrev w3 (h : Heap) (la lb : Addr) : Heap := (w2 h la lb).push { cls := .type "tuple", data := .seq #[.ref h.objs.size, .ref (w1 h la).objs.size] }
abbrev w4 (h : Heap) (la lb : Addr) : Heap := (w3 h la lb).push { cls := .type "tuple", data := .seq #[.none, .none] }
abbrev w5 (h : Heap) (la lb : Addr) : Heap := (w4 h la lb).push { cls := .type "zip", data := .fields #[.none, .bool false, .bool false, .ref (w2 h la lb).objs.size, .ref (w3 h la lb).objs.size] }
theorem meets_new (la lb : Addr) (us vs : Array Value) : Meets (Builtin.«zip.__new__» ⟨[.type "zip", .ref la, .ref lb], []⟩) (fun _ R s => s.heap.IsTuple la us ∧ s.heap.IsList lb vs ∧ R (.ok (.ret (.ref (w4 s.heap la lb).objs.size))) { s with heap := w5 s.heap la lb }) :=
  .of_wp fun prog w A R s q => by
    obtain ⟨hp, g, d, tk, os⟩ := s
    obtain ⟨qa, qb, q⟩ := q
    have hsub := sub_zip
    have ha : Heap.IsTuple (Shared.heap ⟨hp, g, d, tk, os⟩) la us := qa
    have hb : Heap.IsList (Shared.heap ⟨hp.push { cls := .type "tuple_iterator", data := .fields #[.ref la, .int 0 0] }, g, d, tk, os⟩) lb vs := Heap.IsList.push qb _
    wp_walk using wpAny_pyIter_tuple ha, wpAny_pyIter_list hb
    exact ⟨_, rfl, q⟩
section
variable {prog : Program} {w : World} {A : Around} {E : Value → Shared → Prop} {s : Shared}
theorem call_new {la lb : Addr} {us vs : Array Value} {Q : Value → Shared → Prop} (qa : s.heap.IsTuple la us) (qb : s.heap.IsList lb vs)
    (h : ∀ h2, IsZip h2 (s.heap.objs.size + 4) (s.heap.objs.size + 2) (s.heap.objs.size + 3) .none → IsPair h2 (s.heap.objs.size + 2) (.ref s.heap.objs.size) (.ref (s.heap.objs.size + 1)) → IsPair h2 (s.heap.objs.size + 3) .none .none →
      IsIt .tup h2 s.heap.objs.size la 0 → IsIt .lst h2 (s.heap.objs.size + 1) lb 0 → (∀ k o, s.heap.get? k = some o → h2.get? k = some o) → Q (.ref (s.heap.objs.size + 4)) { s with heap := h2 }) : wpAny (model prog w) A (call (.type "zip") [.ref la, .ref lb]) Q E s := by
  refine callType_new F.called_zip (by decide) (F.typeCall_zip_2 _ _) (F.newCall_zip_2 _ _) (fun obj => F.args_object_init_3 obj _ _) F.entry_zip_new (meets_new la lb us vs) ⟨qa, qb, ?_⟩
  have n1 : (w1 s.heap la).objs.size = s.heap.objs.size + 1 := Heap.size_push ..
  have n2 : (w2 s.heap la lb).objs.size = s.heap.objs.size + 2 := by rw [Heap.size_push, n1]
  have n3 : (w3 s.heap la lb).objs.size = s.heap.objs.size + 3 := by rw [Heap.size_push, n2]
  have n4 : (w4 s.heap la lb).objs.size = s.heap.objs.size + 4 := by rw [Heap.size_push, n3]
  have up : ∀ {h : Heap} {k : Addr} {o o2 : Obj}, h.get? k = some o → (h.push o2).get? k = some o := fun e => Heap.get?_push_of_some _ e
  have g5 : (w5 s.heap la lb).get? (w4 s.heap la lb).objs.size = some _ := Heap.get?_push_size _ rfl
  have g4 : (w5 s.heap la lb).get? (w3 s.heap la lb).objs.size = some _ := up (Heap.get?_push_size _ rfl)
  have g3 : (w5 s.heap la lb).get? (w2 s.heap la lb).objs.size = some _ := up (up (Heap.get?_push_size _ rfl))
  have g2 : (w5 s.heap la lb).get? (w1 s.heap la).objs.size = some _ := up (up (up (Heap.get?_push_size _ rfl)))
  have g1 : (w5 s.heap la lb).get? s.heap.objs.size = some _ := up (up (up (up (Heap.get?_push_size _ rfl))))
  show _ ∧ _
  rw [n2, n3, n4] at g5
  rw [n1, n2] at g3
  rw [n3] at g4
  rw [n1] at g2
  rw [n4]
  exact ⟨⟨_, g5, rfl⟩, h _ g5 g3 g4 ⟨_, g1, rfl, rfl⟩ ⟨_, g2, rfl, rfl⟩ fun k o e => up (up (up (up (up e))))⟩
end
/-! ### at the layer -/
open L2
section
/-- the tuple at a and the list at b, item by item -/
def ItzM (K : PySem.W.Frag) (a b : Addr) : It :=
  ⟨fun i H => ∃ (xs ys : List V) (x y : V), SqT K H a xs ∧ SqL K H b ys ∧ xs[i]? = some x ∧ ys[i]? = some y,
    fun i H v H' => ∃ T x y, v = .ref T ∧ H T = none ∧ H' = upd H T (.tup [x, y]) ∧ (∀ xs, SqT K H a xs → xs[i]? = some x) ∧ ∀ ys, SqL K H b ys → ys[i]? = some y,
    fun i H => ∃ xs ys : List V, SqT K H a xs ∧ SqL K H b ys ∧ (xs.length ≤ i ∨ ys.length ≤ i)⟩
/-- the objects of such an iterator at turn i -/
def At5 (zz ti tr ia ib a b : Addr) (i : Nat) (h : Heap) : Prop := IsZip h zz ti tr .none ∧ IsPair h ti (.ref ia) (.ref ib) ∧ (∃ x y, IsPair h tr x y) ∧ IsIt .tup h ia a i ∧ IsIt .lst h ib b i
theorem mem5 {k zz ti tr ia ib : Addr} (h : k ∈ [zz, ti, tr, ia, ib]) : k = zz ∨ k = ti ∨ k = tr ∨ k = ia ∨ k = ib := by simpa using h
theorem At5.there {zz ti tr ia ib a b : Addr} {i : Nat} {h : Heap} (p : At5 zz ti tr ia ib a b i h) : ∀ k ∈ [zz, ti, tr, ia, ib], ∃ o, h.get? k = some o ∧ ∀ v, o.data ≠ .cell v := fun k hk => by
  obtain ⟨p1, p2, ⟨x, y, p3⟩, p4, p5⟩ := p
  obtain ⟨o4, f4, e4, d4⟩ := p4.obj
  obtain ⟨o5, f5, e5, d5⟩ := p5.obj
  rcases mem5 hk with rfl | rfl | rfl | rfl | rfl
  · exact ⟨_, p1, fun v => nofun⟩
  · exact ⟨_, p2, fun v => nofun⟩
  · exact ⟨_, p3, fun v => nofun⟩
  · exact ⟨o4, e4, fun v q => by rw [d4] at q; cases q⟩
  · exact ⟨o5, e5, fun v q => by rw [d5] at q; cases q⟩
theorem turn_M {Pr : Program} {w : World} {K : PySem.W.Frag} {elts : List Expr} {kk : Nat} {tpos : Pos} {a b zz ti tr ia ib : Addr} (D : ZipApart zz ti tr ia ib a b) : Turn Pr w K (.Tuple elts kk tpos) (ItzM K a b) [zz, ti, tr, ia, ib] zz (At5 zz ti tr ia ib a b) where
  mem := List.mem_cons_self
  obj := fun _ _ p => p.there
  keep := fun i h h2 p k => by
    obtain ⟨p1, p2, ⟨x, y, p3⟩, p4, p5⟩ := p
    exact ⟨k zz (by simp) _ p1, k ti (by simp) _ p2, ⟨x, y, k tr (by simp) _ p3⟩, p4.same fun o q => k ia (by simp) o q, p5.same fun o q => k ib (by simp) o q⟩
  item := fun X hP hw hK hc i pins s σ H E I hf p hg => by
    subst hP hw hK
    have th := p.there
    obtain ⟨p1, p2, ⟨x0, y0, p3⟩, p4, p5⟩ := p
    obtain ⟨xs, ys, x, y, qa, qb, ex, ey⟩ := hg
    obtain ⟨ua, ra, ta, _⟩ := I.tuple qa
    obtain ⟨ub, rb, tb, _⟩ := I.list qb
    obtain ⟨u, hu, ru⟩ := ra.get ex
    obtain ⟨v, hv, rv⟩ := rb.get ey
    have lt : ∀ k ∈ [zz, ti, tr, ia, ib], k < s.heap.objs.size := fun k hk => by
      obtain ⟨o, e, _⟩ := th k hk
      exact Heap.lt_size e
    have ltz := lt zz List.mem_cons_self
    refine py_item (c1 := .tup) (c2 := .lst) D p1 p2 p3 p4 p5 ta tb.isList (u := u) (v := v) (by simpa using hu) (by simpa using hv) fun h2 z2 r2 a2 b2 t2 sz rest => ⟨_, rfl, wpAny_letOwnedTupleGo_zip (s := { s with heap := h2 }) z2 fun h3 z3 sb => ?_⟩
    have t3 : h3.get? s.heap.objs.size = some { cls := .type "tuple", data := .seq #[u, v] } := (sb.2 _ (Nat.ne_of_gt ltz)).trans t2
    have keep5 : ∀ k o, k ∉ [zz, ti, tr, ia, ib] → s.heap.get? k = some o → h3.get? k = some o := fun k o hk e => by
      have n : ∀ j ∈ [zz, ti, tr, ia, ib], k ≠ j := fun j hj q => hk (q ▸ hj)
      exact (sb.2 k (n zz (by simp))).trans (rest k o (n zz (by simp)) (n tr (by simp)) (n ia (by simp)) (n ib (by simp)) e)
    have J : Inv X pins σ (upd H s.heap.objs.size (.tup [x, y])) { s with heap := h3 } := I.turnedNew (t' := s.toks) (ch := [zz, ti, tr, ia, ib]) keep5 hf (Nat.le_refl _) ⟨by show 2 ≤ sizeLine; decide, [u, v], .cons ru (.cons rv .nil), ⟨_, t3, rfl, _, rfl⟩⟩
    refine ⟨.ref s.heap.objs.size, _, J, rfl, ⟨_, x, y, rfl, I.hok.fresh (Nat.le_refl _), rfl, fun l hl => by rw [I.tuple_inj hl qa]; exact ex, fun l hl => by rw [I.list_inj hl qb]; exact ey⟩, ⟨z3, ?_, ⟨u, v, ?_⟩, ?_, ?_⟩, fun k hk => ?_⟩
    · exact (sb.2 _ D.TIz).trans (rest _ _ D.TIz D.TITO D.TIi1 D.TIi2 p2)
    · exact (sb.2 _ D.TOz).trans r2
    · exact a2.same fun o q => (sb.2 _ D.i1z).trans q
    · exact b2.same fun o q => (sb.2 _ D.i2z).trans q
    · rw [upd_ne (Nat.ne_of_lt (lt k hk))]
      exact (hf k hk).1
  done := fun X hP hw hK hc i pins s σ H E I hf p hg => by
    subst hP hw hK
    obtain ⟨p1, p2, ⟨x0, y0, p3⟩, p4, p5⟩ := p
    obtain ⟨xs, ys, qa, qb, en⟩ := hg
    obtain ⟨ua, ra, ta, _⟩ := I.tuple qa
    obtain ⟨ub, rb, tb, _⟩ := I.list qb
    have la := ra.length
    have lb := rb.length
    have en2 : ua.toArray[i]? = none ∨ ub.toArray[i]? = none := en.imp (fun q => by simp; omega) fun q => by simp; omega
    refine py_end (c1 := .tup) (c2 := .lst) (I.ok.hd hc) D p1 p2 p3 p4 p5 ta tb.isList en2 fun h2 rest => ⟨rfl, I.turnedL (t' := s.toks) (ch := [zz, ti, tr, ia, ib]) (fun k o hk e => ?_) hf⟩
    have n : ∀ j ∈ [zz, ti, tr, ia, ib], k ≠ j := fun j hj q => hk (q ▸ hj)
    exact rest k o (n zz (by simp)) (n tr (by simp)) (n ia (by simp)) (n ib (by simp)) e
  self := fun _ _ _ _ _ p h => wpAny_pyIter_zip p.1 h
def iZipM (K : PySem.W.Frag) (ta : TA) : TI := fun σ H R => ta σ H fun vs H1 => ∃ a b xs ys, vs = [.ref a, .ref b] ∧ SqT K H1 a xs ∧ SqL K H1 b ys ∧ R (ItzM K a b) H1
theorem pi_zipM {X : Cx} {e e2 : Expr} {ta : TA} {p pos tpos : Pos} {elts : List Expr} {kk : Nat} (hg : Gl X "zip") (hm : X.mg "zip" = none) (ha : PA X [e, e2] ta) (hs : starEach [e, e2] X.env = (false, eval e X.env) :: starEach [e2] X.env) (hpl : (backTo pos (starEach [e2] X.env)).any (·.1) = false) :
    PI X (.Tuple elts kk tpos) (.Call (.Name "zip" p) [e, e2] [] pos) (iZipM X.K ta) := ⟨fun pins s σ H R I h => by
  refine Call_ (ld_blt I hg hm PyProof.Rows.boot_zip (PyProof.Rows.callWith_type1 (thn (ha.run pos pins s σ H _ I h) fun us s1 q => ?_) hs hpl))
  obtain ⟨vs, H1, I1, rv, a, b, xs, ys, ex, qa, qb, q⟩ := q
  subst ex
  cases rv with
  | cons r1 rr =>
    cases rr with
    | cons r2 rr =>
      cases rr
      cases r1
      cases r2
      obtain ⟨ua, ra, ta2, _⟩ := I1.tuple qa
      obtain ⟨ub, rb, tb, _⟩ := I1.list qb
      obtain ⟨oa, hoa, _⟩ := id ta2
      have n := s1.heap.objs.size
      have fr : ∀ k, k ∈ [s1.heap.objs.size + 4, s1.heap.objs.size + 2, s1.heap.objs.size + 3, s1.heap.objs.size, s1.heap.objs.size + 1] → FpOk X pins H1 k := fun k hk => by
        have le : s1.heap.objs.size ≤ k := by rcases mem5 hk with z | z | z | z | z <;> rw [z] <;> first | exact Nat.le_refl _ | exact Nat.le_add_right _ _
        exact I1.fpOk le (I1.hok.fresh le)
      refine call_new (show s1.heap.IsTuple a ua.toArray from ta2) tb.isList fun h2 z2 t2 r2 a2 b2 keep => wpAny_pyIter_zip z2 ?_
      have J : Inv X pins σ H1 { s1 with heap := h2 } := I1.kept (t' := s1.toks) keep
      exact ⟨s1.heap.objs.size + 4, [s1.heap.objs.size + 4, s1.heap.objs.size + 2, s1.heap.objs.size + 3, s1.heap.objs.size, s1.heap.objs.size + 1], _, _, H1, rfl, J, turn_M (PySem.W.ktu_apart s1.heap.objs.size a b (Heap.lt_size hoa) tb.lt), ⟨z2, t2, ⟨_, _, r2⟩, a2, b2⟩, fr, q⟩⟩
/-- either way -/
theorem pi_or {X : Cx} {tg it : Expr} {w1 w2 : TI} (h1 : PI X tg it w1) (h2 : PI X tg it w2) : PI X tg it (fun σ H R => w1 σ H R ∨ w2 σ H R) := ⟨fun pins s σ H R I h => h.elim (h1.run pins s σ H R I) (h2.run pins s σ H R I)⟩
end
end FkZ

set_option Elab.async false
set_option linter.all false
set_option autoImplicit false
set_option maxRecDepth 100000
set_option maxHeartbeats 2000000
/-! Fk 8: what is walked; targets; comprehensions -/
namespace Fk
open PySem PySem.Spec PyProof.Rows L2
section
variable {S : Stc} {G : Gm} {cf : Nat → List Sl → Hl → R D} {X : Cx} {sc sf : Scope} {N : List Str} {cm : Bool} {W : WX} {pos : Pos} {tg : Expr}
/-- J walks the items xs, whatever grows beside -/
structure Wk (G : Gm) (F : Hp) (xs : List P) (J : L2.It) : Prop where
  go : ∀ (i : Nat) (H : Hp), Same F H → i < xs.length → J.go i H
  stop : ∀ (i : Nat) (H : Hp), Same F H → xs.length ≤ i → J.stop i H
  yld : ∀ (i : Nat) (H : Hp) (x : V) (H' : Hp) (y : P), Same F H → xs[i]? = some y → J.yld i H x H' → (H' = H ∧ RP G F y x) ∨ ∃ p o, H p = none ∧ H' = upd H p o ∧ RP G (upd F p o) y x
theorem same_upd2 {F F' : Hp} {p : Addr} {o : HO} (s : Same F F') : Same (upd F p o) (upd F' p o) := fun b u e => by
  by_cases hb : b = p
  · subst hb; rw [upd_same] at e ⊢; exact e
  · rw [upd_ne hb] at e ⊢; exact s _ _ e
abbrev rI2 (G : Gm) : Hp → Rho → List P → L2.It → Prop := fun F _ xs J => Wk G F xs J
theorem wk_list {F : Hp} {a : Addr} {xs : List P} {vs : List V} (q : SqL G.K F a vs) (t : RPs G F xs vs) : Wk G F xs (Itl G.K a) where
  go := fun i H s hi => by
    obtain ⟨v, hv, _⟩ := t.get (List.getElem?_eq_getElem hi)
    exact ⟨vs, v, s.seq q, hv⟩
  stop := fun i H s hi => ⟨vs, s.seq q, by rw [← t.len]; exact hi⟩
  yld := fun i H x H' y s hy h => by
    obtain ⟨e, h⟩ := h
    obtain ⟨v, hv, rv⟩ := t.get hy
    have := h vs (s.seq q)
    rw [hv] at this
    cases this
    exact .inl ⟨e, rv⟩
theorem wk_tup {F : Hp} {a : Addr} {xs : List P} {vs : List V} (q : SqT G.K F a vs) (t : RPs G F xs vs) : Wk G F xs (Itt G.K a) where
  go := fun i H s hi => by
    obtain ⟨v, hv, _⟩ := t.get (List.getElem?_eq_getElem hi)
    exact ⟨vs, v, SqT.same s q, hv⟩
  stop := fun i H s hi => ⟨vs, SqT.same s q, by rw [← t.len]; exact hi⟩
  yld := fun i H x H' y s hy h => by
    obtain ⟨e, h⟩ := h
    obtain ⟨v, hv, rv⟩ := t.get hy
    have := h vs (SqT.same s q)
    rw [hv] at this
    cases this
    exact .inl ⟨e, rv⟩
theorem rangeP_get {lo : Int} {n i : Nat} {y : P} (h : (rangeP lo n)[i]? = some y) : i < n ∧ y = .int (lo + (i : Int)) := by
  unfold rangeP at h
  rw [List.getElem?_map] at h
  obtain ⟨k, e1, e2⟩ := Option.map_eq_some_iff.mp h
  have hi : i < n := by
    have := (List.getElem?_eq_some_iff.mp e1).1
    simpa using this
  rw [List.getElem?_range hi] at e1
  cases e1
  exact ⟨hi, e2.symm⟩
theorem wk_range {F : Hp} (lo : Int) (n : Nat) : Wk G F (rangeP lo n) (Itr lo n) where
  go := fun i H s hi => by
    show i < n
    simpa [rangeP] using hi
  stop := fun i H s hi => by
    show n ≤ i
    simpa [rangeP] using hi
  yld := fun i H x H' y s hy h => by
    obtain ⟨e, h⟩ := h
    obtain ⟨_, e2⟩ := rangeP_get hy
    subst e2 h
    exact .inl ⟨e, .int _⟩
theorem wk_str {F : Hp} (s : Str) : Wk G F (s.cps.toList.map fun c => P.str ⟨#[c]⟩) (Its s) where
  go := fun i H _ hi => by
    show i < s.cps.size
    simpa using hi
  stop := fun i H _ hi => by
    show s.cps.size ≤ i
    simpa using hi
  yld := fun i H x H' y _ hy h => by
    obtain ⟨e, c, hc, h⟩ := h
    rw [List.getElem?_map] at hy
    obtain ⟨k, e1, e2⟩ := Option.map_eq_some_iff.mp hy
    have : s.cps.toList[i]? = s.cps[i]? := by simp
    rw [this, hc] at e1
    cases e1
    subst e2 h
    exact .inl ⟨e, .str _⟩
theorem wk_enum {F : Hp} {a : Addr} {xs : List P} {vs : List V} (q : SqL G.K F a vs) (t : RPs G F xs vs) : Wk G F ((xs.zipIdx).map fun q => P.tup [.int q.2, q.1]) (Ite G.K a) where
  go := fun i H s hi => by
    have hi' : i < xs.length := by simpa using hi
    obtain ⟨v, hv, _⟩ := t.get (List.getElem?_eq_getElem hi')
    exact ⟨vs, v, s.seq q, hv⟩
  stop := fun i H s hi => ⟨vs, s.seq q, by rw [← t.len]; simpa using hi⟩
  yld := fun i H x H' y s hy h => by
    obtain ⟨T, x', e1, e2, e3, h⟩ := h
    rw [List.getElem?_map] at hy
    obtain ⟨k, h1, h2⟩ := Option.map_eq_some_iff.mp hy
    rw [List.getElem?_zipIdx] at h1
    obtain ⟨z, h3, h4⟩ := Option.map_eq_some_iff.mp h1
    obtain ⟨v, hv, rv⟩ := t.get h3
    have := h vs (s.seq q)
    rw [hv] at this
    cases this
    subst h4 h2 e1
    refine .inr ⟨T, _, e2, e3, .tup (.inl (.inl upd_same)) (.cons ?_ (.cons (rv.mono (same_upd (s.free e2))) .nil))⟩
    rw [show ((0 + i : Nat) : Int) = (i : Int) by simp]
    exact .int _
theorem zip_get {xs ys : List P} {i : Nat} {y : P} (h : ((xs.zip ys).map fun q => P.tup [q.1, q.2])[i]? = some y) : ∃ a b, xs[i]? = some a ∧ ys[i]? = some b ∧ y = .tup [a, b] := by
  rw [List.getElem?_map] at h
  obtain ⟨k, h1, h2⟩ := Option.map_eq_some_iff.mp h
  rw [List.getElem?_zip_eq_some] at h1
  exact ⟨_, _, h1.1, h1.2, h2.symm⟩
theorem wk_zipL {F : Hp} {a b : Addr} {xs ys : List P} {vs ws : List V} (q : SqL G.K F a vs) (q2 : SqL G.K F b ws) (t : RPs G F xs vs) (t2 : RPs G F ys ws) : Wk G F ((xs.zip ys).map fun q => P.tup [q.1, q.2]) (Itz G.K a b) where
  go := fun i H s hi => by
    have hi' : i < xs.length ∧ i < ys.length := by simp at hi; omega
    obtain ⟨v, hv, _⟩ := t.get (List.getElem?_eq_getElem hi'.1)
    obtain ⟨w', hw, _⟩ := t2.get (List.getElem?_eq_getElem hi'.2)
    exact ⟨vs, ws, v, w', s.seq q, s.seq q2, hv, hw⟩
  stop := fun i H s hi => ⟨vs, ws, s.seq q, s.seq q2, by rw [← t.len, ← t2.len]; simp at hi; omega⟩
  yld := fun i H x H' y s hy h => by
    obtain ⟨T, x1, y1, e1, e2, e3, h, h2⟩ := h
    obtain ⟨c, d, g1, g2, g3⟩ := zip_get hy
    obtain ⟨v, hv, rv⟩ := t.get g1
    obtain ⟨w', hw, rw'⟩ := t2.get g2
    have z1 := h vs (s.seq q)
    have z2 := h2 ws (s.seq q2)
    rw [hv] at z1
    rw [hw] at z2
    cases z1
    cases z2
    subst g3 e1
    exact .inr ⟨T, _, e2, e3, .tup (.inl (.inl upd_same)) (.cons (rv.mono (same_upd (s.free e2))) (.cons (rw'.mono (same_upd (s.free e2))) .nil))⟩
theorem wk_zipT {F : Hp} {a b : Addr} {xs ys : List P} {vs ws : List V} (q : SqT G.K F a vs) (q2 : SqT G.K F b ws) (t : RPs G F xs vs) (t2 : RPs G F ys ws) : Wk G F ((xs.zip ys).map fun q => P.tup [q.1, q.2]) (RZ.ItzT G.K a b) where
  go := fun i H s hi => by
    have hi' : i < xs.length ∧ i < ys.length := by simp at hi; omega
    obtain ⟨v, hv, _⟩ := t.get (List.getElem?_eq_getElem hi'.1)
    obtain ⟨w', hw, _⟩ := t2.get (List.getElem?_eq_getElem hi'.2)
    exact ⟨vs, ws, v, w', SqT.same s q, SqT.same s q2, hv, hw⟩
  stop := fun i H s hi => ⟨vs, ws, SqT.same s q, SqT.same s q2, by rw [← t.len, ← t2.len]; simp at hi; omega⟩
  yld := fun i H x H' y s hy h => by
    obtain ⟨T, x1, y1, e1, e2, e3, h, h2⟩ := h
    obtain ⟨c, d, g1, g2, g3⟩ := zip_get hy
    obtain ⟨v, hv, rv⟩ := t.get g1
    obtain ⟨w', hw, rw'⟩ := t2.get g2
    have z1 := h vs (SqT.same s q)
    have z2 := h2 ws (SqT.same s q2)
    rw [hv] at z1
    rw [hw] at z2
    cases z1
    cases z2
    subst g3 e1
    exact .inr ⟨T, _, e2, e3, .tup (.inl (.inl upd_same)) (.cons (rv.mono (same_upd (s.free e2))) (.cons (rw'.mono (same_upd (s.free e2))) .nil))⟩
theorem wk_zipM {F : Hp} {a b : Addr} {xs ys : List P} {vs ws : List V} (q : SqT G.K F a vs) (q2 : SqL G.K F b ws) (t : RPs G F xs vs) (t2 : RPs G F ys ws) : Wk G F ((xs.zip ys).map fun q => P.tup [q.1, q.2]) (FkZ.ItzM G.K a b) where
  go := fun i H s hi => by
    have hi' : i < xs.length ∧ i < ys.length := by simp at hi; omega
    obtain ⟨v, hv, _⟩ := t.get (List.getElem?_eq_getElem hi'.1)
    obtain ⟨w', hw, _⟩ := t2.get (List.getElem?_eq_getElem hi'.2)
    exact ⟨vs, ws, v, w', SqT.same s q, s.seq q2, hv, hw⟩
  stop := fun i H s hi => ⟨vs, ws, SqT.same s q, s.seq q2, by rw [← t.len, ← t2.len]; simp at hi; omega⟩
  yld := fun i H x H' y s hy h => by
    obtain ⟨T, x1, y1, e1, e2, e3, h, h2⟩ := h
    obtain ⟨c, d, g1, g2, g3⟩ := zip_get hy
    obtain ⟨v, hv, rv⟩ := t.get g1
    obtain ⟨w', hw, rw'⟩ := t2.get g2
    have z1 := h vs (SqT.same s q)
    have z2 := h2 ws (s.seq q2)
    rw [hv] at z1
    rw [hw] at z2
    cases z1
    cases z2
    subst g3 e1
    exact .inr ⟨T, _, e2, e3, .tup (.inl (.inl upd_same)) (.cons (rv.mono (same_upd (s.free e2))) (.cons (rw'.mono (same_upd (s.free e2))) .nil))⟩
theorem rev_get {xs : List P} {i : Nat} {y : P} (h : xs.reverse[i]? = some y) : i < xs.length ∧ xs[xs.length - 1 - i]? = some y := by
  have hi : i < xs.length := by simpa using (List.getElem?_eq_some_iff.mp h).1
  rw [List.getElem?_reverse hi] at h
  exact ⟨hi, h⟩
theorem wk_revL {F : Hp} {a : Addr} {xs : List P} {vs : List V} (q : SqL G.K F a vs) (t : RPs G F xs vs) : Wk G F xs.reverse (Itv G.K a vs.length) where
  go := fun i H s hi => by
    have hi' : i < xs.length := by simpa using hi
    obtain ⟨v, hv, _⟩ := t.get (List.getElem?_eq_getElem (show xs.length - 1 - i < xs.length by omega))
    rw [t.len] at hv
    exact ⟨by rw [← t.len]; exact hi', vs, v, s.seq q, hv⟩
  stop := fun i H s hi => by
    show vs.length ≤ i
    rw [← t.len]; simpa using hi
  yld := fun i H x H' y s hy h => by
    obtain ⟨e, h⟩ := h
    obtain ⟨hi, h1⟩ := rev_get hy
    obtain ⟨v, hv, rv⟩ := t.get h1
    rw [t.len] at hv
    have z := h vs (s.seq q)
    rw [hv] at z
    cases z
    exact .inl ⟨e, rv⟩
theorem wk_revT {F : Hp} {a : Addr} {xs : List P} {vs : List V} (q : SqT G.K F a vs) (t : RPs G F xs vs) : Wk G F xs.reverse (RT.ItvT G.K a vs.length) where
  go := fun i H s hi => by
    have hi' : i < xs.length := by simpa using hi
    obtain ⟨v, hv, _⟩ := t.get (List.getElem?_eq_getElem (show xs.length - 1 - i < xs.length by omega))
    rw [t.len] at hv
    exact ⟨by rw [← t.len]; exact hi', vs, v, SqT.same s q, hv⟩
  stop := fun i H s hi => by
    show vs.length ≤ i
    rw [← t.len]; simpa using hi
  yld := fun i H x H' y s hy h => by
    obtain ⟨e, h⟩ := h
    obtain ⟨hi, h1⟩ := rev_get hy
    obtain ⟨v, hv, rv⟩ := t.get h1
    rw [t.len] at hv
    have z := h vs (SqT.same s q)
    rw [hv] at z
    cases z
    exact .inl ⟨e, rv⟩
/-! ### the iterables of the text -/
abbrev tI (G : Gm) (cf : Nat → List Sl → Hl → R D) (cn : Nat → Option P) (W : WX) (k : I) : TI := tR G W (rI2 G) (dI cf cn k)
theorem piW {it : Expr} {t t' : TI} (h : PI X tg it t) (w : ∀ σ H Q, t' σ H Q → t σ H Q) : PI X tg it t' := ⟨fun pins s σ H Q I q => h.run pins s σ H Q I (w σ H Q q)⟩
theorem it_seq {pins : List (Addr × Obj)} {σ : L2.St} {H1 : Hp} {s1 : Shared} {F : Hp} {r : Rho} {L : Hl} {d : D} {v : V} {u : Value} {R0 : L2.It → Hp → Prop} {E : XK} (hK : X.K = G.K) (I1 : Inv X pins σ H1 s1) (ru : RelV v u) (R : Rel G F r H1 L) (rd : RD G F r d v)
    (po : Po G (rI2 G) F r (seqD d L) R0 E) : wpAny (model X.prog X.w) X.A (pyIter u) (PIE X pins σ tg R0) X.xe s1 := by
  have lst : ∀ {a : Addr} {vs : List V} {xs : List P}, v = .ref a → SqL G.K F a vs → RPs G F xs vs → Po G (rI2 G) F r (.ok xs L) R0 E → wpAny (model X.prog X.w) X.A (pyIter u) (PIE X pins σ tg R0) X.xe s1 := fun {a vs xs} e q t po => by
    subst e
    obtain rfl : u = Value.ref a := ru
    obtain ⟨its, rv, p, hz⟩ := I1.list (by rw [hK]; exact R.sub.seq q)
    have w := wk_list q t
    rw [← hK] at w
    exact wpAny_pyIter_list p.isList (pi_one (tk := s1.toks) I1 _ (turn_list a _) ⟨_, Heap.get?_push_size _ rfl, rfl, rfl⟩ (Po.ok po R w))
  unfold seqD at po
  split at po
  · rename_i x
    have := pS rd rfl
    subst this
    obtain ⟨t, rfl⟩ := ru
    have q := Po.ok po R (wk_str x)
    cases ha : x.cps.all (· < 128)
    · exact wpAny_pyIter_wide ha (pi_one (tk := s1.toks) I1 _ (turn_str _ x t "str_iterator" (.inr rfl)) ⟨_, Heap.get?_push_size _ rfl, rfl, rfl⟩ q)
    · exact wpAny_pyIter_ascii ha (pi_one (tk := s1.toks) I1 _ (turn_str _ x t "str_ascii_iterator" (.inl rfl)) ⟨_, Heap.get?_push_size _ rfl, rfl, rfl⟩ q)
  · cases rd with | p rd => cases rd with | lst q t => exact lst rfl (.inl (.inl q)) t po
  · cases rd with | p rd => cases rd with | rol q t => exact lst rfl q t po
  · cases rd with
    | p rd =>
      cases rd with
      | tup q t =>
        obtain rfl : u = Value.ref _ := ru
        obtain ⟨its, rv, p, hz⟩ := I1.tuple (by rw [hK]; exact SqT.same R.sub q)
        have w := wk_tup q t
        rw [← hK] at w
        exact wpAny_pyIter_tuple (show s1.heap.IsTuple _ its.toArray from p) (pi_one (tk := s1.toks) I1 _ (turn_tuple _ _) ⟨_, Heap.get?_push_size _ rfl, rfl, rfl⟩ (Po.ok po R w))
  · exact po.elim
theorem s_itSeq (C : Ck S G cf X sc sf N cm W) {e : Expr} {ka : I} (hn : ∀ i, ka ≠ .exv i) (ha : PE X e (tE G cf (cnOf S) W ka)) : PI X tg e (tI G cf (cnOf S) W (.its .seq (.cons ka .nil))) := by
  refine ⟨fun pins s σ H R0 I q => ?_⟩
  have q2 : tE G cf (cnOf S) W ka σ H (fun v H1 => ∃ (F : Hp) (r : Rho) (L : Hl) (d : D), Rel G F r H1 L ∧ RD G F r d v ∧ Po G (rI2 G) F r (seqD d L) R0 (fun c d H' => W c d σ H')) := by
    obtain ⟨F, r, t, L, hs, R, po⟩ := q
    simp only [dI] at po
    have po' : Po G (rI2 G) F r ((dE cf (cnOf S) ka t L).bind fun x L => seqD x L) R0 (fun c d H' => W c d σ H') := by
      have e1 : dA cf (cnOf S) (.cons ka .nil) t L = (dE cf (cnOf S) ka t L).bind fun x L => .ok [.v x] L := by
        cases ka <;> first | exact absurd rfl (hn _) | (simp only [dA]; rfl)
      rw [e1, bind_bind] at po
      exact po
    exact tR.mk hs R (Po.step po' fun v H1 F1 r1 d L1 _ s1 p1 R1 ra po1 => ⟨F1, r1, L1, d, R1, ra, po1⟩)
  exact thn (ha.run pins s σ H _ I q2) fun u s1 ⟨v, H1, I1, ru, F, r, L, d, R, rd, po⟩ => it_seq C.eK I1 ru R rd po
def aLen : I → Nat
  | .cons _ r => aLen r + 1
  | _ => 0
theorem dA_len : ∀ (k : I) {t : Sg} {L L' : Hl} {as : List Sl}, dA cf (cnOf S) k t L = .ok as L' → as.length = aLen k
  | .nil, _, _, _, _, h => by simp only [dA, Fk.R.ok.injEq] at h; rw [← h.1]; rfl
  | .cons a r, t, L, L', as, h => by
    have key : ∀ {α : Type} {x : Fk.R α} {f : α → Sl}, (x.bind fun y L => (dA cf (cnOf S) r t L).bind fun xs L => .ok (f y :: xs) L) = .ok as L' → as.length = aLen (.cons a r) := fun {α x f} h => by
      obtain ⟨y, L1, _, h⟩ := bind_okE h
      obtain ⟨xs, L2, e, h⟩ := bind_okE h
      cases h
      rw [List.length_cons, dA_len r e]; rfl
    cases a with
    | exv i =>
      simp only [dA] at h
      split at h
      · obtain ⟨xs, L2, e, h⟩ := bind_okE h
        cases h
        rw [List.length_cons, dA_len r e]; rfl
      · cases h
    | _ => simp only [dA] at h; exact key (f := .v) h
  | .var _, _, _, _, _, h => by simp [dA] at h
  | .lit _, _, _, _, _, h => by simp [dA] at h
  | .con _, _, _, _, _, h => by simp [dA] at h
  | .op _ _ _, _, _, _, _, h => by simp [dA] at h
  | .neg _, _, _, _, _, h => by simp [dA] at h
  | .notv _, _, _, _, _, h => by simp [dA] at h
  | .andv _ _, _, _, _, _, h => by simp [dA] at h
  | .orv _ _, _, _, _, _, h => by simp [dA] at h
  | .chain _ _ _ _ _, _, _, _, _, h => by simp [dA] at h
  | .ite _ _ _, _, _, _, _, h => by simp [dA] at h
  | .call _ _, _, _, _, _, h => by simp [dA] at h
  | .mk _ _ _, _, _, _, _, h => by simp [dA] at h
  | .bi _ _, _, _, _, _, h => by simp [dA] at h
  | .me _ _ _, _, _, _, _, h => by simp [dA] at h
  | .mo _ _ _ _, _, _, _, _, h => by simp [dA] at h
  | .tup _, _, _, _, _, h => by simp [dA] at h
  | .lst _ _, _, _, _, _, h => by simp [dA] at h
  | .dct _ _ _, _, _, _, _, h => by simp [dA] at h
  | .ix _ _, _, _, _, _, h => by simp [dA] at h
  | .trev _, _, _, _, _, h => by simp [dA] at h
  | .lrng _ _, _, _, _, _, h => by simp [dA] at h
  | .hsum _ _, _, _, _, _, h => by simp [dA] at h
  | .dct0 _, _, _, _, _, h => by simp [dA] at h
  | .sl _ _ _ _, _, _, _, _, h => by simp [dA] at h
  | .fld _ _, _, _, _, _, h => by simp [dA] at h
  | .fst _, _, _, _, _, h => by simp [dA] at h
  | .isi _ _, _, _, _, _, h => by simp [dA] at h
  | .exf _ _, _, _, _, _, h => by simp [dA] at h
  | .exv _, _, _, _, _, h => by simp [dA] at h
  | .exi _ _, _, _, _, _, h => by simp [dA] at h
  | .comp _ _ _ _ _ _, _, _, _, _, h => by simp [dA] at h
  | .its _ _, _, _, _, _, h => by simp [dA] at h
  | .gn _, _, _, _, _, h => by simp [dA] at h
  | .gt _, _, _, _, _, h => by simp [dA] at h
  | .tand _ _, _, _, _, _, h => by simp [dA] at h
  | .tor _ _, _, _, _, _, h => by simp [dA] at h
  | .tnot _, _, _, _, _, h => by simp [dA] at h
  | .tval _, _, _, _, _, h => by simp [dA] at h
  | .tyes, _, _, _, _, h => by simp [dA] at h
  | .pass, _, _, _, _, h => by simp [dA] at h
  | .seq _ _, _, _, _, _, h => by simp [dA] at h
  | .expr _, _, _, _, _, h => by simp [dA] at h
  | .asg _ _, _, _, _, _, h => by simp [dA] at h
  | .seti _ _ _, _, _, _, _, h => by simp [dA] at h
  | .setf _ _ _, _, _, _, _, h => by simp [dA] at h
  | .aug _ _ _, _, _, _, _, h => by simp [dA] at h
  | .ret _, _, _, _, _, h => by simp [dA] at h
  | .retn, _, _, _, _, h => by simp [dA] at h
  | .if_ _ _ _, _, _, _, _, h => by simp [dA] at h
  | .for_ _ _ _, _, _, _, _, h => by simp [dA] at h
  | .while_ _ _, _, _, _, _, h => by simp [dA] at h
  | .brk, _, _, _, _, h => by simp [dA] at h
  | .cont, _, _, _, _, h => by simp [dA] at h
  | .raise _ _ _ _, _, _, _, _, h => by simp [dA] at h
  | .try_ _ _ _ _ _, _, _, _, _, h => by simp [dA] at h
  | .frz _, _, _, _, _, h => by simp [dA] at h
  | .never, _, _, _, _, h => by simp [dA] at h
  | .gc, _, _, _, _, h => by simp [dA] at h
theorem its_ok {k : It} {ka : I} {σ : L2.St} {H : Hp} {R0 : L2.It → Hp → Prop} {P : List V → Hp → Prop} (q : tI G cf (cnOf S) W (.its k ka) σ H R0)
    (h : ∀ (vs : List V) (H1 : Hp) (F : Hp) (r : Rho) (L : Hl) (ds : List D), ds.length = aLen ka → Rel G F r H1 L → RDl G F r ds vs → Po G (rI2 G) F r (itD k ds L) R0 (fun c d H' => W c d σ H') → P vs H1) : tA G cf (cnOf S) W ka σ H P := by
  obtain ⟨F, r, t, L, hs, R, po⟩ := q
  simp only [dI] at po
  refine tR.mk hs R (Po.step po fun vs H1 F1 r1 as L1 e s1 p1 R1 ra po1 => ?_)
  split at po1
  · have := vals_map ‹_›
    subst this
    have z := dA_len ka e
    rw [List.length_map] at z
    exact h vs H1 F1 r1 L1 _ z R1 ra po1
  · exact po1.elim
theorem s_itRange1 (C : Ck S G cf X sc sf N cm W) {a : Expr} {ka : I} {p : Pos} (h1 : aLen ka = 1) (hb : ("range" : Str) ∈ S.bn) (hg : gloB sc "range" = true) (hst : notStar a = true) (ha : PA X [a] (tA G cf (cnOf S) W ka)) :
    PI X tg (.Call (.Name "range" p) [a] [] pos) (tI G cf (cnOf S) W (.its .range ka)) :=
  piW (pi_range1 (gloB_ok C hg) (C.bn _ hb) ha (star_no hst _ _)) fun σ H R0 q => its_ok q fun vs H1 F r L ds hl R rd po => by
    have po : Po G (rI2 G) F r (rangeD ds L) R0 (fun c d H' => W c d σ H') := po
    unfold rangeD at po
    split at po
    · split at po
      · obtain ⟨v, rfl, rx⟩ := rd.one
        rename_i j hj
        exact ⟨_, by rw [pI rx rfl], hj.1, hj.2, Po.ok po R (wk_range 0 _)⟩
      · exact po.elim
    · rw [h1] at hl; cases hl
    · exact po.elim
theorem s_itRange2 (C : Ck S G cf X sc sf N cm W) {a b : Expr} {ka : I} {p : Pos} (h2 : aLen ka = 2) (hb : ("range" : Str) ∈ S.bn) (hg : gloB sc "range" = true) (hst : notStar a = true) (hst2 : notStar b = true) (ha : PA X [a, b] (tA G cf (cnOf S) W ka)) :
    PI X tg (.Call (.Name "range" p) [a, b] [] pos) (tI G cf (cnOf S) W (.its .range ka)) :=
  piW (pi_range2 (gloB_ok C hg) (C.bn _ hb) ha (by rw [star_no hst, star_no hst2]; rfl) (star_no hst2 _ _)) fun σ H R0 q => its_ok q fun vs H1 F r L ds hl R rd po => by
    have po : Po G (rI2 G) F r (rangeD ds L) R0 (fun c d H' => W c d σ H') := po
    unfold rangeD at po
    split at po
    · rw [h2] at hl; cases hl
    · split at po
      · obtain ⟨v, w', rfl, rx, ry⟩ := rd.two
        rename_i i j hj
        exact ⟨_, _, by rw [pI rx rfl, pI ry rfl], hj, Po.ok po R (wk_range _ _)⟩
      · exact po.elim
    · exact po.elim
theorem s_itEnum (C : Ck S G cf X sc sf N cm W) {a : Expr} {ka : I} {p tpos : Pos} {elts : List Expr} {kk : Nat} (hb : ("enumerate" : Str) ∈ S.bn) (hg : gloB sc "enumerate" = true) (hst : notStar a = true) (ha : PA X [a] (tA G cf (cnOf S) W ka)) :
    PI X (.Tuple elts kk tpos) (.Call (.Name "enumerate" p) [a] [] pos) (tI G cf (cnOf S) W (.its .enum ka)) :=
  piW (pi_enum (gloB_ok C hg) (C.bn _ hb) ha (star_no hst _ _)) fun σ H R0 q => its_ok q fun vs H1 F r L ds hl R rd po => by
    have po : Po G (rI2 G) F r (enumD ds L) R0 (fun c d H' => W c d σ H') := po
    unfold enumD at po
    split at po
    · obtain ⟨v, rfl, rx⟩ := rd.one
      cases rx with
      | p rx =>
        cases rx with
        | lst q t =>
          have w := wk_enum (.inl (.inl q)) t
          rw [← C.eK] at w
          exact ⟨_, _, rfl, .inl (.inl (R.sub _ _ q)), Po.ok po R w⟩
    · exact po.elim
theorem s_itZip (C : Ck S G cf X sc sf N cm W) {a b : Expr} {ka : I} {p tpos : Pos} {elts : List Expr} {kk : Nat} (hb : ("zip" : Str) ∈ S.bn) (hg : gloB sc "zip" = true) (hst : notStar a = true) (hst2 : notStar b = true) (ha : PA X [a, b] (tA G cf (cnOf S) W ka)) :
    PI X (.Tuple elts kk tpos) (.Call (.Name "zip" p) [a, b] [] pos) (tI G cf (cnOf S) W (.its .zip ka)) :=
  piW (FkZ.pi_or (RZ.pi_zipA (gloB_ok C hg) (C.bn _ hb) ha (star_no hst _ _) (back_no _ (by simp [hst2]) _)) (FkZ.pi_zipM (gloB_ok C hg) (C.bn _ hb) ha (star_no hst _ _) (back_no _ (by simp [hst2]) _))) fun σ H R0 q => by
    obtain ⟨F0, r0, t0, L0, hs0, R00, po0⟩ := q
    have q : tI G cf (cnOf S) W (.its .zip ka) σ H R0 := ⟨F0, r0, t0, L0, hs0, R00, po0⟩
    by_cases hmix : ∃ xs ys L1, dA cf (cnOf S) ka t0 L0 = .ok [.v (.p (.tup xs)), .v (.p (.lst ys))] L1
    · refine .inr ?_
      obtain ⟨xs, ys, L1, e⟩ := hmix
      simp only [dI] at po0
      refine tR.mk hs0 R00 (Po.step po0 fun vs H1 F1 r1 as L2 e1 s1 p1 R1 ra po1 => ?_)
      rw [e] at e1
      cases e1
      have po1 : Po G (rI2 G) F1 r1 (.ok ((xs.zip ys).map fun q => P.tup [q.1, q.2]) L1) R0 (fun c d H' => W c d σ H') := po1
      have rd : RDl G F1 r1 [.p (.tup xs), .p (.lst ys)] vs := ra
      obtain ⟨v, w', rfl, rx, ry⟩ := rd.two
      cases rx with
      | p rx =>
        cases rx with
        | tup qa ta =>
          cases ry with
          | p ry =>
            cases ry with
            | lst qb tb =>
              have wk := wk_zipM qa (.inl (.inl qb)) ta tb
              rw [← C.eK] at wk
              exact ⟨_, _, _, _, rfl, by rw [C.eK]; exact SqT.same R1.sub qa, .inl (.inl (R1.sub _ _ qb)), Po.ok po1 R1 wk⟩
    · refine .inl ?_
      simp only [dI] at po0
      refine tR.mk hs0 R00 (Po.step po0 fun vs H1 F r as L e s1 p1 R rd0 po => ?_)
      split at po
      · rename_i ds hds
        have hvm := vals_map hds
        subst hvm
        have rd : RDl G F r ds vs := rd0
        have po : Po G (rI2 G) F r (zipD ds L) R0 (fun c d H' => W c d σ H') := po
        unfold zipD at po
        split at po
        · obtain ⟨v, w', rfl, rx, ry⟩ := rd.two
          cases rx with
          | p rx =>
            cases rx with
            | lst q t =>
              cases ry with
              | p ry =>
                cases ry with
                | lst q2 t2 =>
                  have w := wk_zipL (.inl (.inl q)) (.inl (.inl q2)) t t2
                  rw [← C.eK] at w
                  exact ⟨_, _, _, _, rfl, .inl ⟨.inl (.inl (R.sub _ _ q)), .inl (.inl (R.sub _ _ q2)), Po.ok po R w⟩⟩
        · obtain ⟨v, w', rfl, rx, ry⟩ := rd.two
          cases rx with
          | p rx =>
            cases rx with
            | tup q t =>
              cases ry with
              | p ry =>
                cases ry with
                | tup q2 t2 =>
                  have w := wk_zipT q q2 t t2
                  rw [← C.eK] at w
                  exact ⟨_, _, _, _, rfl, .inr ⟨by rw [C.eK]; exact SqT.same R.sub q, by rw [C.eK]; exact SqT.same R.sub q2, Po.ok po R w⟩⟩
        · exact absurd ⟨_, _, _, e⟩ hmix
        · exact po.elim
      · exact po.elim
theorem s_itRev (C : Ck S G cf X sc sf N cm W) {a : Expr} {ka : I} {p : Pos} (hn : ∀ i, ka ≠ .exv i) (hb : ("reversed" : Str) ∈ S.bn) (hg : gloB sc "reversed" = true) (hst : notStar a = true) (ha : PE X a (tE G cf (cnOf S) W ka)) :
    PI X tg (.Call (.Name "reversed" p) [a] [] pos) (tI G cf (cnOf S) W (.its .rev (.cons ka .nil))) :=
  piW (RT.pi_revA (gloB_ok C hg) (C.bn _ hb) ha (star_no hst _ _)) fun σ H R0 q => by
    obtain ⟨F, r, t, L, hs, R, po⟩ := q
    simp only [dI] at po
    have po' : Po G (rI2 G) F r ((dE cf (cnOf S) ka t L).bind fun x L => revD [x] L) R0 (fun c d H' => W c d σ H') := by
      have e1 : dA cf (cnOf S) (.cons ka .nil) t L = (dE cf (cnOf S) ka t L).bind fun x L => .ok [.v x] L := by
        cases ka <;> first | exact absurd rfl (hn _) | (simp only [dA]; rfl)
      rw [e1, bind_bind] at po
      exact po
    refine tR.mk hs R (Po.step po' fun v H1 F1 r1 d L1 _ s1 p1 R1 ra po => ?_)
    unfold revD at po
    split at po
    · rename_i e
      cases e
      cases ra with
      | p ra =>
        cases ra with
        | lst q t =>
          have w := wk_revL (.inl (.inl q)) t
          rw [← C.eK] at w
          exact ⟨_, _, rfl, .inl ⟨.inl (.inl (R1.sub _ _ q)), Po.ok po R1 w⟩⟩
    · rename_i e
      cases e
      cases ra with
      | p ra =>
        cases ra with
        | tup q t =>
          have w := wk_revT q t
          rw [← C.eK] at w
          exact ⟨_, _, rfl, .inr ⟨by rw [C.eK]; exact SqT.same R1.sub q, Po.ok po R1 w⟩⟩
    · exact po.elim
/-! ### targets -/
def tG (G : Gm) (g : I) : TG := fun v σ H Q => ∃ (F : Hp) (r : Rho) (t : Sg) (L : Hl) (x : D), RSs G F r t σ ∧ Rel G F r H L ∧ RD G F r x v ∧ match gI g x t with
  | some t' => ∀ σ', RSs G F r t' σ' → Q σ' H
  | none => False
theorem pgW {t t' : TG} (h : PG X tg t) (w : ∀ v σ H Q, t' v σ H Q → t v σ H Q) : PG X tg t' := ⟨fun pins s σ H v u Q I r q => h.run pins s σ H v u Q I r (w v σ H Q q)⟩
/-- a name that is stored -/
def stoB (sf : Scope) (N : List Str) (x : Str) (i : Nat) : Bool := decide (N[i]? = some x) && locB sf x
theorem s_gn (C : Ck S G cf X sc sf N cm W) {x : Str} {i : Nat} (h : stoB sf N x i = true) : PG X (.Name x pos) (tG G (.gn i)) := by
  unfold stoB at h
  simp only [Bool.and_eq_true, decide_eq_true_eq] at h
  refine pgW (pg_name (by rw [C.eN]; exact C.nd) (by rw [C.eN]; exact h.1) (by rw [C.esc]; exact (C.fo x (locB_ok h.2)).1) (by rw [C.esc]; exact (C.fo x (locB_ok h.2)).2)) fun v σ H Q q => ?_
  obtain ⟨F, r, t, L, d, hs, R, rd, q⟩ := q
  simp only [gI] at q
  exact q _ (hs.set (.v rd) i)
/-- several names -/
def tGs (G : Gm) (g : I) : TGs := fun vs σ H Q => ∃ (F : Hp) (r : Rho) (t : Sg) (L : Hl) (xs : List P), RSs G F r t σ ∧ Rel G F r H L ∧ RPs G F xs vs ∧ match gIs g xs t with
  | some t' => ∀ σ', RSs G F r t' σ' → Q σ' H
  | none => False
theorem s_gnil : PGs X [] (tGs G .nil) := ⟨fun pins s σ H vs us Q I rv q => pgs_nil.run pins s σ H vs us Q I rv (by
  obtain ⟨F, r, t, L, xs, hs, R, rd, q⟩ := q
  cases xs with
  | nil => cases rd; exact ⟨rfl, q _ hs⟩
  | cons x xs => exact q.elim)⟩
theorem s_gcons (C : Ck S G cf X sc sf N cm W) {x : Str} {i : Nat} {es : List Expr} {gr : I} (h : stoB sf N x i = true) (hr : PGs X es (tGs G gr)) : PGs X (.Name x pos :: es) (tGs G (.cons (.gn i) gr)) :=
  ⟨fun pins s σ H vs us Q I rv q => (pgs_cons (s_gn (pos := pos) C h) hr rfl).run pins s σ H vs us Q I rv (by
    obtain ⟨F, r, t, L, xs, hs, R, rd, q⟩ := q
    cases xs with
    | nil => exact q.elim
    | cons y xs =>
      cases rd with
      | cons r1 r2 =>
        refine ⟨_, _, rfl, F, r, t, L, .p y, hs, R, .p r1, ?_⟩
        simp only [gI]
        exact fun σ' hs' => ⟨F, r, _, L, xs, hs', R, r2, q⟩)⟩
theorem each_len : ∀ (es : List Expr) (env : Env), (assignEach es env).length = es.length
  | [], _ => rfl
  | e :: es, env => by
    cases e <;> (show (assignEach es env).length + 1 = _; rw [each_len es env]; rfl)
theorem each_find : ∀ {es : List Expr} (_ : es.all notStar = true) (env : Env), (assignEach es env).findIdx? (·.1) = none
  | [], _, _ => rfl
  | e :: es, h, env => by
    rw [List.all_cons, Bool.and_eq_true] at h
    have z := each_find h.2 env
    have e1 : assignEach (e :: es) env = (false, assign e env) :: assignEach es env := by
      cases e <;> first | rfl | (have := h.1; simp [notStar] at this)
    rw [e1, List.findIdx?_cons, z]; rfl
theorem gt_some {gs : I} {x : D} {t t' : Sg} (h : gI (.gt gs) x t = some t') : ∃ xs, x = .p (.tup xs) ∧ xs.length = gLen gs ∧ gIs gs xs t = some t' := by
  cases x with
  | ref n => simp [gI] at h
  | p y =>
    cases y <;> first | (simp [gI] at h; done) | skip
    simp only [gI] at h
    split at h
    · exact ⟨_, rfl, ‹_›, h⟩
    · cases h
theorem s_gt (C : Ck S G cf X sc sf N cm W) (hcm : cm = true) {es : List Expr} {k : Nat} {gs : I} (hst : es.all notStar = true) (hl : gLen gs = es.length) (h : PGs X es (tGs G gs)) : PG X (.Tuple es k pos) (tG G (.gt gs)) :=
  pgW (pg_tup (n := es.length) (C.ecm hcm) h (each_len es X.env) (each_find hst X.env)) fun v σ H Q q => by
    obtain ⟨F, r, t, L, d, hs, R, rd, q⟩ := q
    cases e : gI (.gt gs) d t with
    | none => rw [e] at q; exact q.elim
    | some t' =>
      rw [e] at q
      obtain ⟨xs, rfl, h2, h3⟩ := gt_some e
      obtain ⟨a, vs, rfl, q2, t2⟩ := pT rd rfl
      exact ⟨a, vs, rfl, by rw [C.eK]; exact SqT.same R.sub q2, by rw [← t2.len, h2, hl], F, r, t, L, xs, hs, R, t2, by rw [h3]; exact q⟩
end
end Fk

set_option Elab.async false
set_option linter.all false
set_option autoImplicit false
set_option maxRecDepth 100000
set_option maxHeartbeats 2000000
/-! Fk 9: statements -/
namespace Fk
open PySem PySem.Spec PyProof.Rows L2
/-- what is wanted behind a statement -/
def PoS (G : Gm) (W : WX) (F : Hp) (r : Rho) (res : RS2) (D : Ends) : Prop := match res with
  | .ok (.nx t) L => ∀ (F' : Hp) (r' : Rho) (H' : Hp) (σ' : L2.St), Same F F' → Pre r r' → Rel G F' r' H' L → RSs G F' r' t σ' → D.nx σ' H'
  | .ok (.bk t) L => ∀ (F' : Hp) (r' : Rho) (H' : Hp) (σ' : L2.St), Same F F' → Pre r r' → Rel G F' r' H' L → RSs G F' r' t σ' → D.bk σ' H'
  | .ok (.ct t) L => ∀ (F' : Hp) (r' : Rho) (H' : Hp) (σ' : L2.St), Same F F' → Pre r r' → Rel G F' r' H' L → RSs G F' r' t σ' → D.ct σ' H'
  | .ok (.rt d) L => ∀ (F' : Hp) (r' : Rho) (H' : Hp) (v : V), Same F F' → Pre r r' → Rel G F' r' H' L → RD G F' r' d v → D.rt v H'
  | .ex c fs t L => ∀ (F' : Hp) (r' : Rho) (H' : Hp) (σ' : L2.St) (d : Option Addr), Same F F' → Pre r r' → Rel G F' r' H' L → RSs G F' r' t σ' → RX G F' fs d → W (.ref (G.ca c)) d σ' H'
  | .bad => False
section
variable {α β : Type} {G : Gm} {W : WX} {rel : Hp → Rho → α → β → Prop} {F F1 : Hp} {r r1 : Rho} {H : Hp} {L : Hl} {t : Sg} {σ : L2.St} {D : Ends}
theorem PoS.mono {res : RS2} (h : PoS G W F r res D) (s : Same F F1) (p : Pre r r1) : PoS G W F1 r1 res D := by
  cases res with
  | ok f L => cases f <;> exact fun F' r' H' v s' p' => h F' r' H' v (s.trans s') (p.trans p')
  | ex c fs t L => exact fun F' r' H' σ' d s' p' => h F' r' H' σ' d (s.trans s') (p.trans p')
  | bad => exact h
theorem PoS.step {res : R α} {f : α → Hl → RS2} {Q : β → Hp → Prop} (hs : RSs G F r t σ) (po : PoS G W F r (res.st t f) D)
    (hQ : ∀ (v : β) (H' F' : Hp) (r' : Rho) (a : α) (L' : Hl), res = .ok a L' → Same F F' → Pre r r' → Rel G F' r' H' L' → rel F' r' a v → RSs G F' r' t σ → PoS G W F' r' (f a L') D → Q v H') : Po G rel F r res Q (fun c d H' => W c d σ H') := by
  cases res with
  | ok a L => exact fun F' r' H' v s p R d => hQ v H' F' r' a L rfl s p R d (hs.mono s p) (PoS.mono po s p)
  | ex c fs L => exact fun F' r' H' d s p R x => po F' r' H' σ d s p R (hs.mono s p) x
  | bad => exact po
theorem PoS.nx (po : PoS G W F r (.ok (.nx t) L) D) (hs : RSs G F r t σ) (R : Rel G F r H L) : D.nx σ H := po F r H σ (Same.refl _) (Pre.refl _) R hs
/-- a body, then the turns that follow -/
theorem PoS.loop {res : RS2} {K : Sg → Hl → RS2} (po : PoS G W F r (match res with
    | .ok (.nx t') L' => K t' L'
    | .ok (.ct t') L' => K t' L'
    | .ok (.bk t') L' => .ok (.nx t') L'
    | o => o) D) : PoS G W F r res { D with nx := fun σ H => ∃ (F' : Hp) (r' : Rho) (t' : Sg) (L' : Hl), Same F F' ∧ RSs G F' r' t' σ ∧ Rel G F' r' H L' ∧ PoS G W F' r' (K t' L') D, ct := fun σ H => ∃ (F' : Hp) (r' : Rho) (t' : Sg) (L' : Hl), Same F F' ∧ RSs G F' r' t' σ ∧ Rel G F' r' H L' ∧ PoS G W F' r' (K t' L') D, bk := D.nx } := by
  cases res with
  | ok f L =>
    cases f with
    | nx t => exact fun F' r' H' σ' s p R hs => ⟨F', r', t, L, s, hs, R, PoS.mono po s p⟩
    | ct t => exact fun F' r' H' σ' s p R hs => ⟨F', r', t, L, s, hs, R, PoS.mono po s p⟩
    | bk t => exact po
    | rt d => exact po
  | ex c fs t L => exact po
  | bad => exact po
end
/-- a statement's reading -/
abbrev tS (G : Gm) (cf : Nat → List Sl → Hl → R D) (cn : Nat → Option P) (W : WX) (k : I) : TS := fun D σ H =>
  ∃ (F : Hp) (r : Rho) (t : Sg) (L : Hl), RSs G F r t σ ∧ Rel G F r H L ∧ PoS G W F r (dS cf cn k t L) D
theorem psW {X : Cx} {st : Stmt} {t t' : TS} (h : PS X st t) (w : ∀ D σ H, t' D σ H → t D σ H) : PS X st t' := ⟨fun pins s σ H D I q => h.run pins s σ H D I (w D σ H q)⟩
theorem pssW {X : Cx} {st : List Stmt} {t t' : TS} (h : PSs X st t) (w : ∀ D σ H, t' D σ H → t D σ H) : PSs X st t' := ⟨fun pins s σ H D I q => h.run pins s σ H D I (w D σ H q)⟩
section
variable {S : Stc} {G : Gm} {cf : Nat → List Sl → Hl → R D} {X : Cx} {sc sf : Scope} {N : List Str} {cm : Bool} {W : WX} {pos : Pos}
theorem s_pass : PS X (.Pass pos) (tS G cf (cnOf S) W .pass) := psW ps_pass fun D σ H q => by
  obtain ⟨F, r, t, L, hs, R, po⟩ := q
  simp only [dS] at po
  exact po.nx hs R
theorem s_brk : PS X (.Break pos) (tS G cf (cnOf S) W .brk) := psW ps_break fun D σ H q => by
  obtain ⟨F, r, t, L, hs, R, po⟩ := q
  simp only [dS] at po
  exact po F r H σ (Same.refl _) (Pre.refl _) R hs
theorem s_cont : PS X (.Continue pos) (tS G cf (cnOf S) W .cont) := psW ps_continue fun D σ H q => by
  obtain ⟨F, r, t, L, hs, R, po⟩ := q
  simp only [dS] at po
  exact po F r H σ (Same.refl _) (Pre.refl _) R hs
theorem s_nil : PSs X [] (tS G cf (cnOf S) W .pass) := pssW pss_nil fun D σ H q => by
  obtain ⟨F, r, t, L, hs, R, po⟩ := q
  simp only [dS] at po
  exact po.nx hs R
theorem s_seq {st : Stmt} {rest : List Stmt} {ka kb : I} (ha : PS X st (tS G cf (cnOf S) W ka)) (hb : PSs X rest (tS G cf (cnOf S) W kb)) : PSs X (st :: rest) (tS G cf (cnOf S) W (.seq ka kb)) :=
  pssW (pss_cons ha hb) fun D σ H q => by
    obtain ⟨F, r, t, L, hs, R, po⟩ := q
    simp only [dS] at po
    refine ⟨F, r, t, L, hs, R, ?_⟩
    cases e : dS cf (cnOf S) ka t L with
    | bad => rw [e] at po; exact po
    | ex c fs t' L' => rw [e] at po; exact po
    | ok f L' =>
      rw [e] at po
      cases f with
      | nx t' => exact fun F' r' H' σ' s p R' hs' => ⟨F', r', t', L', hs', R', PoS.mono po s p⟩
      | rt d => exact po
      | bk t' => exact po
      | ct t' => exact po
/-- slots are exchanged behind a statement -/
theorem s_frz {sts : List Stmt} {i : Nat} {kb : I} (hb : PSs X sts (tS G cf (cnOf S) W kb)) : PSs X sts (tS G cf (cnOf S) W (.seq (.frz i) kb)) :=
  pssW hb fun D σ H q => by
    obtain ⟨F, r, t, L, hs, R, po⟩ := q
    simp only [dS] at po
    split at po
    · rename_i n e
      split at po
      · rename_i xs e2
        simp only [RS2.seq_nx] at po
        obtain ⟨v, hv, rv⟩ := hs.get e
        cases rv with
        | v rv =>
          cases rv with
          | ref ha =>
            rename_i a
            obtain ⟨h, h1, h2, h3⟩ := R.at e2 (by intro z; cases z) ha
            cases h3 with
            | lst tt =>
              rename_i vs
              obtain ⟨R2, hF⟩ := R.freeze e2 (by intro z; cases z) ha h1
              have s := same_upd (o := .lst vs) hF
              have hs2 : RSs G (upd F a (.lst vs)) r (t.set i (.v (.p (.lst xs)))) (σ.set i (some (.ref a))) := (hs.mono s (Pre.refl _)).set (.v (.p (.lst upd_same (tt.mono s)))) i
              have e3 : σ.set i (some (V.ref a)) = σ := by
                apply List.ext_getElem?
                intro j
                by_cases hj : i = j
                · subst hj
                  have hlt : i < σ.length := (List.getElem?_eq_some_iff.mp hv).1
                  rw [List.getElem?_set_self hlt]; exact hv.symm
                · rw [List.getElem?_set_ne hj]
              rw [e3] at hs2
              exact ⟨_, r, _, _, hs2, R2, PoS.mono po s (Pre.refl _)⟩
      · exact po.elim
    · simp only [RS2.seq_nx] at po
      exact ⟨F, r, t, L, hs, R, po⟩
    · exact po.elim
theorem s_expr {e : Expr} {ke : I} (h : notComp e = true) (he : PE X e (tE G cf (cnOf S) W ke)) : PS X (.Expr e pos) (tS G cf (cnOf S) W (.expr ke)) :=
  psW (ps_expr he (swaps_no h _ _ _)) fun D σ H q => by
    obtain ⟨F, r, t, L, hs, R, po⟩ := q
    simp only [dS] at po
    exact tR.mk hs R (PoS.step hs po fun v H1 F1 r1 d L1 _ s1 p1 R1 rd hs1 po1 => po1.nx hs1 R1)
theorem s_ret {e : Expr} {ke : I} (he : PE X e (tE G cf (cnOf S) W ke)) : PS X (.Return (some e) pos) (tS G cf (cnOf S) W (.ret ke)) :=
  psW (ps_ret he) fun D σ H q => by
    obtain ⟨F, r, t, L, hs, R, po⟩ := q
    simp only [dS] at po
    exact tR.mk hs R (PoS.step hs po fun v H1 F1 r1 d L1 _ s1 p1 R1 rd hs1 po1 => po1 F1 r1 H1 v (Same.refl _) (Pre.refl _) R1 rd)
theorem s_retn : PS X (.Return none pos) (tS G cf (cnOf S) W .retn) :=
  psW ps_retN fun D σ H q => by
    obtain ⟨F, r, t, L, hs, R, po⟩ := q
    simp only [dS] at po
    exact po F r H _ (Same.refl _) (Pre.refl _) R (.p .non)
theorem s_if {c : Expr} {a b : List Stmt} {kc ka kb : I} (hc : PT X c (tT G cf (cnOf S) W kc)) (ha : PSs X a (tS G cf (cnOf S) W ka)) (hb : PSs X b (tS G cf (cnOf S) W kb)) : PS X (.If c a b pos) (tS G cf (cnOf S) W (.if_ kc ka kb)) :=
  psW (ps_if hc ha hb) fun D σ H q => by
    obtain ⟨F, r, t, L, hs, R, po⟩ := q
    simp only [dS] at po
    refine tR.mk hs R (PoS.step hs po fun v H1 F1 r1 bq L1 _ s1 p1 R1 rd hs1 po1 => ?_)
    subst rd
    cases bq with
    | true => exact iteT ⟨F1, r1, t, L1, hs1, R1, po1⟩
    | false => exact iteF ⟨F1, r1, t, L1, hs1, R1, po1⟩
/-- target = value -/
theorem tG_of {F : Hp} {r : Rho} {t : Sg} {L : Hl} {x : D} {v : V} {H : Hp} {σ : L2.St} {g : I} {D : Ends} (hs : RSs G F r t σ) (R : Rel G F r H L) (rd : RD G F r x v)
    (po : PoS G W F r (match gI g x t with
      | some t' => .ok (.nx t') L
      | none => .bad) D) : tG G g v σ H D.nx := by
  refine ⟨F, r, t, L, x, hs, R, rd, ?_⟩
  cases e : gI g x t with
  | none => rw [e] at po; exact po
  | some t' => rw [e] at po; exact fun σ' hs' => po.nx hs' R
theorem s_asg {tg e : Expr} {g ke : I} (h : swapsWithSole [tg] e pos.line X.env = pure false) (h2 : swappedStores [tg] e X.env = pure none) (h3 : notStar tg = true) (he : PE X e (tE G cf (cnOf S) W ke)) (hg : PG X tg (tG G g)) :
    PS X (.Assign [tg] e pos) (tS G cf (cnOf S) W (.asg g ke)) :=
  psW (ps_asg he hg h h2 (by cases tg <;> first | rfl | (simp [notStar] at h3))) fun D σ H q => by
    obtain ⟨F, r, t, L, hs, R, po⟩ := q
    simp only [dS] at po
    exact tR.mk hs R (PoS.step hs po fun v H1 F1 r1 d L1 _ s1 p1 R1 rd hs1 po1 => tG_of hs1 R1 rd po1)
theorem swapped_no {tg e : Expr} (h : (match tg, e with | .Tuple _ _ _, .Tuple _ _ _ => false | .List _ _, .Tuple _ _ _ => false | _, _ => true) = true) (env : Env) : swappedStores [tg] e env = pure none := by
  cases tg with
  | Tuple => cases e <;> first | rfl | (cases h)
  | List => cases e <;> first | rfl | (cases h)
  | _ => rfl
/-- o[i] = e, by values -/
theorem RPk.app {F : Hp} : ∀ {xs ys : List (P × P)} {vs ws : List (Key × V)}, RPk G F xs vs → RPk G F ys ws → RPk G F (xs ++ ys) (vs ++ ws)
  | _, _, _, _, .nil, s => s
  | _, _, _, _, .cons k r t, s => .cons k r (RPk.app t s)
theorem put_any {F : Hp} {x : P} {k : Key} (hk : ∀ (y : P) (k' : Key), RP G F y (kV k') → eqF y x = decide (k' = k)) : ∀ {kvs : List (P × P)} {kv : List (Key × V)}, RPk G F kvs kv → (kvs.any fun q => eqF q.1 x) = kv.any fun q => decide (q.1 = k)
  | _, _, .nil => rfl
  | _, _, .cons h1 h2 t => by rw [List.any_cons, List.any_cons, hk _ _ h1, put_any hk t]
theorem put_map {F : Hp} {x y : P} {v : V} {k : Key} (ry : RP G F y v) (hk : ∀ (y : P) (k' : Key), RP G F y (kV k') → eqF y x = decide (k' = k)) : ∀ {kvs : List (P × P)} {kv : List (Key × V)}, RPk G F kvs kv →
    RPk G F (kvs.map fun q => if eqF q.1 x = true then (q.1, y) else q) (kv.map fun q => if q.1 = k then (q.1, v) else q)
  | _, _, .nil => .nil
  | _, _, .cons (k := p) (y := k') h1 h2 t => by
    rw [List.map_cons, List.map_cons, hk _ _ h1]
    by_cases e : k' = k
    · rw [if_pos (decide_eq_true e), if_pos e]
      exact .cons h1 ry (put_map ry hk t)
    · rw [if_neg (by simp [e]), if_neg e]
      exact .cons h1 h2 (put_map ry hk t)
theorem put_ok {F : Hp} {x y : P} {v : V} {k : Key} {kvs : List (P × P)} {kv : List (Key × V)} (rx : RP G F x (kV k)) (ry : RP G F y v) (hk : ∀ (y : P) (k' : Key), RP G F y (kV k') → eqF y x = decide (k' = k)) (t : RPk G F kvs kv) : RPk G F (putK' x y kvs) (putK kv k v) := by
  unfold putK' putK
  rw [put_any hk t]
  by_cases e : (kv.any fun q => decide (q.1 = k)) = true
  · rw [if_pos e, if_pos e]
    exact put_map ry hk t
  · rw [if_neg e, if_neg e]
    exact RPk.app t (.cons rx ry .nil)
theorem set_ok {pins : List (Addr × Obj)} {s : Shared} {σ : L2.St} {H : Hp} {o i v : V} {ov iv u : Value} {Q : Hp → Prop} {F : Hp} {r : Rho} {L : Hl} {a b x : D} {E : XK} (hu : X.A.units + 64 < cLine) (I : Inv X pins σ H s) (r1 : RelV o ov) (r2 : RelV i iv) (r3 : RelV v u) (R : Rel G F r H L)
    (ra : RD G F r a o) (rb : RD G F r b i) (rx : RD G F r x v) (po : Po G (fun _ _ (_ : Unit) (_ : Unit) => True) F r (setD a b x L) (fun _ H' => Q H') E) :
    wpAny (model X.prog X.w) X.A (setItem ov iv u) (fun _ s' => ∃ H', Inv X pins σ H' s' ∧ Q H') X.xe s := by
  unfold setD at po
  split at po
  · rename_i n y z
    cases rb with
    | p rb =>
      cases rx with
      | p rx =>
        cases ra with
        | ref ha =>
          split at po
          · rename_i xs k e
            split at po
            · rename_i j ej
              obtain ⟨h, h1, h2, h3⟩ := R.at e (by intro z; cases z) ha
              cases h3 with
              | lst t =>
                cases rb
                exact set_list pins s σ H _ _ v ov iv u Q I r1 r2 r3 ⟨_, _, _, j, rfl, rfl, h1, by rw [← t.len]; exact ej,
                  po F r _ () (Same.refl _) (Pre.refl _) (R.write e (by intro z; cases z) ha (.lst (t.set rx j))) trivial⟩
            · exact po.elim
          · rename_i kvs e
            split at po
            · rename_i hk
              obtain ⟨h, h1, h2, h3⟩ := R.at e (by intro z; cases z) ha
              cases h3 with
              | dct t =>
                obtain ⟨k, rfl, hk2⟩ := key_ok rb hk.1
                obtain rfl : ov = Value.ref _ := r1
                exact d_setItem (hu1 hu) I (DPut.k h1 (by rw [← RPk.len t]; exact Nat.lt_of_lt_of_le hk.2 (by rw [sizeLine_eq]; decide))) r2 r3 fun s4 I4 =>
                  ⟨_, I4, po F r _ () (Same.refl _) (Pre.refl _) (R.write e (by intro z; cases z) ha (.dct (put_ok rb rx hk2 t))) trivial⟩
            · exact po.elim
          · exact po.elim
  · exact po.elim
theorem s_seti (C : Ck S G cf X sc sf N cm W) {o i e : Expr} {ko ki ke : I} {p2 : Pos} (h : notComp e = true) (h4 : notSlice i = true) (ho : PE X o (tE G cf (cnOf S) W ko)) (hi : PE X i (tE G cf (cnOf S) W ki)) (he : PE X e (tE G cf (cnOf S) W ke)) :
    PS X (.Assign [.Subscript o i p2] e pos) (tS G cf (cnOf S) W (.seti ko ki ke)) := by
  refine ⟨fun pins s σ H Dn I q => ?_⟩
  obtain ⟨F, r, t, L, hs, R, po⟩ := q
  simp only [dS] at po
  have qe : tE G cf (cnOf S) W ke σ H (fun v H1 => tE G cf (cnOf S) W ko σ H1 fun w1 H2 => tE G cf (cnOf S) W ki σ H2 fun w2 H3 => ∃ (F : Hp) (r : Rho) (L : Hl) (a b x : D), Rel G F r H3 L ∧ RD G F r a w1 ∧ RD G F r b w2 ∧ RD G F r x v ∧
      Po G (fun _ _ (_ : Unit) (_ : Unit) => True) F r (setD a b x L) (fun _ H' => Dn.nx σ H') (fun c d H' => W c d σ H')) := by
    refine tR.mk hs R (PoS.step hs po fun v H1 F1 r1 x L1 _ s1 p1 R1 rx hs1 po1 => ?_)
    refine tR.mk hs1 R1 (PoS.step hs1 po1 fun w1 H2 F2 r2 a L2 _ s2 p2 R2 ra hs2 po2 => ?_)
    refine tR.mk hs2 R2 (PoS.step hs2 po2 fun w2 H3 F3 r3 b L3 _ s3 p3 R3 rb hs3 po3 => ?_)
    exact ⟨F3, r3, L3, a, b, x, R3, ra.mono s3 p3, rb, (rx.mono s2 p2).mono s3 p3, PoS.step hs3 po3 fun _ H4 F4 r4 _ L4 _ s4 p4 R4 _ hs4 po4 => po4.nx hs4 R4⟩
  refine wpAny_Assign_Subscript (thn (he.run pins s σ H _ I qe) fun u s1 ⟨v, H1, I1, rv, q1⟩ => thn (ho.run pins s1 σ H1 _ I1 q1) fun u1 s2 ⟨w1, H2, I2, rw1, q2⟩ => thn (hi.run pins s2 σ H2 _ I2 q2) fun u2 s3 ⟨w2, H3, I3, rw2, q3⟩ => ?_) (swaps_no h _ _ _)
  obtain ⟨F3, r3, L3, a, b, x, R3, ra, rb, rx, po3⟩ := q3
  exact thn (set_ok C.hu I3 rw1 rw2 rv R3 ra rb rx po3) fun _ s4 ⟨H4, I4, q4⟩ => ⟨σ, H4, I4, q4⟩
theorem s_for (C : Ck S G cf X sc sf N cm W) (hcm : cm = true) {tg it : Expr} {body : List Stmt} {g ki kb : I} (hs0 : notSet it = true) (hi : PI X tg it (tI G cf (cnOf S) W ki)) (hg : PG X tg (tG G g)) (hb : PSs X body (tS G cf (cnOf S) W kb)) :
    PS X (.For tg it body [] pos) (tS G cf (cnOf S) W (.for_ g ki kb)) :=
  psW (ps_for C.po (C.ecm hcm) hi hg hb (fun x => by cases it <;> first | rfl | (simp [notSet] at hs0))) fun D σ H q => by
    obtain ⟨F, r, t, L, hs, R, po⟩ := q
    simp only [dS] at po
    refine tR.mk hs R (PoS.step hs po fun J H1 F1 r1 xs L1 _ s1 p1 R1 wk hs1 po1 => ?_)
    -- behind i turns
    refine ⟨fun i m σ' H' => m = xs.length - i ∧ i ≤ xs.length ∧ ∃ (F' : Hp) (r' : Rho) (t' : Sg) (L' : Hl), Same F1 F' ∧ RSs G F' r' t' σ' ∧ Rel G F' r' H' L' ∧ PoS G W F' r' (forL (fun x t L => match gI g (.p x) t with
        | some t' => dS cf (cnOf S) kb t' L
        | none => .bad) (xs.drop i) t' L') D, ⟨_, rfl, Nat.zero_le _, F1, r1, t, L1, Same.refl _, hs1, R1, po1⟩, ?_⟩
    rintro i m σ' H' ⟨rfl, hi', F', r', t', L', s', hs', R', po'⟩
    by_cases hlt : i < xs.length
    · refine .inr ⟨wk.go i H' (s'.trans R'.sub) hlt, fun σ2 H2 => ∃ (F2 : Hp) (r2 : Rho) (t2 : Sg) (L2 : Hl), Same F' F2 ∧ RSs G F2 r2 t2 σ2 ∧ Rel G F2 r2 H2 L2 ∧ PoS G W F2 r2 (forL (fun x t L => match gI g (.p x) t with
        | some t' => dS cf (cnOf S) kb t' L
        | none => .bad) (xs.drop (i + 1)) t2 L2) D, fun σ2 H2 ⟨F2, r2, t2, L2, a1, a2, a3, a4⟩ => ⟨xs.length - (i + 1), by omega, rfl, hlt, F2, r2, t2, L2, s'.trans a1, a2, a3, a4⟩, fun x H2 hy => ?_⟩
      rw [List.drop_eq_getElem_cons hlt] at po'
      unfold forL at po'
      have hget : xs[i]? = some xs[i] := List.getElem?_eq_getElem hlt
      -- the item
      have item : ∃ F2, Same F' F2 ∧ Rel G F2 r' H2 L' ∧ RP G F2 xs[i] x := by
        rcases wk.yld i H' x H2 _ (s'.trans R'.sub) hget hy with ⟨e, rx⟩ | ⟨p, o, hp, e, rx⟩
        · subst e
          exact ⟨F', Same.refl _, R', rx.mono s'⟩
        · subst e
          exact ⟨_, same_upd (R'.nf hp), R'.allocF hp o, rx.mono (same_upd2 s')⟩
      obtain ⟨F2, s2, R2, rx⟩ := item
      refine ⟨F2, r', t', L', .p xs[i], hs'.mono s2 (Pre.refl _), R2, .p rx, ?_⟩
      have po2 := PoS.loop po'
      dsimp only at po2 ⊢
      cases e : gI g (.p xs[i]) t' with
      | none => rw [e] at po2; exact po2
      | some t2 =>
        rw [e] at po2
        intro σ2 hs2
        refine ⟨F2, r', t2, L', hs2, R2, PoS.mono po2 s2 (Pre.refl _)⟩
    · have e : i = xs.length := by omega
      subst e
      refine .inl ⟨wk.stop _ H' (s'.trans R'.sub) (Nat.le_refl _), ?_⟩
      rw [List.drop_length] at po'
      exact po'.nx hs' R'
theorem s_while (C : Ck S G cf X sc sf N cm W) {c : Expr} {body : List Stmt} {kc kb : I} (hc : PT X c (tT G cf (cnOf S) W kc)) (hb : PSs X body (tS G cf (cnOf S) W kb)) : PS X (.While c body [] pos) (tS G cf (cnOf S) W (.while_ kc kb)) :=
  psW (ps_while C.po hc hb) fun D σ H q => by
    obtain ⟨F, r, t, L, hs, R, po⟩ := q
    simp only [dS] at po
    refine ⟨fun m σ' H' => ∃ (F' : Hp) (r' : Rho) (t' : Sg) (L' : Hl), RSs G F' r' t' σ' ∧ Rel G F' r' H' L' ∧ PoS G W F' r' (whileL (fun t L => dT cf (cnOf S) kc t L) (fun t L => dS cf (cnOf S) kb t L) m t' L') D, ⟨1000000, F, r, t, L, hs, R, po⟩, ?_⟩
    rintro m σ' H' ⟨F', r', t', L', hs', R', po'⟩
    cases m with
    | zero => exact po'.elim
    | succ m =>
      unfold whileL at po'
      refine tR.mk hs' R' (PoS.step hs' po' fun v H1 F1 r1 bq L1 _ s1 p1 R1 rd hs1 po1 => ?_)
      subst rd
      cases bq with
      | true =>
        refine iteT ⟨fun σ2 H2 => ∃ (F2 : Hp) (r2 : Rho) (t2 : Sg) (L2 : Hl), Same F1 F2 ∧ RSs G F2 r2 t2 σ2 ∧ Rel G F2 r2 H2 L2 ∧ PoS G W F2 r2 (whileL (fun t L => dT cf (cnOf S) kc t L) (fun t L => dS cf (cnOf S) kb t L) m t2 L2) D, fun σ2 H2 ⟨F2, r2, t2, L2, a1, a2, a3, a4⟩ => ⟨m, Nat.lt_succ_self m, F2, r2, t2, L2, a2, a3, a4⟩, ?_⟩
        exact ⟨F1, r1, t', L1, hs1, R1, PoS.loop po1⟩
      | false => exact iteF (PoS.nx po1 hs1 R1)
end
end Fk

set_option Elab.async false
set_option linter.all false
set_option autoImplicit false
set_option maxRecDepth 100000
set_option maxHeartbeats 2000000
/-! Fk 10: methods of built-in classes; comprehensions -/
namespace Fk
open PySem PySem.Spec PyProof.Rows L2
section
variable {S : Stc} {G : Gm} {cf : Nat → List Sl → Hl → R D} {X : Cx} {sc sf : Scope} {N : List Str} {cm : Bool} {W : WX} {pos : Pos}
def rMe (G : Gm) (f : D → List D → Hl → R D) : V → List V → Hp → VK → Prop := fun x xs H Q => ∃ (F : Hp) (r : Rho) (L : Hl) (d : D) (ds : List D) (E : XK), Rel G F r H L ∧ RD G F r d x ∧ RDl G F r ds xs ∧ Po G (rD G) F r (f d ds L) Q E
theorem tyOk_ok {m : Me} {F : Hp} {r : Rho} {H : Hp} {L : Hl} {d : D} {x : V} (R : Rel G F r H L) (rd : RD G F r d x) (h : tyOk m d L = true) : tyV G.K (meT m) x H := by
  have lst : (rdL L d).isSome = true → tyV G.K "list" x H := fun h => by
    obtain ⟨xs, e⟩ := Option.isSome_iff_exists.mp h
    obtain ⟨a, vs, rfl, q, t⟩ := rdL_ok R rd e
    exact .inl ⟨rfl, _, .inl (.inl q)⟩
  have str : isStrD d = true → tyV G.K "str" x H := fun h => by
    cases rd with
    | p rd => cases rd <;> first | rfl | (cases h)
    | ref _ => cases h
  have dct : (rdK L d).isSome = true → tyV G.K "dict" x H := fun h => by
    obtain ⟨xs, e⟩ := Option.isSome_iff_exists.mp h
    obtain ⟨a, vs, rfl, q, t⟩ := rdK_ok R rd e
    exact .inr (.inr (.inl ⟨rfl, .inl ⟨_, q⟩⟩))
  cases m <;> first | exact lst h | exact str h | exact dct h
theorem few_no {es : List Expr} (h : es.all notStar = true) (hl : es.length < 30) (cpos : Pos) (env : Env) :
    ((backTo cpos (starEach es env)).all (fun x => !x.1) && (backToKw cpos (keywordEach [] env)).all (fun x => x.1.isSome) && decide (es.length + ([] : List Keyword).length + (if ([] : List Keyword).isEmpty then 0 else 1) < 30)) = true := by
  have h1 : ∀ {es : List Expr}, es.all notStar = true → (backTo cpos (starEach es env)).all (fun x => !x.1) = true := by
    intro es
    induction es with
    | nil => intro _; rfl
    | cons e es ih =>
      intro h
      rw [List.all_cons, Bool.and_eq_true] at h
      rw [star_no h.1]
      show (!false && (backTo cpos (starEach es env)).all (fun x => !x.1)) = true
      rw [ih h.2]; rfl
  rw [h1 h, Bool.true_and]
  have h2 : (backToKw cpos (keywordEach [] env)).all (fun x => x.1.isSome) = true := rfl
  rw [h2, Bool.true_and]
  simpa using hl
theorem me_po {m : Me} {ko ka : I} {σ : L2.St} {H : Hp} {Q : VK} (hK : X.K = G.K) (q : tE G cf (cnOf S) W (.me m ko ka) σ H Q) : tBM X.K (meT m) (rMe G (meD m)) (tE G cf (cnOf S) W ko) (tA G cf (cnOf S) W ka) σ H Q := by
  obtain ⟨F, r, t, L, hs, R, po⟩ := q
  simp only [dE] at po
  refine tR.mk hs R (Po.step po fun x H1 F1 r1 d L1 _ s1 p1 R1 rd po1 => ?_)
  split at po1
  · rename_i hty
    refine ⟨by rw [hK]; exact tyOk_ok R1 rd hty, tR.mk (hs.mono s1 p1) R1 (Po.step po1 fun xs H2 F2 r2 as L2 _ s2 p2 R2 ra po2 => ?_)⟩
    split at po2
    · have := vals_map ‹_›
      subst this
      exact ⟨F2, r2, L2, d, _, _, R2, rd.mono s2 p2, ra, po2⟩
    · exact po2.elim
  · exact po1.elim
theorem meR_append : MtR X "list.append" (rMe G (meD .append)) := by
  intro pins s σ H x xs v us Q I rx rv h
  obtain ⟨F, r, L, d, ds, E, R, rd, rl, po⟩ := h
  have po : Po G (rD G) F r (appendD d ds L) Q E := po
  unfold appendD at po
  split at po
  · rename_i n y
    split at po
    · rename_i ys e
      split at po
      · rename_i hz
        obtain ⟨w', rfl, ry⟩ := rl.one
        cases ry with
        | p ry =>
          cases rd with
          | ref ha =>
            obtain ⟨h, h1, h2, h3⟩ := R.at e (by intro z; cases z) ha
            cases h3 with
            | lst t =>
              exact mt_append pins s σ H _ _ v us Q I rx rv ⟨_, _, _, rfl, rfl, h1, by rw [← t.len]; exact hz,
                po F r _ _ (Same.refl _) (Pre.refl _) (R.write e (by intro z; cases z) ha (.lst (t.app (.cons ry .nil)))) (.p .non)⟩
      · exact po.elim
    · exact po.elim
  · exact po.elim
theorem RPs.dropLast {F : Hp} {xs : List P} {vs : List V} (t : RPs G F xs vs) : RPs G F xs.dropLast vs.dropLast := by
  rw [List.dropLast_eq_take, List.dropLast_eq_take, t.len]
  exact t.take _
theorem meR_pop : MtR X "list.pop" (rMe G (meD .pop)) := by
  intro pins s σ H x xs v us Q I rx rv h
  obtain ⟨F, r, L, d, ds, E, R, rd, rl, po⟩ := h
  have po : Po G (rD G) F r (popD d ds L) Q E := po
  unfold popD at po
  split at po
  · rename_i n
    split at po
    · rename_i ys e
      split at po
      · rename_i y hy
        have := rl.nil
        subst this
        cases rd with
        | ref ha =>
          obtain ⟨h, h1, h2, h3⟩ := R.at e (by intro z; cases z) ha
          cases h3 with
          | lst t =>
            obtain ⟨w', hw, rw'⟩ := t.get hy
            rw [t.len] at hw
            exact mt_pop pins s σ H _ _ v us Q I rx rv ⟨_, _, _, rfl, rfl, h1, hw,
              po F r _ _ (Same.refl _) (Pre.refl _) (R.write e (by intro z; cases z) ha (.lst t.dropLast)) (.p rw')⟩
      · exact po.elim
    · exact po.elim
  · exact po.elim
theorem s_me1 (C : Ck S G cf X sc sf N cm W) {m : Me} {id : String} {name : Str} {o e : Expr} {es : List Expr} {ko ka : I} {apos cpos : Pos} (pa : PlainAttrs (meT m)) (slot : Slot (meT m) name id) (hty : typeOf (.builtin id) = pure (.type "method_descriptor"))
    (hm : MtR X id (rMe G (meD m))) (h1 : notSup o = true) (h2 : (e :: es).all notStar = true) (h3 : (e :: es).length < 30) (h4 : (apos.endLine == cpos.line) = true) (ho : PE X o (tE G cf (cnOf S) W ko)) (ha : PA X (e :: es) (tA G cf (cnOf S) W ka)) :
    PE X (.Call (.Attribute o name apos) (e :: es) [] cpos) (tE G cf (cnOf S) W (.me m ko ka)) := by
  have h5 : notStar e = true ∧ es.all notStar = true := by rw [List.all_cons, Bool.and_eq_true] at h2; exact h2
  exact peW (pe_bm pa slot hty hm ho ha (base_no h1 _ _ _) (few_no h2 h3 _ _) h4 (star_no h5.1 _ _) (back_no _ h5.2 _)) fun σ H Q q => me_po C.eK q
theorem s_me0 (C : Ck S G cf X sc sf N cm W) {m : Me} {id : String} {name : Str} {o : Expr} {ko : I} {apos cpos : Pos} (pa : PlainAttrs (meT m)) (slot : Slot (meT m) name id) (hty : typeOf (.builtin id) = pure (.type "method_descriptor"))
    (hm : MtR X id (rMe G (meD m))) (h1 : notSup o = true) (h4 : (apos.endLine == cpos.line) = true) (ho : PE X o (tE G cf (cnOf S) W ko)) :
    PE X (.Call (.Attribute o name apos) [] [] cpos) (tE G cf (cnOf S) W (.me m ko .nil)) :=
  peW (pe_bm0 pa slot hty hm ho (base_no h1 _ _ _) h4) fun σ H Q q => by
    have z := me_po (X := X) C.eK q
    obtain ⟨F, r, t, L, hs, R, po⟩ := z
    exact ⟨F, r, t, L, hs, R, Po.imp po fun x H1 q => ⟨q.1, by
      obtain ⟨F, r, t, L, hs, R, po⟩ := q.2
      simp only [dA] at po
      exact Po.ok po R .nil⟩⟩
/-! ### comprehensions -/
theorem relabel_eq (scope : Scope) (env : Env) : relabel scope env = relS scope env.scope := rfl
theorem takesN {X : Cx} : L2N.Takes X (fun _ _ _ _ => False) := fun u s' x => by
  obtain ⟨_, _, _, _, _, _, _, _, _, _, _, _, _, _, _, _, z⟩ := x
  exact z.elim
theorem Ck.block (C : Ck S G cf X sc sf N true W) {scope : Scope} (hk : scope.kind = .function) (hf : ∀ x, L2.Loc scope x → (relS scope sc).names.lookup x = scope.names.lookup x) (s : Shared) (H : Hp) (A : Addr) (cl : List (Str × Addr)) (fp : List Addr) :
    Ck (S.blk true) G cf (X.blk s H scope (compEnvC scope cl A X.env) fp) (relS scope sc) scope N true (fun _ _ _ _ => False) where
  esc := by rw [← C.esc]; rfl
  eN := C.eN
  nd := C.nd
  eK := C.eK
  ecm := C.ecm
  tk := takesN
  po := PassesOwn.never
  hu := C.hu
  fo := fun x hx => by
    have e := hf x hx
    rcases hx with hx | hx
    · exact ⟨.inl (by rw [e]; exact hx), .inr (by rw [e]; exact hx)⟩
    · exact ⟨.inr (by rw [e]; exact hx), .inl (by show (scope.names.lookup x == some .cell) = true; rw [hx]; rfl)⟩
  kd := hk
  bn := C.bn
  con := C.con
  call := fun f fi h1 h2 h3 => by
    obtain ⟨a, e1, e2, e3⟩ := C.call f fi h1 h2 h3
    exact ⟨a, e1, e2, fun X' W' s t => e3 X' W' ⟨s.prog, s.w, s.K, s.mg, s.base, s.A, fun z => absurd ((C.ecm rfl).symm.trans z) (by simp)⟩ t⟩
  hot := fun h0 f fi h1 h2 h3 => by
    obtain ⟨a, e1, e2, e3⟩ := C.hot rfl f fi h1 h2 h3
    exact ⟨a, e1, e2, fun X' W' a0 oe c d h t => e3 X' W' a0 oe c d ⟨h.prog, h.w, h.K, h.mg, h.base, h.A, h.pin, h.zn, h.fl⟩ t⟩
  rm := C.rm
  cpx := C.cpx
  px := .inr fun a c d e => by rw [C.cpx rfl] at e; cases e
  fr := fun z => by cases z
  xc := C.xc
  ex := ⟨C.ex.one, C.ex.val, C.ex.exc⟩
  hc := fun z => by cases z
/-- the tests of a comprehension -/
theorem s_ptyes : PTs X [] (tT G cf (cnOf S) W .tyes) := ⟨fun pins s σ H Q I q => pts_nil.run pins s σ H Q I (by
  obtain ⟨F, r, t, L, hs, R, po⟩ := q
  simp only [dT] at po
  exact Po.ok po R rfl)⟩
theorem s_ptone {c : Expr} {kc : I} (h : PT X c (tT G cf (cnOf S) W kc)) : PTs X [c] (tT G cf (cnOf S) W kc) := pts_one h
theorem wipe_ok {F : Hp} {r : Rho} {t : Sg} {σ : L2.St} (hs : RSs G F r t σ) : ∀ ws : List Nat, RSs G F r (wipeS t ws) (wipe σ ws)
  | [] => hs
  | v :: vs => (wipe_ok hs vs).set .u v
abbrev noW : WX := fun _ _ _ _ => False
theorem nox_bind {α β : Type} (r : Fk.R α) (f : α → Hl → Fk.R β) : (r.bind f).nox = r.nox.bind fun a L => (f a L).nox := by cases r <;> rfl
/-- a step of a comprehension's turn: what is wanted at the end is kept over the base -/
theorem Po.stepB {α β γ δ : Type} {rel : Hp → Rho → α → β → Prop} {rel2 : Hp → Rho → γ → δ → Prop} {F F1 : Hp} {r r1 : Rho} {res : Fk.R α} {f : α → Hl → Fk.R γ} {Q : β → Hp → Prop} {Q2 : δ → Hp → Prop} {E E2 : XK} (po : Po G rel2 F r (res.nox.bind f) Q2 E)
    (hQ : ∀ (v : β) (H' F' : Hp) (r' : Rho) (a : α) (L' : Hl), res = .ok a L' → Same F1 F' → Pre r1 r' → Rel G F' r' H' L' → rel F' r' a v → Po G rel2 F r (f a L') Q2 E → Q v H') : Po G rel F1 r1 res Q E2 := by
  cases res with
  | ok a L => exact fun F' r' H' v s p R d => hQ v H' F' r' a L rfl s p R d po
  | ex c fs L => exact po.elim
  | bad => exact po.elim
theorem pre_take {r r' : Rho} {p : Addr} (h : Pre (r ++ [p]) r') : r'.take r.length = r := by
  apply List.ext_getElem?
  intro i
  by_cases hi : i < r.length
  · rw [List.getElem?_take_of_lt hi]
    have e : (r ++ [p])[i]? = some r[i] := by rw [List.getElem?_append_left hi]; exact List.getElem?_eq_getElem hi
    rw [h i _ e, List.getElem?_eq_getElem hi]
  · rw [List.getElem?_eq_none (by rw [List.length_take]; omega), List.getElem?_eq_none (by omega)]
theorem wipe_in {σ : L2.St} {i : Nat} : ∀ {vs : List Nat}, i ∈ vs → i < σ.length → (wipe σ vs)[i]? = some none
  | [], h, _ => by cases h
  | v :: vs, h, hl => by
    unfold wipe
    by_cases e : v = i
    · subst e
      rw [List.getElem?_set_self (by rw [wipe_length]; exact hl)]
    · rw [List.getElem?_set_ne e]
      rcases List.mem_cons.mp h with h | h
      · exact absurd h.symm e
      · exact wipe_in h hl
theorem wipe_set {σ : L2.St} {i : Nat} {x : Option V} {vs : List Nat} (h : i ∈ vs) : wipe (σ.set i x) vs = wipe σ vs := by
  apply List.ext_getElem?
  intro j
  by_cases hl : j < σ.length
  · by_cases hj : j ∈ vs
    · rw [wipe_in hj hl, wipe_in hj (by rw [List.length_set]; exact hl)]
    · rw [wipe_out hj, wipe_out hj, List.getElem?_set_ne (by intro e; subst e; exact hj h)]
  · rw [List.getElem?_eq_none (by rw [wipe_length, List.length_set]; omega), List.getElem?_eq_none (by rw [wipe_length]; omega)]
theorem wipe_wipe {σ : L2.St} {vs : List Nat} : wipe (wipe σ vs) vs = wipe σ vs := by
  apply List.ext_getElem?
  intro j
  by_cases hl : j < σ.length
  · by_cases hj : j ∈ vs
    · rw [wipe_in hj hl, wipe_in hj (by rw [wipe_length]; exact hl)]
    · rw [wipe_out hj]
  · rw [List.getElem?_eq_none (by rw [wipe_length, wipe_length]; omega), List.getElem?_eq_none (by rw [wipe_length]; omega)]
/-- a comprehension's target -/
def TgOk (G : Gm) (g : I) (kg : TG) (ws : List Nat) : Prop := ∀ (v : V) (σ : L2.St) (H : Hp) (Q : L2.St → Hp → Prop) (F : Hp) (r : Rho) (t t' : Sg) (L : Hl) (x : D), RSs G F r t σ → Rel G F r H L → RD G F r x v → gI g x t = some t' →
  (∀ σ', RSs G F r t' σ' → wipe σ' ws = wipe σ ws → Q σ' H) → kg v σ H Q
theorem tg_name {i : Nat} {ws : List Nat} (h : i ∈ ws) : TgOk G (.gn i) (gName i) ws := fun v σ H Q F r t t' L x hs R rd e q => by
  simp only [gI, Option.some.injEq] at e
  subst e
  exact q _ (hs.set (.v rd) i) (wipe_set h)
theorem tg_two {i j : Nat} {ws : List Nat} (h : i ∈ ws) (h' : j ∈ ws) : TgOk G (.gt (.cons (.gn i) (.cons (.gn j) .nil))) (gTup G.K 2 (gCons (gName i) (gCons (gName j) gNil))) ws := fun v σ H Q F r t t' L x hs R rd e q => by
  obtain ⟨xs, rfl, h2, h3⟩ := gt_some e
  obtain ⟨a, vs, rfl, q2, t2⟩ := pT rd rfl
  cases t2 with
  | nil => cases h2
  | cons r1 t2 =>
    cases t2 with
    | nil => cases h2
    | cons r2 t2 =>
      cases t2 with
      | cons r3 t2 => cases h2
      | nil =>
        simp only [gIs, Option.some.injEq] at h3
        subst h3
        refine ⟨a, _, rfl, SqT.same R.sub q2, rfl, _, _, rfl, _, _, rfl, rfl, ?_⟩
        exact q _ ((hs.set (.v (.p r1)) i).set (.v (.p r2)) j) (by rw [wipe_set h', wipe_set h])
theorem comp_core {m : Bool} {ws : List Nat} {g ki kc ke : I} {kg : TG} {σ : L2.St} {H : Hp} {Q : VK} (q : tE G cf (cnOf S) W (.comp m ws g ki kc ke) σ H Q) (hg : TgOk G g kg ws) :
    tLc (tI G cf (cnOf S) W ki) kg (tT G cf (cnOf S) noW kc) (tE G cf (cnOf S) noW ke) ws σ H Q := by
  obtain ⟨F, r, t, L, hs, R, po⟩ := q
  simp only [dE] at po
  refine tR.mk hs R (Po.step po fun J H1 F1 r1 xs L1 _ s1 p1 R1 wk po1 => ?_)
  intro Da hDa
  have hs1 := hs.mono s1 p1
  have hl : r1.length = L1.length := R1.len
  -- behind i turns: the rest is wanted over the base F1, r1
  refine ⟨fun i m' H' => m' = xs.length - i ∧ i ≤ xs.length ∧ ∃ (F' : Hp) (r' : Rho) (L' : Hl), Same F1 F' ∧ Pre (r1 ++ [Da]) r' ∧ Rel G F' r' H' L' ∧ Po G (rD G) F1 r1 ((compL (fun x L => match gI g (.p x) (wipeS t ws) with
      | some t' => (dT cf (cnOf S) kc t' L).bind fun b L => if b then (dE cf (cnOf S) ke t' L).bind fun y L => (match y with
        | .p y => .ok (some y) L
        | _ => .bad) else .ok none L
      | none => .bad) L1.length (xs.drop i) L').bind fun _ L' => compEnd m L1.length L') Q (fun c d H' => W c d σ H'),
    ⟨_, rfl, Nat.zero_le _, F1, r1 ++ [Da], L1 ++ [.lst []], Same.refl _, Pre.refl _, R1.allocM hDa (o := .lst []) (.lst .nil), by rw [List.drop_zero]; exact po1⟩, ?_⟩
  rintro i m' H' ⟨rfl, hi', F', r', L', s', p', R', po'⟩
  have hD : r'[L1.length]? = some Da := p' _ _ (by rw [← hl]; simp)
  by_cases hlt : i < xs.length
  · refine .inr ⟨wk.go i H' (s'.trans R'.sub) hlt, fun H2 => ∃ (F2 : Hp) (r2 : Rho) (L2 : Hl), Same F' F2 ∧ Pre r' r2 ∧ Rel G F2 r2 H2 L2 ∧ Po G (rD G) F1 r1 ((compL (fun x L => match gI g (.p x) (wipeS t ws) with
      | some t' => (dT cf (cnOf S) kc t' L).bind fun b L => if b then (dE cf (cnOf S) ke t' L).bind fun y L => (match y with
        | .p y => .ok (some y) L
        | _ => .bad) else .ok none L
      | none => .bad) L1.length (xs.drop (i + 1)) L2).bind fun _ L' => compEnd m L1.length L') Q (fun c d H' => W c d σ H'),
      fun H2 ⟨F2, r2, L2, a1, a2, a3, a4⟩ => ⟨xs.length - (i + 1), by omega, rfl, hlt, F2, r2, L2, s'.trans a1, p'.trans a2, a3, a4⟩, fun x H2 hy => ?_⟩
    rw [List.drop_eq_getElem_cons hlt] at po'
    unfold compL at po'
    have hget : xs[i]? = some xs[i] := List.getElem?_eq_getElem hlt
    have item : ∃ F2, Same F' F2 ∧ Rel G F2 r' H2 L' ∧ RP G F2 xs[i] x := by
      rcases wk.yld i H' x H2 _ (s'.trans R'.sub) hget hy with ⟨e, rx⟩ | ⟨p, o, hp, e, rx⟩
      · subst e
        exact ⟨F', Same.refl _, R', rx.mono s'⟩
      · subst e
        exact ⟨_, same_upd (R'.nf hp), R'.allocF hp o, rx.mono (same_upd2 s')⟩
    obtain ⟨F2, s2, R2, rx⟩ := item
    rw [bind_bind] at po'
    cases e : gI g (.p xs[i]) (wipeS t ws) with
    | none => rw [e] at po'; exact po'.elim
    | some t' =>
      rw [e] at po'
      dsimp only at po'
      rw [nox_bind, bind_bind] at po'
      have hsw : RSs G F2 r' (wipeS t ws) (wipe σ ws) := wipe_ok ((hs1.mono s' (fun n a h => p' n a (Pre.app r1 Da n a h))).mono s2 (Pre.refl _)) ws
      refine hg x (wipe σ ws) H2 _ F2 r' (wipeS t ws) t' L' (.p xs[i]) hsw R2 (.p rx) e fun σ2 hs2 hw => ?_
      refine ⟨by rw [hw, wipe_wipe], ?_⟩
      refine tR.mk hs2 R2 (Po.stepB po' fun b H3 F3 r3 bq L3 _ s3 p3 R3 rb po3 => ?_)
      subst rb
      cases bq with
      | true =>
        rw [if_pos rfl] at po3
        rw [nox_bind, bind_bind] at po3
        refine iteT (tR.mk (hs2.mono s3 p3) R3 (Po.stepB po3 fun y H4 F4 r4 d L4 _ s4 p4 R4 rd po4 => ?_))
        cases d with
        | ref n => exact po4.elim
        | p y' =>
          simp only [Fk.R.nox_ok, Fk.R.bind_ok] at po4
          split at po4
          · rename_i acc ea
            split at po4
            · rename_i hz
              cases rd with
              | p rd =>
                have hD4 : r4[L1.length]? = some Da := p4 _ _ (p3 _ _ hD)
                obtain ⟨h, h1, h2, h3⟩ := R4.at ea (by intro z; cases z) hD4
                cases h3 with
                | lst tt =>
                  exact ⟨_, h1, by rw [← tt.len]; exact hz, F4, r4, _, (s2.trans s3).trans s4, p3.trans p4, R4.write ea (by intro z; cases z) hD4 (.lst (tt.app (.cons rd .nil))), po4⟩
            · exact po4.elim
          · exact po4.elim
      | false =>
        rw [if_neg (by decide)] at po3
        exact iteF ⟨F3, r3, L3, s2.trans s3, p3, R3, po3⟩
  · have e : i = xs.length := by omega
    subst e
    refine .inl ⟨wk.stop _ H' (s'.trans R'.sub) (Nat.le_refl _), ?_⟩
    rw [List.drop_length] at po'
    have po' : Po G (rD G) F1 r1 (compEnd m L1.length L') Q (fun c d H' => W c d σ H') := po'
    unfold compEnd at po'
    split at po'
    · rename_i ys ey
      obtain ⟨h, h1, h2, h3⟩ := R'.at ey (by intro z; cases z) hD
      cases h3 with
      | lst tt =>
        rename_i vs'
        split at po'
        · exact po' F' r' H' _ s' (fun n a h => p' n a (Pre.app r1 Da n a h)) R' (.ref hD)
        · split at po'
          · rename_i hcl
            obtain ⟨R2, hF⟩ := R'.freeze ey (by intro z; cases z) hD h1
            have e1 : ((L'.set L1.length .dead).take L1.length) = L'.take L1.length := by
              apply List.ext_getElem?
              intro j
              by_cases hj : j < L1.length
              · rw [List.getElem?_take_of_lt hj, List.getElem?_take_of_lt hj, List.getElem?_set_ne (by omega)]
              · rw [List.getElem?_eq_none (by rw [List.length_take]; omega), List.getElem?_eq_none (by rw [List.length_take]; omega)]
            have R3 := R2.take L1.length (by rw [e1]; exact hcl)
            rw [e1, ← hl, pre_take p', hl] at R3
            have s := same_upd (o := HO.lst vs') hF
            exact po' _ r1 H' _ (s'.trans s) (Pre.refl _) R3 (.p (.lst upd_same (tt.mono s)))
          · exact po'.elim
    · exact po'.elim
theorem blk_loc {scope sc : Scope} : ∀ x, L2.Loc scope x → (relS scope sc).names.lookup x = scope.names.lookup x := fun x hx => by
  rcases hx with h | h
  · rw [h]; exact lookup_relS_keep (by intro z; cases z) h
  · rw [h]; exact lookup_relS_keep (by intro z; cases z) h
/-- [e for g in it if t] -/
theorem s_comp (C : Ck S G cf X sc sf N true W) {elt tg iter : Expr} {ifs : List Expr} {scope : Scope} {own : List (Str × Nat)} {m : Bool} {g ki kc ke : I} {kg : TG} (hb : blkC N sc scope own = true) (hk : scope.kind = .function)
    (hi : PI X tg iter (tI G cf (cnOf S) W ki)) (hs0 : notSet iter = true) (hg : TgOk G g kg (own.map (·.2)))
    (hg2 : ∀ X', Ck (S.blk true) G cf X' (relS scope sc) scope N true noW → PG X' tg kg) (ht : ∀ X', Ck (S.blk true) G cf X' (relS scope sc) scope N true noW → PTs X' ifs (tT G cf (cnOf S) noW kc)) (he : ∀ X', Ck (S.blk true) G cf X' (relS scope sc) scope N true noW → PE X' elt (tE G cf (cnOf S) noW ke)) :
    PE X (.ListComp elt [⟨tg, iter, ifs, 0⟩] scope pos) (tE G cf (cnOf S) W (.comp m (own.map (·.2)) g ki kc ke)) := by
  have ok : BlkOk X.N X.env.scope scope own := by rw [C.eN, C.esc]; exact blkOk_by hb
  have ck : ∀ (s : Shared) (H : Hp) (A : Addr) (cl : List (Str × Addr)) (fp : List Addr), Ck (S.blk true) G cf (X.blk s H scope (compEnvC scope cl A X.env) fp) (relS scope sc) scope N true noW := fun s H A cl fp => C.block hk (blk_loc) s H A cl fp
  exact peW (pe_lc (C.ecm rfl) (by rw [C.eN]; exact C.nd) hi ok (fun s H A cl fp => hg2 _ (ck s H A cl fp)) (fun s H A cl fp => ht _ (ck s H A cl fp)) (fun s H A cl fp => he _ (ck s H A cl fp)) (fun x => by cases iter <;> first | rfl | (simp [notSet] at hs0))) fun σ H Q q => comp_core q hg
/-- y = [..] on one line -/
theorem s_setComp (C : Ck S G cf X sc sf N true W) {elt tg iter : Expr} {ifs : List Expr} {scope : Scope} {own : List (Str × Nat)} {m : Bool} {g ki kc ke : I} {kg : TG} {y : Str} {py : Pos} {i : Nat} (hb : blkC N sc scope own = true) (hk : scope.kind = .function)
    (hy : N[i]? = some y) (hyl : sc.names.lookup y = some .local) (hsw : swapsWith (.ListComp elt [⟨tg, iter, ifs, 0⟩] scope pos) (some (.Name y py)) pos.line X.env = pure true)
    (hi : PI X tg iter (tI G cf (cnOf S) W ki)) (hs0 : notSet iter = true) (hg : TgOk G g kg (own.map (·.2)))
    (hg2 : ∀ X', Ck (S.blk true) G cf X' (relS scope sc) scope N true noW → PG X' tg kg) (ht : ∀ X', Ck (S.blk true) G cf X' (relS scope sc) scope N true noW → PTs X' ifs (tT G cf (cnOf S) noW kc)) (he : ∀ X', Ck (S.blk true) G cf X' (relS scope sc) scope N true noW → PE X' elt (tE G cf (cnOf S) noW ke)) {spos : Pos} (hsp : spos.line = pos.line) :
    PS X (.Assign [.Name y py] (.ListComp elt [⟨tg, iter, ifs, 0⟩] scope pos) spos) (tS G cf (cnOf S) W (.asg (.gn i) (.comp m (own.map (·.2)) g ki kc ke))) := by
  have ok : BlkOk X.N X.env.scope scope own := by rw [C.eN, C.esc]; exact blkOk_by hb
  have ck : ∀ (s : Shared) (H : Hp) (A : Addr) (cl : List (Str × Addr)) (fp : List Addr), Ck (S.blk true) G cf (X.blk s H scope (compEnvC scope cl A X.env) fp) (relS scope sc) scope N true noW := fun s H A cl fp => C.block hk (blk_loc) s H A cl fp
  refine psW (ps_setLc (C.ecm rfl) (by rw [C.eN]; exact C.nd) (by rw [C.eN]; exact hy) (by rw [C.esc]; exact hyl) (by rw [hsp]; exact hsw) hi ok (fun s H A cl fp => hg2 _ (ck s H A cl fp)) (fun s H A cl fp => ht _ (ck s H A cl fp)) (fun s H A cl fp => he _ (ck s H A cl fp)) (fun x => by cases iter <;> first | rfl | (simp [notSet] at hs0))) fun Dn σ H q => ?_
  obtain ⟨F, r, t, L, hs, R, po⟩ := q
  simp only [dS] at po
  have po2 : tE G cf (cnOf S) W (.comp m (own.map (·.2)) g ki kc ke) σ H (fun v H1 => gName i v σ H1 Dn.nx) := by
    refine tR.mk hs R (PoS.step hs po fun v H1 F1 r1 d L1 _ s1 p1 R1 rd hs1 po1 => ?_)
    simp only [gI] at po1
    exact po1.nx (hs1.set (.v rd) i) R1
  exact comp_core po2 hg
end
end Fk

set_option Elab.async false
set_option linter.all false
set_option autoImplicit false
set_option maxRecDepth 100000
set_option maxHeartbeats 2000000
/-! Fk E: raise, try, what is asked of a caught exception -/
namespace Fk
open PySem PySem.Spec PyProof.Rows L2
section
variable {S : Stc} {G : Gm} {cf : Nat → List Sl → Hl → R D} {X : Cx} {sc sf : Scope} {N : List Str} {cm : Bool} {W : WX} {pos : Pos}
theorem s_raise (C : Ck S G cf X sc sf N true W) {xi : XcI} (hx : xi ∈ S.xcs) (hg : gloB sc xi.nm = true) (hn : nmB xi.nm = true) {es : List Expr} {ka : I} {x : Nat} {p cpos : Pos}
    (hst : es = [] ∨ ∃ e er, es = e :: er ∧ notStar e = true ∧ er.all notStar = true) (hnil : es = [] → ka = .nil) (ha : PA X es (tA G cf (cnOf S) W ka)) :
    PS X (.Raise (some (.Call (.Name xi.nm p) es [] cpos)) none pos) (tS G cf (cnOf S) W (.raise x xi.cl xi.kd ka)) := by
  refine psW (L2N.ps_raise (C.ecm rfl) C.tk (C.xc rfl xi hx X rfl rfl C.eK rfl rfl (C.rm rfl) es _ p cpos ha (gloB_ok C hg) (nmB_ok hn).1 ?_ ?_)) fun Dn σ H q => ?_
  · rcases hst with e | ⟨e, er, h1, h2, h3⟩
    · exact .inl e
    · exact .inr ⟨e, er, h1, star_no h2 _ _, back_no _ h3 _⟩
  · intro e σ H Q q
    rw [hnil e] at q
    obtain ⟨F, r, t, L, hs, R, po⟩ := q
    simp only [dA] at po
    exact Po.ok po R .nil
  · obtain ⟨F, r, t, L, hs, R, po⟩ := q
    simp only [dS] at po
    refine tR.mk hs R (PoS.step hs po fun v H1 F1 r1 xs L1 _ s1 p1 R1 rd hs1 po1 => ?_)
    split at po1
    · rename_i fs e
      exact ⟨F1, r1, L1, xs, fs, rd, R1, e, fun F' r' H' d s p R' x => po1 F' r' H' σ d s p R' (hs1.mono s p) x⟩
    · exact po1.elim
/-- isinstance(e, c), e an exception that is held -/
def rIsX (K : PySem.W.Frag) (C a : Addr) (d : Option Addr) : List V → Hp → VK → Prop := fun xs H Q => ∃ (c : V) (cv : Value) (b : Bool), xs = [.ref a, c] ∧ (∀ u, RelV c u → u = cv) ∧ PySem.W.kitOne K (.ref C) cv = some b ∧ (∀ dx, d = some dx → ∃ fs, H dx = some (.xd fs)) ∧ Q (.bl b) H
theorem call_isX {a C : Addr} {oe : Obj} {d : Option Addr} (T : ExcC X.K C) (hp : (a, oe) ∈ X.pn) (hz : L2N.Zn (.ref C) d oe) (hf : ∃ vs, oe.data = .fields vs) : CallR X (.builtin "isinstance") (rIsX X.K C a d) := by
  intro pins s σ H xs us Q I r h
  obtain ⟨c, cv, b, rfl, hcv, e, hd, q⟩ := h
  cases r with
  | cons rx rr =>
    cases rr with
    | cons rt rr =>
      cases rr
      cases rx
      have ec := hcv _ rt
      subst ec
      have hget := (I.pin (a, oe) (List.mem_append.mpr (.inl hp))).1
      obtain ⟨vs, hv⟩ := hf
      have J : ∃ od, PySem.W.InstAt s.heap a oe C od := by
        obtain ⟨oc, odd, oda, osl⟩ := oe
        obtain ⟨h1, h2, _⟩ := hz
        dsimp only at h1 h2 hv
        subst h1 h2 hv
        cases odd with
        | none => exact ⟨none, hget, rfl, rfl, trivial⟩
        | some dx =>
          obtain ⟨fs, hx⟩ := hd dx rfl
          obtain ⟨mA, ⟨o, es, ep, ho, _⟩, _⟩ := (show ObjOk X.prog X.w H s.heap dx (.xd fs) from I.hok dx _ hx)
          exact ⟨some o, hget, rfl, rfl, ho⟩
      obtain ⟨od, J⟩ := J
      have hcl : (PySem.W.clsIn X.K C).isSome = true := by
        have := T.hd
        unfold PySem.W.hasDictIn at this
        cases q : PySem.W.clsIn X.K C with
        | none => rw [q] at this; cases this
        | some cd => rfl
      exact PySem.W.kia_one (PySem.W.kitx_exc hcl T.hg T.hk T.hs T.ha T.hn T.ht T.hm) I.kIn J e (fun z => nomatch z) fun tk => ⟨.bl b, H, I.kept (t' := tk) fun _ _ z => z, rfl, q⟩
def rIsY (X : Cx) : List V → Hp → VK → Prop := fun xs H Q => ∃ (a C : Addr) (d : Option Addr), (∃ oe, (a, oe) ∈ X.pn ∧ L2N.Zn (.ref C) d oe ∧ ∃ vs, oe.data = .fields vs) ∧ ExcC X.K C ∧ rIsX X.K C a d xs H Q
theorem call_isY : CallR X (.builtin "isinstance") (rIsY X) := fun pins s σ H xs us Q I r h => by
  obtain ⟨a, C, d, ⟨oe, h1, h2, h3⟩, T, h⟩ := h
  exact call_isX T h1 h2 h3 pins s σ H xs us Q I r h
theorem mem_of_lk {c : Nat} {b : Bool} : ∀ {ks : List (Nat × Bool)}, ks.lookup c = some b → (c, b) ∈ ks
  | [], h => by simp at h
  | (k, v) :: ks, h => by
    rw [List.lookup_cons] at h
    split at h
    · rename_i e
      have e : c = k := by simpa using e
      cases h
      rw [e]; exact List.mem_cons_self
    · exact List.mem_cons_of_mem _ (mem_of_lk h)
theorem RX.at {G : Gm} {F H : Hp} {fs : Flds} {d : Option Addr} (h : RX G F fs d) (s : Same F H) : ∀ dx, d = some dx → ∃ fv, H dx = some (.xd fv) := by
  intro dx e
  cases h with
  | nil => cases e
  | xd h t => cases e; exact ⟨_, s _ _ h⟩
theorem s_exi (C : Ck S G cf X sc sf N cm W) {x y : Str} {i : Nat} {ks : List (Nat × Bool)} {tg : Option Nat} {p px pc : Pos} (hv : varB sc N x i = true) (hb2 : ("isinstance" : Str) ∈ S.bn) (hg2 : gloB sc "isinstance" = true) (hg : gloB sc y = true) (hn : nmB y = true)
    (ht : (tg = none ∧ y = "ValueError" ∧ y ∈ S.bn) ∨ ∃ (c j : Nat), tg = some c ∧ S.cn[j]? = some (y, P.cls c)) (hk : ∀ q ∈ ks, (q.1, tg, q.2) ∈ S.exm) :
    PE X (.Call (.Name "isinstance" p) [.Name x px, .Name y pc] [] pos) (tE G cf (cnOf S) W (.exi i ks)) := by
  have hcl : ∃ (v : V) (cv : Value), PE X (.Name y pc) (tC v) ∧ (∀ u, RelV v u → u = cv) ∧ ∀ c0 b, (c0, tg, b) ∈ S.exm → PySem.W.kitOne G.K (.ref (G.ca c0)) cv = some b := by
    rcases ht with ⟨rfl, rfl, hb⟩ | ⟨c, j, rfl, hc⟩
    · exact ⟨.ty "ValueError", .type "ValueError", pe_bltn (gloB_ok C hg) (C.bn _ hb) (by decide +kernel) rfl (nmB_ok hn).2.2 (nmB_ok hn).1, fun u h => h, fun c0 b h => C.ex.val c0 b h⟩
    · obtain ⟨v, u, hm, rv, rp⟩ := C.con j y _ hc
      have := rp fun _ => none
      cases this
      have ru : u = .ref (G.ca c) := rv
      subst ru
      exact ⟨_, _, pe_glob (gloB_ok C hg) hm rv (nmB_ok hn).1, fun u h => h, fun c0 b h => (C.ex.one c0 c b h).2⟩
  obtain ⟨v2, cv, hcl, hcv, hkit⟩ := hcl
  refine peW (pe_callB call_isY (gloB_ok C hg2) (C.bn _ hb2) PyProof.Rows.boot_isinstance (pa_cons (s_name C hv) (pa_cons hcl pa_nil (star_no rfl _ _)) (star_no rfl _ _)) (by decide) (by decide) (star_no rfl _ _) (back_no _ rfl _)) fun σ H Q q => ?_
  obtain ⟨F, r, t, L, hs, R, po⟩ := q
  simp only [dE] at po
  split at po
  · rename_i c fs e
    obtain ⟨o, hv, rv⟩ := hs.get e
    cases rv with
    | e h1 h2 =>
      rename_i a d
      unfold blR at po
      split at po
      · rename_i b hb
        have hm := hk _ (mem_of_lk hb)
        have hpx : ∃ oe, (a, oe) ∈ X.pn ∧ L2N.Zn (.ref (G.ca c)) d oe ∧ ∃ vs, oe.data = .fields vs := by
          rcases C.px with z | z
          · rw [z] at hm; cases hm
          · exact z a c d h1
        refine ⟨_, hv, a, G.ca c, d, hpx, by rw [C.eK]; exact C.ex.exc _ _ _ hm, v2, cv, b, rfl, hcv, by rw [C.eK]; exact hkit _ _ hm, h2.at R.sub, Po.ok po R (.p (.bl b))⟩
      · exact po.elim
  · exact po.elim
theorem Ck.tr (C : Ck S G cf X sc sf N true W) {W' : WX} {pn : List (Addr × Obj)} {xe : Value → Shared → Prop} (tk : L2N.Takes (X.tr pn xe) W') (po : PassesOwn (model X.prog X.w) X.A X.env xe) : Ck S G cf (X.tr pn xe) sc sf N true W' where
  esc := C.esc
  eN := C.eN
  nd := C.nd
  eK := C.eK
  ecm := C.ecm
  tk := tk
  po := po
  hu := C.hu
  fo := C.fo
  kd := C.kd
  bn := C.bn
  con := C.con
  call := fun f fi h1 h2 h3 => by
    obtain ⟨a, e1, e2, e3⟩ := C.call f fi h1 h2 h3
    exact ⟨a, e1, e2, fun X' W' s t => e3 X' W' ⟨s.prog, s.w, s.K, s.mg, s.base, s.A, fun z => absurd ((C.ecm rfl).symm.trans z) (by simp)⟩ t⟩
  hot := fun h0 f fi h1 h2 h3 => by
    obtain ⟨a, e1, e2, e3⟩ := C.hot rfl f fi h1 h2 h3
    exact ⟨a, e1, e2, fun X' W' a0 oe c d h t => e3 X' W' a0 oe c d ⟨h.prog, h.w, h.K, h.mg, h.base, h.A, h.pin, h.zn, h.fl⟩ t⟩
  rm := C.rm
  cpx := C.cpx
  px := .inr fun a c d e => by rw [C.cpx rfl] at e; cases e
  fr := C.fr
  xc := C.xc
  ex := C.ex
  hc := fun z => by cases z
theorem Ck.suite (C : Ck S G cf X sc sf N true W) {a : Addr} {oe : Obj} {c0 : Nat} {d : Option Addr} {pn : List (Addr × Obj)} (hz : L2N.Zn (.ref (G.ca c0)) d oe) (hf : ∃ vs, oe.data = .fields vs) : Ck S (G.at (some (a, c0, d))) cf (X.suite a ((a, oe) :: pn)) sc sf N false noW where
  esc := C.esc
  eN := C.eN
  nd := C.nd
  eK := C.eK
  ecm := fun z => by cases z
  tk := takesN
  po := PassesOwn.never
  hu := C.hu
  fo := C.fo
  kd := C.kd
  bn := C.bn
  con := fun k x p h => by
    obtain ⟨v, u, h1, h2, h3⟩ := C.con k x p h
    exact ⟨v, u, h1, h2, fun F => (h3 F).px⟩
  call := fun f fi h1 h2 h3 => by
    obtain ⟨b, e1, e2, e3⟩ := C.hot rfl f fi h1 h2 h3
    exact ⟨b, e1, e2, fun X' W' s t => e3 X' W' a oe c0 d ⟨s.prog, s.w, s.K, s.mg, s.base, s.A, by rw [s.pn rfl]; exact List.mem_cons_self, hz, hf⟩ t⟩
  hot := fun z => by cases z
  rm := fun z => by cases z
  cpx := fun z => by cases z
  px := .inr fun a c d e => by cases e; exact ⟨oe, List.mem_cons_self, hz, hf⟩
  fr := C.fr
  xc := fun z => by cases z
  ex := C.ex
  hc := fun _ _ => by
    obtain ⟨vs, hv⟩ := hf
    exact ⟨(a, oe), ⟨rfl, vs, hv, hz.2.2 vs hv⟩, List.mem_cons_self⟩
theorem s_try (C : Ck S G cf X sc sf N true W) (htop : S.top = true) {x n : Str} {i c j : Nat} {ks : List (Nat × Bool)} {body suite : List Stmt} {b₀ : Stmt} {np pos' : Pos} {kb ksu : I} (hi : N[i]? = some n) (hln : sc.names.lookup n = some .local)
    (hx : S.cn[j]? = some (x, P.cls c)) (hg : gloB sc x = true) (hn : nmB x = true) (hk : ∀ q ∈ ks, (q.1, some c, q.2) ∈ S.exm)
    (hb : ∀ X' W', Ck S G cf X' sc sf N true W' → PSs X' body (tS G cf (cnOf S) W' kb)) (hs : ∀ X' q, Ck S (G.at q) cf X' sc sf N false noW → PSs X' (b₀ :: suite) (tS (G.at q) cf (cnOf S) noW ksu)) :
    PS X (.Try body [.ExceptHandler (some (.Name x np)) (some n) (b₀ :: suite) pos'] [] [] pos) (tS G cf (cnOf S) W (.try_ kb c ks i ksu)) := by
  obtain ⟨v, u, hm, rv, rp⟩ := C.con j x _ hx
  have hv := rp fun _ => none
  cases hv
  have ru : u = .ref (G.ca c) := rv
  subst ru
  let ts : Addr → Value → Option Addr → TS := fun a cls d D σ H => ∃ c0, cls = .ref (G.ca c0) ∧ tS (G.at (some (a, c0, d))) cf (cnOf S) noW ksu D σ H
  refine psW (L2N.ps_try_as (i := i) (tb := fun W' => tS G cf (cnOf S) W' kb) (ts := ts) (C.fr htop).1 (C.fr htop).2 (by rw [C.eN]; exact C.nd) (by rw [C.eN]; exact hi) (by show X.env.scope.names.lookup n = _; rw [C.esc]; exact hln) ⟨gloB_ok C hg, (nmB_ok hn).1, .inl hm⟩ C.tk
    (fun W' pn xe tk po => hb _ _ (C.tr tk po)) (fun a oe cls d pn hz hf => ⟨fun pins s σ H D I h => ?_⟩)) fun Dn σ H q => ?_
  · obtain ⟨c0, rfl, h⟩ := h
    exact (hs _ _ (C.suite hz hf)).run pins s σ H D I h
  · obtain ⟨F, r, t, L, hst, R, po⟩ := q
    simp only [dS] at po
    refine ⟨F, r, t, L, hst, R, ?_⟩
    cases hres : dS cf (cnOf S) kb t L with
    | ok f L' =>
      rw [hres] at po
      simp only [tryS] at po
      cases f <;> exact po
    | bad => rw [hres] at po; exact po.elim
    | ex c0 fs t' L' =>
      rw [hres] at po
      simp only [tryS] at po
      intro F' r' H' σ' d s p R' hs' x
      split at po
      · rename_i hl
        refine ⟨true, by rw [C.eK]; exact (C.ex.one c0 c true (hk _ (mem_of_lk hl))).1, fun _ a ha => ⟨c0, rfl, F', r', t'.set i (.e c0 fs), L', ?_, R'.px, ?_⟩, fun z => by cases z⟩
        · exact (hs'.px (C.cpx rfl)).set (.e rfl x.px) i
        · have po := PoS.mono po s p
          cases h2 : dS cf (cnOf S) ksu (t'.set i (.e c0 fs)) L' with
          | bad => rw [h2] at po; exact po.elim
          | ex c2 f2 t2 L2 => rw [h2] at po; exact po.elim
          | ok f L2 =>
            rw [h2] at po
            cases f with
            | nx t2 => exact fun F2 r2 H2 σ2 s2 p2 R2 hs2 => po F2 r2 H2 (σ2.set i none) s2 p2 (R2.px (q := G.px)) ((hs2.clr (q2 := G.px)).set0 i)
            | bk t2 => exact fun F2 r2 H2 σ2 s2 p2 R2 hs2 => po F2 r2 H2 (σ2.set i none) s2 p2 (R2.px (q := G.px)) ((hs2.clr (q2 := G.px)).set0 i)
            | ct t2 => exact fun F2 r2 H2 σ2 s2 p2 R2 hs2 => po F2 r2 H2 (σ2.set i none) s2 p2 (R2.px (q := G.px)) ((hs2.clr (q2 := G.px)).set0 i)
            | rt dd => exact fun F2 r2 H2 v2 s2 p2 R2 rd => po F2 r2 H2 v2 s2 p2 (R2.px (q := G.px)) (rd.px (q := G.px))
      · rename_i hl
        exact ⟨false, by rw [C.eK]; exact (C.ex.one c0 c false (hk _ (mem_of_lk hl))).1, (fun z => by cases z), fun _ => po F' r' H' σ' d s p R' hs' x⟩
      · exact po.elim
end
end Fk

set_option Elab.async false
set_option linter.all false
set_option autoImplicit false
set_option maxRecDepth 100000
set_option maxHeartbeats 2000000
/-! Fk C: tuple(reversed(x)), list(range(n)), {}, join -/
namespace Fk
open PySem PySem.Spec PyProof.Rows L2
section
variable {S : Stc} {G : Gm} {cf : Nat → List Sl → Hl → R D} {X : Cx} {sc sf : Scope} {N : List Str} {cm : Bool} {W : WX} {pos : Pos}
theorem s_trev (C : Ck S G cf X sc sf N true W) {e : Expr} {ke : I} {p p2 pos2 : Pos} (hb : ("tuple" : Str) ∈ S.bn) (hb2 : ("reversed" : Str) ∈ S.bn) (hg : gloB sc "tuple" = true) (hg2 : gloB sc "reversed" = true) (hst : notStar e = true) (he : PE X e (tE G cf (cnOf S) W ke)) :
    PE X (.Call (.Name "tuple" p) [.Call (.Name "reversed" p2) [e] [] pos2] [] pos) (tE G cf (cnOf S) W (.trev ke)) :=
  peW (RT.pe_tupRev (C.ecm rfl) (gloB_ok C hg) (C.bn _ hb) (gloB_ok C hg2) (C.bn _ hb2) he (star_no hst _ _) (star_no rfl _ _)) fun σ H Q q => by
    obtain ⟨F, r, t, L, hs, R, po⟩ := q
    simp only [dE] at po
    refine tR.mk hs R (Po.step po fun v H1 F1 r1 d L1 _ s1 p1 R1 rd po1 => ?_)
    split at po1
    · rename_i xs e
      obtain ⟨a, vs, rfl, q, t⟩ := rdS_ok R1 rd e
      rw [← C.eK] at q
      exact ⟨a, vs, rfl, q, newT_ok R1 t.rev po1⟩
    · exact po1.elim
theorem rg_ok {F : Hp} (n : Int) : RPs G F (rangeP 0 n.toNat) (rgV 0 n) := by
  have e : (n - 0).toNat = n.toNat := by rw [Int.sub_zero]
  unfold rgV rangeP
  rw [e]
  have key : ∀ l : List Nat, RPs G F (l.map fun k : Nat => P.int (0 + (k : Int))) (l.map fun i => V.int (0 + (i : Nat))) := fun l => by
    induction l with
    | nil => exact .nil
    | cons a l ih => exact .cons (.int _) ih
  exact key _
theorem s_lrng (C : Ck S G cf X sc sf N true W) {e : Expr} {ke : I} {m : Bool} {p p2 pos2 : Pos} (hb : ("list" : Str) ∈ S.bn) (hb2 : ("range" : Str) ∈ S.bn) (hg : gloB sc "list" = true) (hg2 : gloB sc "range" = true) (hst : notStar e = true) (he : PE X e (tE G cf (cnOf S) W ke)) :
    PE X (.Call (.Name "list" p) [.Call (.Name "range" p2) [e] [] pos2] [] pos) (tE G cf (cnOf S) W (.lrng m (.cons ke .nil))) :=
  peW (pe_listRg (C.ecm rfl) (gloB_ok C hg) (C.bn _ hb) (prg_1 (gloB_ok C hg2) (C.bn _ hb2) he (star_no hst _ _)) (star_no rfl _ _)) fun σ H Q q => by
    obtain ⟨F, r, t, L, hs, R, po⟩ := q
    simp only [dE] at po
    refine tR.mk hs R (Po.step po fun v H1 F1 r1 d L1 _ s1 p1 R1 rd po1 => ?_)
    split at po1
    · rename_i j _
      split at po1
      · rename_i h
        cases rd with
        | p rd =>
          cases rd
          exact ⟨_, rfl, ⟨by omega, by omega, by omega, by omega, by omega⟩, newL_ok R1 (rg_ok j) po1⟩
      · exact po1.elim
    · exact po1.elim
theorem s_dct0 {m : Bool} : PE X (.Dict [] [] pos) (tE G cf (cnOf S) W (.dct0 m)) := peW pe_dnewK fun σ H Q q => by
  obtain ⟨F, r, t, L, hs, R, po⟩ := q
  simp only [dE] at po
  intro p hp
  unfold newK at po
  cases m with
  | true =>
    simp only [if_true] at po
    refine po F (r ++ [p]) _ _ (Same.refl _) (Pre.app r p) (R.allocM hp (.dct .nil)) (.ref ?_)
    rw [← R.len]; simp
  | false =>
    simp only [Bool.false_eq_true, if_false] at po
    exact po _ r _ _ (same_upd (R.nf hp)) (Pre.refl _) (R.allocF hp _) (.p (.dct upd_same .nil))
theorem meR_join (hK : X.K = G.K) : MtR X "str.join" (rMe G (meD .join)) := by
  intro pins s σ H x xs v us Q I rx rv h
  obtain ⟨F, r, L, d, ds, E, R, rd, rl, po⟩ := h
  have po : Po G (rD G) F r (joinD d ds L) Q E := po
  unfold joinD at po
  split at po
  · rename_i a y
    obtain ⟨w', rfl, ry⟩ := rl.one
    split at po
    · rename_i ys e
      split at po
      · rename_i zs e2
        split at po
        · rename_i hz
          obtain ⟨b, vs, rfl, q, t⟩ := rdQ_ok R ry e
          rw [← hK] at q
          have e3 := strsP_ok t e2
          subst e3
          cases rd with
          | p rd =>
            cases rd
            exact mt_join pins s σ H _ _ v us Q I rx rv ⟨_, _, _, rfl, rfl, q, hz, Po.ok po R (.p (.str _))⟩
        · exact po.elim
      · exact po.elim
    · exact po.elim
  · exact po.elim
end
end Fk

set_option Elab.async false
set_option linter.all false
set_option autoImplicit false
set_option maxRecDepth 100000
set_option maxHeartbeats 2000000
/-! Fk H: within an except suite: a list comprehension over a list -/
namespace FkH
open PySem PySem.Spec PyProof.Rows
section
variable {prog : Program} {w : World} {A : Around} {E : Value → Shared → Prop} {s : Shared}
/-- a list's iterator at its end, an exception being held -/
theorem end_hot {it l x1 : Addr} {i : Nat} {us : Array Value} {Q : Option Value → Shared → Prop} (hot : HotX.HotAt A x1 s.heap) (ne : x1 ≠ it) (hit : s.heap.IsListIter it l i) (hl : s.heap.IsList l us) (hx : us[i]? = none)
    (hQ : ∀ h2, (∀ b o, b ≠ it → s.heap.get? b = some o → h2.get? b = some o) → Q none { s with heap := h2 }) : wpAny (model prog w) A (pyNext (.ref it)) Q E s := by
  obtain ⟨o, ho, hc, hd⟩ := id hit
  obtain ⟨ol, hol, _, nl, hdl⟩ := hl
  obtain ⟨hh, o1, vs1, h1, d1, c1⟩ := hot
  have nn : ¬ ((Value.ref l == Value.none) = true) := Bool.false_ne_true
  unfold pyNext
  refine wpAny_bind (wpAny_attempt (wpAny_callSpecial?_slot (name := Str.ofString "__next__") hit.typeIs slot_listiter_next (wpAny_call_entry slot_listiter_next hit.typeIs entry_listiter_next ?_ (args_listiter_next _))))
  show wpAny (model prog w) _ (field (.ref it) 0 >>= _) _ _ s
  refine wpAny_bind (wpAny_field ho hd (x := .ref l) rfl ?_)
  show wpAny (model prog w) _ (if (Value.ref l == Value.none) = true then _ else _) _ _ s
  rw [if_neg nn]
  show wpAny (model prog w) _ (field (.ref it) 1 >>= _) _ _ s
  refine wpAny_bind (wpAny_field ho hd (x := .int i 0) rfl ?_)
  show wpAny (model prog w) _ (seqItems? (.ref l) >>= _) _ _ s
  refine wpAny_bind (wpAny_seqItems hol hdl ?_)
  simp only [Int.toNat_natCast, hx]
  refine wpAny_bind (wpAny_rule (wpAny_bind (wpAny_setField ho hd (by simp) ?_)))
  show wpAny (model prog w) _ (newExc (.type "StopIteration") [] >>= _) _ _ _
  refine (wpAny_bind ?_)
  simp only [newTuple, newExc]
  refine wpAny_bind (wpAny_newObj_type ?_ (by size_fits))
  refine wpAny_bind (m := firstArgMember _ _) (wpAny_of_eq (a := Value.none) (by first | rfl | (simp only [firstArgMember] <;> rfl)) (wpAny_newObj_type ?_ (by size_fits)))
  have k1 : ∀ {h2 : Heap} {b : Addr} {u : Obj}, Heap.SameBut it s.heap h2 → b ≠ it → s.heap.get? b = some u → h2.get? b = some u := fun sb n e => (sb.2 _ n).trans e
  have sb := Heap.SameBut.update (h := s.heap) (a := it) (f := Obj.mapFields fun fs => fs.setIfInBounds 0 .none)
  have e1 := Heap.get?_push_of_some ({ cls := .type "tuple", data := .seq ([] : List Value).toArray } : Obj) (k1 sb ne h1)
  refine HotX.raiseNew_hot ⟨hh, o1, vs1, Heap.get?_push_of_some _ e1, d1, c1⟩ (Nat.ne_of_lt (Heap.lt_size e1)) (Heap.get?_push_size _ rfl) rfl (by first | (simp; done) | (simp; omega) | (simp only [Array.size_append]; simp; omega)) ?_
  refine wpAny_bind (wpAny_isInstance (T := "StopIteration") (b := true) ⟨_, Heap.get?_update_self _ (Heap.get?_push_size _ rfl) rfl, rfl⟩ isSubtype_stop (wpAny_pure (hQ _ fun b u n e => ?_)))
  have e2 := Heap.get?_push_of_some ({ cls := .type "tuple", data := .seq ([] : List Value).toArray } : Obj) (k1 sb n e)
  rw [Heap.get?_update_other _ _ (Nat.ne_of_gt (Heap.lt_size e2))]
  exact Heap.get?_push_of_some _ e2
end
open L2
open L2H (Hot1 HotC)
/-- [elt for target in a list], its reading -/
def tLh (K : PySem.W.Frag) (to : TE) (g : TG) (te : TE) (vs : List Nat) : TE := fun σ H Q => to σ H fun v H1 => ∃ (a : Addr) (xs : List V), v = .ref a ∧ SqL K H1 a xs ∧ ∀ D, H1 D = none → ∃ W : Nat → Hp → Prop, W 0 (upd H1 D (.lst [])) ∧ (∀ i H', W i H' → SqL K H' a xs) ∧ (∀ H', W xs.length H' → Q (.ref D) H') ∧
  ∀ i H' (x : V), xs[i]? = some x → W i H' → g x (wipe σ vs) H' fun σ2 H2 => wipe σ2 vs = wipe σ vs ∧ te σ2 H2 fun y H3 => ∃ acc, H3 D = some (.lst acc) ∧ acc.length < sizeLine ∧ W (i + 1) (upd H3 D (.lst (acc ++ [y])))
section
variable {X : Cx} {elt tg iter : Expr} {scope : Scope} {own : List (Str × Nat)} {pos : Pos} {to te : TE} {g : TG}
theorem pe_lh (hc : HotC X) (hN : X.N.Nodup) (ho : PE X iter to) (ok : BlkOk X.N X.env.scope scope own) (hg : ∀ (s : Shared) (H : Hp) (C : Addr) (cl : List (Str × Addr)) (fp : List Addr), PG (X.blk s H scope (compEnvC scope cl C X.env) fp) tg g)
    (he : ∀ (s : Shared) (H : Hp) (C : Addr) (cl : List (Str × Addr)) (fp : List Addr), PE (X.blk s H scope (compEnvC scope cl C X.env) fp) elt te) (hs : ∀ x, foldedSetIterable iter X.env x = pure x) :
    PE X (.ListComp elt [⟨tg, iter, [], 0⟩] scope pos) (tLh X.K to g te (own.map (·.2))) := ⟨fun pins s σ H Q I h => by
  rw [eval_ListComp]
  obtain ⟨p, hot, hp⟩ := hc
  have hfree : ∀ y ∈ scope.names, y.2 = .free → ∃ c, X.env.cells.lookup y.1 = some c := fun y hy e => (ok.free y hy e).elim (fun k => I.ok.has _ (.inl k)) fun k => I.ok.has _ (.inr k)
  refine wpAny_comprehension_free (use := none) rfl hs (closure_ok hfree) ok.kind (fun y hy e => by rw [ok.uniq y hy, e]) (thn (ho.run pins s σ H _ I h) fun v s1 q1 => ?_)
  obtain ⟨x, H1, I1, r1, a, xs, rfl, hq, q⟩ := q1
  obtain rfl : v = Value.ref a := r1
  obtain ⟨its, rv, pl, hz⟩ := I1.list hq
  refine wpAny_pyIter_list pl.isList ?_
  -- the iterator
  obtain ⟨it, hit⟩ : ∃ it, it = s1.heap.objs.size := ⟨_, rfl⟩
  obtain ⟨s2, hs2⟩ : ∃ s2 : Shared, s2 = { s1 with heap := s1.heap.push { cls := .type "list_iterator", data := .fields #[.ref a, .int 0 0] } } := ⟨_, rfl⟩
  rw [← hs2, ← hit]
  have I2 : Inv X pins σ H1 s2 := by rw [hs2]; exact I1.kept (t' := s1.toks) fun b o e => Heap.get?_push_of_some _ e
  have st2 : s2.heap.IsListIter it a 0 := ⟨{ cls := .type "list_iterator", data := .fields #[.ref a, .int 0 0] }, by rw [hs2, hit]; exact Heap.get?_push_size _ rfl, rfl, rfl⟩
  have fp1 : FpOk X pins H1 it := I1.fpOk (by rw [hit]; exact Nat.le_refl _) (I1.hok.fresh (by rw [hit]; exact Nat.le_refl _))
  have lt2 : it < s2.heap.objs.size := by obtain ⟨o, e, _⟩ := st2; exact Heap.lt_size e
  refine wpAny_newObj_type (newEnv_comp ?_) (by show 0 ≤ sizeLine; decide)
  -- the new list
  obtain ⟨D, hD⟩ : ∃ D, D = s2.heap.objs.size := ⟨_, rfl⟩
  have hDn : H1 D = none := I2.hok.fresh (by rw [hD]; exact Nat.le_refl _)
  obtain ⟨W, w0, wsq, wend, turn⟩ := q D hDn
  obtain ⟨s3, hs3⟩ : ∃ s3 : Shared, s3 = { s2 with heap := s2.heap.push { cls := .type "list", data := .seq ([] : List Value).toArray } } := ⟨_, rfl⟩
  have I3 : Inv X pins σ (upd H1 D (.lst [])) s3 := by
    rw [hs3]
    refine I2.laid (t' := s2.toks) (fun b o e => Heap.get?_push_of_some _ e) (by rw [hD]; exact Nat.le_refl _) ⟨Nat.zero_le _, [], 0, .nil, ?_⟩
    rw [hD]
    exact Heap.get?_push_size _ rfl
  have up3 : ∀ b o, s2.heap.get? b = some o → s3.heap.get? b = some o := fun b o e => by rw [hs3]; exact Heap.get?_push_of_some _ e
  have itD : it ≠ D := by rw [hD]; exact Nat.ne_of_lt lt2
  have fp3 : ∀ b ∈ [it], FpOk X pins (upd H1 D (.lst [])) b ∧ b < s3.heap.objs.size := fun b hb => by
    obtain rfl : b = it := by simpa using hb
    exact ⟨⟨by rw [upd_ne itD]; exact fp1.1, fp1.2⟩, by obtain ⟨o, e, _⟩ := st2; exact Heap.lt_size (up3 _ _ e)⟩
  have I4 := block_start I3 ok hN fp3
  have pg := hg s3 (upd H1 D (.lst [])) s3.heap.objs.size (cellsFrom (s3.heap.objs.size + 1) scope.names (cloFrom X.env.cells scope.names [])) [it]
  have pe := he s3 (upd H1 D (.lst [])) s3.heap.objs.size (cellsFrom (s3.heap.objs.size + 1) scope.names (cloFrom X.env.cells scope.names [])) [it]
  obtain ⟨ce, hce⟩ : ∃ ce, ce = compEnvC scope (cellsFrom (s3.heap.objs.size + 1) scope.names (cloFrom X.env.cells scope.names [])) s3.heap.objs.size X.env := ⟨_, rfl⟩
  have cL : ce.locals = s3.heap.objs.size := by rw [hce]; rfl
  obtain ⟨s4, hs4⟩ : ∃ s4 : Shared, s4 = { s3 with heap := pushCells (s3.heap.push { cls := .type "dict", data := .dict #[] }) scope.names } := ⟨_, rfl⟩
  have up4 : ∀ b o, s3.heap.get? b = some o → s4.heap.get? b = some o := fun b o e => by rw [hs4]; exact pushCells_keeps _ _ _ _ (Heap.get?_push_of_some _ e)
  rw [← hce, ← hs4] at I4
  rw [← hce] at pg pe
  have goal : codeAny (model X.prog X.w) X.A (.compStart (.ListComp elt [⟨tg, iter, [], 0⟩] scope pos) 0 (.ref it) (.ref D) ce) (compPost (model X.prog X.w) X.A X.xe none (EP X pins σ Q) (.ref D) s3.heap.objs.size) s4 := ?_
  · rw [hce, hs4] at goal
    subst hs3 hD
    exact goal
  -- the held exception stays
  have P3 := I3.pin p (List.mem_append_left _ hp)
  have I4p : Inv (X.blk s3 (upd H1 D (.lst [])) scope ce [it]) [p] (wipe σ (own.map (·.2))) (upd H1 D (.lst [])) s4 := I4.pins_of fun q hq => by
    obtain rfl : q = p := by simpa using hq
    refine ⟨up4 _ _ P3.1, P3.2.1, ?_, fun hm => (List.mem_cons.mp (I3.stkSub q.1 hm)).elim P3.2.2.1 P3.2.2.2.1, P3.2.2.2.2⟩
    show q.1 ≠ ce.locals
    rw [cL]
    exact Nat.ne_of_lt (Heap.lt_size P3.1)
  have np : p.1 ≠ it := fp1.2.2.2.2.2 p (List.mem_append_left _ hp)
  have stat : ∀ {σ' : L2.St} {H' : Hp} {s' : Shared}, Inv (X.blk s3 (upd H1 D (.lst [])) scope ce [it]) [p] σ' H' s' → H' it = none → FpOk (X.blk s3 (upd H1 D (.lst [])) scope ce [it]) [p] H' it := fun {σ' H' s'} I' hn =>
    ⟨hn, (I'.ok.exf it (by simp)).1, I'.ok.exfs it (by simp), .inl (by simp), fun x c e => (I'.ok.exf it (by simp)).2 x c e, fun q hq => by
      obtain rfl : q = p := by simpa using hq
      exact np⟩
  have loop : codeAny (model X.prog X.w) X.A (.compLoop (.ListComp elt [⟨tg, iter, [], 0⟩] scope pos) 0 (.ref it) (.ref D) ce) (compPost (model X.prog X.w) X.A X.xe none (EP X pins σ Q) (.ref D) s3.heap.objs.size) s4 := by
    refine compLoop_any (fun n s' => ∃ i H', n = xs.length - i ∧ i ≤ xs.length ∧ Inv (X.blk s3 (upd H1 D (.lst [])) scope ce [it]) [p] (wipe σ (own.map (·.2))) H' s' ∧ s'.heap.IsListIter it a i ∧ H' it = none ∧ W i H') ?_ xs.length
      ⟨0, _, rfl, Nat.zero_le _, I4p, (st2.at fun o e => up4 _ _ (up3 _ _ e)), (fp3 it (by simp)).1.1, w0⟩
    rintro n s5 ⟨i, H5, rfl, hi, I5, st5, n5, w5⟩
    have hq5 := wsq i H5 w5
    obtain ⟨its5, rv5, pl5, _⟩ := I5.list hq5
    have l5 := rv5.length
    have ps5 := (I5.pin p (List.mem_append_right _ (by simp)))
    by_cases hlt : i < xs.length
    · have hxi := List.getElem?_eq_getElem hlt
      obtain ⟨u, hu, ru⟩ := rv5.get hxi
      refine wpAny_pyNext_list_item st5 pl5.isList (x := u) (by simpa using hu) fun h6 st6 sb6 => ?_
      obtain ⟨f0, f1, f2, f3, f4, f5⟩ := stat I5 n5
      have I6 : Inv (X.blk s3 (upd H1 D (.lst [])) scope ce [it]) [p] (wipe σ (own.map (·.2))) H5 { s5 with heap := h6 } := I5.turned (t' := s5.toks) (fun b o hb e => (sb6.2 b hb).trans e) f0 f1 f3 f4 f5
      obtain ⟨o6, e6, c6, d6⟩ := id st6
      refine go_of (s := { s5 with heap := h6 }) e6 c6 d6 (by decide) ?_
      have I6p := I6.pinned (fp := [it]) (fun b hb => by obtain rfl : b = it := (by simpa using hb); exact stat I6 n5) (fun b hb => by obtain rfl : b = it := (by simpa using hb); exact ⟨o6, e6, fun v z => by rw [d6] at z; cases z⟩)
      refine thnF (pg.run _ _ _ H5 _ u _ I6p ru (turn i H5 _ hxi w5)) fun _ s8 hh => ?_
      obtain ⟨σ8, H8, I8, hw8, q8⟩ := hh
      refine wpAny_tests_nil ?_
      simp only [if_true]
      refine thnF (pe.run _ s8 σ8 H8 _ I8 q8) fun z s9 hh => ?_
      obtain ⟨y, H9, I9, r9, acc, hD9, hz9, w9⟩ := hh
      refine app_ok (X := X.blk s3 (upd H1 D (.lst [])) scope ce [it]) I9 hD9 hz9 r9 fun s10 I10 => ?_
      have pin10 := I10.pin (it, o6) (List.mem_append_right _ (List.mem_append_right _ (mem_pinsAt (by simp) e6)))
      have hl : (wipe σ (own.map (·.2))).length = σ8.length := by rw [← hw8, wipe_length]
      refine ⟨xs.length - (i + 1), by omega, i + 1, _, rfl, hlt, (I10.unpinned (pins := [p])).weak hl (fun j v e => ?_), st6.at fun o e => ?_, pin10.2.1, w9⟩
      · rw [← hw8] at e
        exact (wipe_some e).1
      · have : o = o6 := Option.some.inj (e.symm.trans e6)
        rw [this]; exact pin10.1
    · have hie : i = xs.length := by omega
      subst hie
      have hotA : HotX.HotAt X.A p.1 s5.heap := by
        obtain ⟨hh, vs, e1, c1⟩ := hot
        exact ⟨hh, p.2, vs, ps5.1, e1, c1⟩
      refine end_hot hotA np st5 pl5.isList (by simp; omega) fun h6 k6 => ?_
      obtain ⟨f0, f1, f2, f3, f4, f5⟩ := stat I5 n5
      have I6 : Inv (X.blk s3 (upd H1 D (.lst [])) scope ce [it]) [p] (wipe σ (own.map (·.2))) H5 { s5 with heap := h6 } := I5.turned (t' := s5.toks) (fun b o hb e => k6 b o hb e) f0 f1 f3 f4 f5
      have I7 : Inv X pins σ H5 { s5 with heap := h6 } := I3.call' (ch := [it]) I6.os I6.base I6.hok I6.bare fun b hb => ⟨(fp3 b hb).1.2.2.2.1, (fp3 b hb).1.2.1, (fp3 b hb).1.2.2.2.2.1, (fp3 b hb).1.2.2.2.2.2⟩
      have nC : H5 s3.heap.objs.size = none := by
        have z : H5 ce.locals = none := I6.free
        rw [cL] at z
        exact z
      obtain ⟨m, hn, _⟩ := I6.loc
      have hn : ({ s5 with heap := h6 } : Shared).heap.Ns ce.locals m := hn
      rw [cL] at hn
      refine ⟨m, hn, fun h7 sb => ?_⟩
      obtain ⟨c0, c1, c2, c3, c4, c5⟩ := I3.fpOk (H' := H5) (b := s3.heap.objs.size) (Nat.le_refl _) nC
      exact ⟨.ref D, H5, I7.turned (t' := s5.toks) (fun b o hb e => (sb.2 b hb).trans e) c0 c1 c3 c4 c5, rfl, wend H5 w5⟩
  exact codeAny_compStart_list loop (wpAny_pyIter_listiter (st2.at fun o e => up4 _ _ (up3 _ _ e)) loop)⟩
end
section
variable {prog : Program} {w : World} {A : Around} {E : Value → Shared → Prop} {s : Shared}
def at0 (ns : List Int) (i : Nat) : Int := (ns[i]?).getD 0
theorem at0_lt {ns : List Int} {i : Nat} (h : i < ns.length) : at0 ns i = ns[i] := by unfold at0; rw [List.getElem?_eq_getElem h]; rfl
theorem at0_ge {ns : List Int} {i : Nat} (h : ns.length ≤ i) : at0 ns i = 0 := by unfold at0; rw [List.getElem?_eq_none h]; rfl
theorem pre_sum (ns : List Int) : ∀ j, PySem.preSum (fun i => at0 ns i) j = (ns.take j).sum
  | 0 => by simp [PySem.preSum]
  | j + 1 => by
    show PySem.preSum (fun i => at0 ns i) j + at0 ns j = _
    rw [pre_sum ns j]
    by_cases h : j < ns.length
    · rw [List.take_succ_eq_append_getElem h, List.sum_append, at0_lt h]; simp
    · rw [List.take_of_length_le (by omega), List.take_of_length_le (by omega), at0_ge (by omega)]; simp
theorem bits_sum : ∀ {ns : List Int}, (∀ n ∈ ns, 0 ≤ n ∧ n ≤ 1) → 0 ≤ ns.sum ∧ ns.sum ≤ ns.length
  | [], _ => by simp
  | n :: ns, h => by
    have h1 := h n List.mem_cons_self
    have h2 := bits_sum (ns := ns) fun m hm => h m (List.mem_cons_of_mem _ hm)
    rw [List.sum_cons, List.length_cons]
    omega
theorem walk_hot {it l x1 : Addr} {us : Array Value} {o1 : Obj} {vs1 : Array Value} (hh : A.handled = some (.ref x1)) (d1 : o1.data = .fields vs1) (c1 : vs1[2]? = some .none) (nx : x1 ≠ it) (nl : l ≠ it) :
    WalksS prog w A it [it, l, x1] [it] (fun a b => b = a) us.size (fun i v => us[i]? = some v) (fun i s => s.heap.IsListIter it l i ∧ s.heap.IsList l us ∧ s.heap.get? x1 = some o1) where
  sub := fun b hb => by simp at hb; simp [hb]
  grefl := fun _ => rfl
  gtrans := fun _ _ _ x y => y.trans x
  frame := fun i s h' tk st _ k => ⟨st.1.at fun o e => k it (by simp) o e, by
    obtain ⟨o, e, c, d⟩ := st.2.1
    exact ⟨o, k l (by simp) o e, c, d⟩, k x1 (by simp) _ st.2.2⟩
  item := fun i s Q E hi st hQ => wpAny_pyNext_list_item st.1 st.2.1 (x := us[i]) (by simp [hi]) fun h' st' sb => hQ _ _ (by simp [hi]) ⟨st', by
    obtain ⟨o, e, c, d⟩ := st.2.1
    exact ⟨o, (sb.2 _ nl).trans e, c, d⟩, (sb.2 _ nx).trans st.2.2⟩ ⟨fun b o hb e => (sb.2 b (by simpa using hb)).trans e, rfl, rfl, rfl, Nat.le_refl _⟩
  done := fun s Q E st hQ => end_hot ⟨hh, o1, vs1, st.2.2, d1, c1⟩ nx st.1 st.2.1 (by simp) fun h2 k => hQ _ ⟨fun b o hb e => k b o (by simpa using hb) e, rfl, rfl, rfl, Nat.le_refl _⟩
  self := fun _ _ _ _ st hQ => wpAny_pyIter_listiter st.1 hQ
theorem sum_hot {l x1 : Addr} {us : Array Value} {ns : List Int} {Q : Value → Shared → Prop} (hot : HotX.HotAt A x1 s.heap) (hl : s.heap.IsList l us) (hi : ∀ (i : Nat) (v : Value), us[i]? = some v → ∃ t, v = Value.int (at0 ns i) t) (hn : us.size = ns.length) (hb : ∀ n ∈ ns, 0 ≤ n ∧ n ≤ 1) (hz : ns.length ≤ 10000)
    (h : ∀ h' tk t', (∀ b o, s.heap.get? b = some o → h'.get? b = some o) → Q (.int ns.sum t') { s with heap := h', toks := tk }) : wpAny (model prog w) A (call (.builtin "sum") [.ref l]) Q E s := by
  obtain ⟨hh, o1, vs1, e1, d1, c1⟩ := hot
  obtain ⟨ol, hol, cl, nl, dl⟩ := id hl
  have bits : ∀ j, 0 ≤ (ns.take j).sum ∧ (ns.take j).sum ≤ 10000 := fun j => by
    have := bits_sum (ns := ns.take j) fun n hm => hb n (List.mem_of_mem_take hm)
    rw [List.length_take] at this
    omega
  have one : ∀ j, 0 ≤ at0 ns j ∧ at0 ns j ≤ 1 := fun j => by
    by_cases hj : j < ns.length
    · rw [at0_lt hj]; exact hb _ (List.getElem_mem hj)
    · rw [at0_ge (by omega)]; omega
  refine PySem.call_sum_walkS (wpAny_pyIter_list hl ⟨s.heap.objs.size, [s.heap.objs.size, l, x1], [s.heap.objs.size], fun a b => b = a, us.size, fun i v => us[i]? = some v, fun i s2 => s2.heap.IsListIter s.heap.objs.size l i ∧ s2.heap.IsList l us ∧ s2.heap.get? x1 = some o1, fun i => at0 ns i, rfl,
    walk_hot (A := A.in1) hh d1 c1 (Nat.ne_of_lt (Heap.lt_size e1)) (Nat.ne_of_lt (Heap.lt_size hol)), ⟨⟨_, Heap.get?_push_size _ rfl, rfl, rfl⟩, ⟨ol, Heap.get?_push_of_some _ hol, cl, nl, dl⟩, Heap.get?_push_of_some _ e1⟩, fun b hb => ?_, hi, fun j hj => ?_, fun s2 t2 hm => ?_⟩)
  · have hb : b = s.heap.objs.size ∨ b = l ∨ b = x1 := by simpa using hb
    show b < (s.heap.push _).objs.size
    rw [Heap.size_push]
    rcases hb with q | q | q
    · rw [q]; exact Nat.lt_succ_self _
    · rw [q]; exact Nat.lt_succ_of_lt (Heap.lt_size hol)
    · rw [q]; exact Nat.lt_succ_of_lt (Heap.lt_size e1)
  · rw [pre_sum]
    have h1 := bits (j + 1)
    have h2 := one j
    dsimp only
    exact ⟨⟨by omega, by omega⟩, ⟨by omega, by omega⟩⟩
  · rw [pre_sum, List.take_of_length_le (by omega)]
    have z := h s2.heap s2.toks t2 fun b o e => hm.heap b o (by
      intro q
      have q : b = s.heap.objs.size := by simpa using q
      rw [q] at e
      exact absurd (Heap.lt_size e) (Nat.lt_irrefl _)) (Heap.get?_push_of_some _ e)
    obtain ⟨hp2, g2, dr2, tk2, os2⟩ := s2
    have e1 : g2 = s.gens := hm.gens
    have e2 : dr2 = s.drawn := hm.drawn
    have e3 : os2 = s.os := hm.os
    subst e1 e2 e3
    exact z
end
/-- sum of a list of nulls and ones, an exception being held -/
def rSumH (K : PySem.W.Frag) : List V → Hp → VK → Prop := fun vs H Q => ∃ (a : Addr) (ns : List Int), vs = [V.ref a] ∧ SqL K H a (ns.map V.int) ∧ (∀ n ∈ ns, 0 ≤ n ∧ n ≤ 1) ∧ ns.length ≤ 10000 ∧ Q (.int ns.sum) H
theorem cr_sumH {X : Cx} (hc : HotC X) : CallR X (.builtin "sum") (rSumH X.K) := by
  intro pins s σ H vs us Q I r h
  obtain ⟨a, ns, rfl, hs, hb, hz, q⟩ := h
  obtain ⟨its, rv, hl, _⟩ := I.list hs
  obtain ⟨x1, hot⟩ := hc.at I
  have hln := rv.length
  rw [List.length_map] at hln
  rw [Vals.ref1 r]
  refine sum_hot hot hl.isList (fun i v hv => ?_) (by simpa using hln.symm) hb hz fun h' tk t' hk => ⟨.int _, H, I.kept hk, ⟨_, rfl⟩, q⟩
  have hv : its[i]? = some v := by simpa using hv
  have hi : i < ns.length := by rw [hln]; exact (List.getElem?_eq_some_iff.mp hv).1
  obtain ⟨u, hu, ru⟩ := rv.get (i := i) (x := V.int ns[i]) (by rw [List.getElem?_map, List.getElem?_eq_getElem hi]; rfl)
  rw [hv] at hu
  cases hu
  rw [at0_lt hi]
  exact ru
end FkH

set_option Elab.async false
set_option linter.all false
set_option autoImplicit false
set_option maxRecDepth 100000
set_option maxHeartbeats 2000000
/-! Fk H2: sum([int(y) for y in x]) within an except suite -/
namespace Fk
open PySem PySem.Spec PyProof.Rows L2
section
variable {S : Stc} {G : Gm} {cf : Nat → List Sl → Hl → R D} {X : Cx} {sc sf : Scope} {N : List Str} {cm : Bool} {W : WX} {pos : Pos}
theorem Ck.blockH (C : Ck S G cf X sc sf N false W) {scope : Scope} (hk : scope.kind = .function) (hf : ∀ x, L2.Loc scope x → (relS scope sc).names.lookup x = scope.names.lookup x) (s : Shared) (H : Hp) (A : Addr) (cl : List (Str × Addr)) (fp : List Addr) :
    Ck (S.blk false) G cf (X.blk s H scope (compEnvC scope cl A X.env) fp) (relS scope sc) scope N false noW where
  esc := by rw [← C.esc]; rfl
  eN := C.eN
  nd := C.nd
  eK := C.eK
  ecm := fun z => by cases z
  tk := takesN
  po := PassesOwn.never
  hu := C.hu
  fo := fun x hx => by
    have e := hf x hx
    rcases hx with hx | hx
    · exact ⟨.inl (by rw [e]; exact hx), .inr (by rw [e]; exact hx)⟩
    · exact ⟨.inr (by rw [e]; exact hx), .inl (by show (scope.names.lookup x == some .cell) = true; rw [hx]; rfl)⟩
  kd := hk
  bn := C.bn
  con := C.con
  call := fun f fi h1 h2 h3 => by simp [Stc.blk] at h1
  hot := fun z => by cases z
  rm := fun z => by cases z
  cpx := fun z => by cases z
  px := .inl rfl
  fr := fun z => by cases z
  xc := fun z => by cases z
  ex := ⟨fun _ _ _ h => by simp [Stc.blk] at h, fun _ _ h => by simp [Stc.blk] at h, fun _ _ _ h => by simp [Stc.blk] at h⟩
  hc := fun _ z => by cases z
theorem boolsP_ok {F : Hp} : ∀ {xs : List P} {vs : List V} {ns : List Int}, RPs G F xs vs → boolsP xs = some ns → (∀ n ∈ ns, 0 ≤ n ∧ n ≤ 1) ∧ ns.length = vs.length ∧ ∀ (i : Nat) (x : V), vs[i]? = some x → ∃ b : Bool, x = V.bl b ∧ ns[i]? = some (if b then 1 else 0)
  | [], _, _, .nil, e => by cases e; exact ⟨fun n h => (by cases h), rfl, fun i x h => by simp at h⟩
  | x :: xs, _, ns, .cons h t, e => by
    cases x <;> simp only [boolsP, reduceCtorEq] at e
    rename_i b
    obtain ⟨zs, e1, e2⟩ := Option.map_eq_some_iff.mp e
    subst e2
    obtain ⟨h1, h2, h3⟩ := boolsP_ok t e1
    cases h
    refine ⟨fun n hn => ?_, by simp [h2], fun i x hx => ?_⟩
    · rcases List.mem_cons.mp hn with rfl | hn
      · cases b <;> simp
      · exact h1 n hn
    · cases i with
      | zero => simp at hx; subst hx; exact ⟨b, rfl, rfl⟩
      | succ i => exact h3 i x (by simpa using hx)
theorem Rel.more {F : Hp} {r : Rho} {H : Hp} {L : Hl} (R : Rel G F r H L) {p : Addr} (hp : H p = none) (o : HO) : Rel G F r (upd H p o) L := ⟨R.sub.trans (fun b u e => by rw [upd_ne (ne_of_none e hp)]; exact e), R.len, fun n o' h1 h2 => by
  obtain ⟨a, h, e1, e2, e3, e4⟩ := R.obj n o' h1 h2
  exact ⟨a, h, e1, by rw [upd_ne (ne_of_none e2 hp)]; exact e2, e3, e4⟩, R.inj⟩
theorem wipe_one {σ : L2.St} {i : Nat} : wipe (wipe σ [i]) [i] = wipe σ [i] := by
  show ((σ.set i none).set i none) = σ.set i none
  exact List.set_set ..
theorem upd_upd {H : Hp} {a : Addr} {o u : HO} : upd (upd H a o) a u = upd H a u := funext fun b => by
  by_cases h : b = a
  · rw [h, upd_same, upd_same]
  · rw [upd_ne h, upd_ne h, upd_ne h]
theorem s_hsum (C : Ck S G cf X sc sf N false W) (htop : S.top = true) {y : Str} {i : Nat} {iter : Expr} {ke : I} {scope : Scope} {own : List (Str × Nat)} {p p2 py pc pt cpos : Pos} (how : own.map (·.2) = [i]) (hb1 : ("sum" : Str) ∈ S.bn) (hb2 : ("int" : Str) ∈ S.bn) (hg1 : gloB sc "sum" = true) (hg2 : gloB (relS scope sc) "int" = true)
    (hb : blkC N sc scope own = true) (hk : scope.kind = .function) (hs0 : notSet iter = true) (hst : stoB scope N y i = true) (hv : varB (relS scope sc) N y i = true) (he : PE X iter (tE G cf (cnOf S) W ke)) :
    PE X (.Call (.Name "sum" p) [.ListComp (.Call (.Name "int" p2) [.Name y py] [] pc) [⟨.Name y pt, iter, [], 0⟩] scope cpos] [] pos) (tE G cf (cnOf S) W (.hsum i ke)) := by
  have ok : BlkOk X.N X.env.scope scope own := by rw [C.eN, C.esc]; exact blkOk_by hb
  have ck : ∀ (s : Shared) (H : Hp) (A : Addr) (cl : List (Str × Addr)) (fp : List Addr), Ck (S.blk false) G cf (X.blk s H scope (compEnvC scope cl A X.env) fp) (relS scope sc) scope N false noW := fun s H A cl fp => C.blockH hk (blk_loc) s H A cl fp
  unfold stoB at hst
  simp only [Bool.and_eq_true, decide_eq_true_eq] at hst
  have lc := FkH.pe_lh (X := X) (elt := .Call (.Name "int" p2) [.Name y py] [] pc) (tg := .Name y pt) (pos := cpos) (te := tCB (fun xs H Q => (∃ i, xs = [.int i] ∧ Q (.int i) H) ∨ ∃ k, xs = [.bl k] ∧ Q (.int (if k then 1 else 0)) H) (tCons (tVar i) tNil)) (C.hc rfl htop) (by rw [C.eN]; exact C.nd) he ok
    (fun s H A cl fp => pg_name (i := i) (by rw [(ck s H A cl fp).eN]; exact C.nd) (by rw [(ck s H A cl fp).eN]; exact hst.1) (by rw [(ck s H A cl fp).esc]; exact ((ck s H A cl fp).fo _ (locB_ok hst.2)).1) (by rw [(ck s H A cl fp).esc]; exact ((ck s H A cl fp).fo _ (locB_ok hst.2)).2))
    (fun s H A cl fp => pe_callTy call_int1 (gloB_ok (ck s H A cl fp) hg2) ((ck s H A cl fp).bn _ hb2) (by decide +kernel) (pa_cons (s_name (ck s H A cl fp) hv) pa_nil (star_no rfl _ _)) (by decide) (by decide) (star_no rfl _ _) (back_no _ rfl _)) (fun x => by cases iter <;> first | rfl | (simp [notSet] at hs0))
  refine peW (pe_callB (FkH.cr_sumH (C.hc rfl htop)) (gloB_ok C hg1) (C.bn _ hb1) (by decide +kernel) (pa_cons lc pa_nil (star_no rfl _ _)) (by decide) (by decide) (star_no rfl _ _) (back_no _ rfl _)) fun σ H Q q => ?_
  obtain ⟨F, r, t, L, hs, R, po⟩ := q
  simp only [dE] at po
  refine tR.mk hs R (Po.step po fun v H1 F1 r1 d L1 _ s1 p1 R1 rd po1 => ?_)
  split at po1
  · rename_i xs ex
    split at po1
    · rename_i ns en
      split at po1
      · rename_i hz
        obtain ⟨a, vs, rfl, q, tt⟩ := rdS_ok R1 rd ex
        rw [← C.eK] at q
        obtain ⟨hbits, hlen, hval⟩ := boolsP_ok tt en
        have lx := tt.len
        refine ⟨a, vs, rfl, q, fun D hD => ⟨fun j H' => H' = upd H1 D (.lst ((ns.take j).map V.int)), rfl, fun j H' e => ?_, fun H' e => ?_, fun j H' x hx e => ?_⟩⟩
        · subst e
          exact Same.seq (fun b u e => by rw [upd_ne (ne_of_none e hD)]; exact e) q
        · subst e
          rw [List.take_of_length_le (by omega)]
          exact ⟨D, ns, rfl, .inl (.inl upd_same), hbits, by omega, Po.ok po1 (R1.more hD _) (.p (.int _))⟩
        · subst e
          obtain ⟨b, rfl, hb⟩ := hval j x hx
          have hj : j < ns.length := (List.getElem?_eq_some_iff.mp hb).1
          rw [how]
          refine ⟨(wipe_set (List.mem_singleton.mpr rfl)).trans wipe_one, .bl b, ?_, .inr ⟨b, rfl, (ns.take j).map V.int, upd_same, ?_, ?_⟩⟩
          · rw [List.getElem?_set_self (by rw [wipe_length, ← hs.len]; exact hz.1)]
          · rw [List.length_map, List.length_take, sizeLine_eq]; omega
          · rw [upd_upd]
            show upd H1 D _ = upd H1 D (HO.lst (List.map V.int (ns.take (j+1))))
            rw [List.take_succ, hb, List.map_append]
            rfl
      · exact po1.elim
    · exact po1.elim
  · exact po1.elim
end
end Fk

set_option Elab.async false
set_option linter.all false
set_option autoImplicit false
set_option maxRecDepth 100000
set_option maxHeartbeats 4000000
/-! Fk 11: the check of a text against the plain language -/
namespace Fk
open PySem PySem.Spec PyProof.Rows L2
inductive Job where
  | e (e : Expr) (k : I) | t (e : Expr) (k : I) | a (es : List Expr) (k : I) | tb (o : BoolOp) (es : List Expr) (k : I) | vb (o : BoolOp) (es : List Expr) (k : I)
  | i (tg it : Expr) (k : I) | s (st : Stmt) (k : I) | ss (sts : List Stmt) (k : I) | o (oe : Option Expr) (k : I) | g (tg : Expr) (g : I) | gs (es : List Expr) (g : I) | fs (es : List Expr) (k : I)
def litB (e : Expr) (p : P) : Bool := match e with
  | .Constant (.int i) _ _ => (match p with | .int j => decide (i = j) | _ => false)
  | .Constant (.str s) _ _ => (match p with | .str z => decide (s = z) | _ => false)
  | .Constant (.bool b) _ _ => (match p with | .bl c => b == c | _ => false)
  | .Constant .none _ _ => (match p with | .non => true | _ => false)
  | _ => false
def isExv : I → Bool
  | .exv _ => true
  | _ => false
theorem isExv_ok {k : I} (h : isExv k = false) : ∀ i, k ≠ .exv i := fun i e => by subst e; cases h
/-- a built-in method's name -/
def meN : Me → Str
  | .append => "append" | .pop => "pop" | .extend => "extend" | .index => "index" | .count => "count" | .insert => "insert" | .clear => "clear" | .reverse => "reverse"
  | .join => "join" | .startswith => "startswith" | .split _ => "split" | .isup => "isupper" | .get => "get" | .keys => "keys"
/-- the methods that are carried, and whether they take arguments -/
def meArg : Me → Option Bool
  | .append => some true
  | .pop => some false
  | .join => some true
  | _ => none
/-- is the assignment's swap of a comprehension's name not done -/
def swB (sc : Scope) (tg v : Expr) : Bool := notComp v || (match tg with
  | .Name y _ => decide (sc.names.lookup y ≠ some .local)
  | _ => false)
theorem swB_ok {sc : Scope} {env : Env} {tg v : Expr} {l : Nat} (he : env.scope = sc) (h : swB sc tg v = true) : swapsWith v (some tg) l env = pure false := by
  unfold swB at h
  rw [Bool.or_eq_true] at h
  rcases h with h | h
  · exact swaps_no h _ _ _
  · split at h
    · rename_i y py
      have h := of_decide_eq_true h
      have e : (env.kindOf y == some .local) = false := by
        show (env.scope.names.lookup y == some .local) = false
        rw [he]
        simpa using h
      have key : ∀ (b : Bool), (pure (env.blockKind == .function && env.kindOf y == some .local && py.line == v.pos.line && b) : Sem Bool) = pure false := fun b => by
        rw [e]; simp
      cases v <;> first | rfl | exact key _
    · cases h
def tupB2 (tg e : Expr) : Bool := match tg, e with
  | .Tuple _ _ _, .Tuple _ _ _ => false
  | .List _ _, .Tuple _ _ _ => false
  | _, _ => true
def ownOf (N : List Str) (ws : List Nat) : List (Str × Nat) := ws.map fun i => (N[i]?.getD "", i)
theorem ownOf_snd (N : List Str) (ws : List Nat) : (ownOf N ws).map (·.2) = ws := by
  unfold ownOf
  rw [List.map_map]
  exact List.map_id _
/-- a comprehension's target -/
def ctB (sf : Scope) (N : List Str) (ws : List Nat) (tg : Expr) (g : I) : Bool := match g with
  | .gn i => (match tg with
    | .Name x _ => stoB sf N x i && ws.contains i
    | _ => false)
  | .gt (.cons (.gn i) (.cons (.gn j) .nil)) => (match tg with
    | .Tuple [.Name x _, .Name y _] _ _ => stoB sf N x i && stoB sf N y j && ws.contains i && ws.contains j
    | _ => false)
  | _ => false
/-- a global that is a class of the tables -/
def conC : List (Str × P) → Str → Option Nat
  | [], _ => none
  | (x, .cls c) :: r, y => if x = y then some c else conC r y
  | _ :: r, y => conC r y
theorem conC_ok : ∀ {l : List (Str × P)} {y : Str} {c : Nat}, conC l y = some c → ∃ j : Nat, l[j]? = some (y, P.cls c)
  | [], _, _, h => by cases h
  | (x, p) :: r, y, c, h => by
    have go : conC r y = some c → ∃ j : Nat, ((x, p) :: r)[j]? = some (y, P.cls c) := fun h => by
      obtain ⟨j, e⟩ := conC_ok h
      exact ⟨j + 1, by simpa using e⟩
    cases p <;> simp only [conC] at h <;> first | exact go h | skip
    split at h
    · rename_i e
      subst e
      cases h
      exact ⟨0, rfl⟩
    · exact go h
def isNil : I → Bool
  | .nil => true
  | _ => false
theorem isNil_ok {k : I} (h : isNil k = true) : k = .nil := by cases k <;> first | rfl | cases h
section
def chk : Nat → Stc → Scope → Scope → List Str → Bool → Job → Bool
  | 0, _, _, _, _, _, _ => false
  | n + 1, S, sc, sf, N, cm, .e e k => (match k with
    | .var i => (match e with
      | .Name x _ => varB sc N x i
      | _ => false)
    | .lit p => litB e p
    | .con j => (match e with
      | .Name x _ => (match S.cn[j]? with
        | some q => decide (q.1 = x) && gloB sc x && nmB x
        | none => false)
      | _ => false)
    | .op o a b => (match e with
      | .BinOp l op r _ => binOk o op && chk n S sc sf N cm (.e l a) && chk n S sc sf N cm (.e r b)
      | .Compare l [op] [r] _ => cmpOk o op && notSet r && chk n S sc sf N cm (.e l a) && chk n S sc sf N cm (.e r b)
      | _ => false)
    | .neg a => (match e with
      | .UnaryOp .USub x _ => chk n S sc sf N cm (.e x a)
      | _ => false)
    | .notv a => (match e with
      | .UnaryOp .Not x _ => chk n S sc sf N cm (.e x a)
      | _ => false)
    | .andv a b => (match e with
      | .BoolOp .And es _ => chk n S sc sf N cm (.vb .And es (.andv a b))
      | _ => false)
    | .orv a b => (match e with
      | .BoolOp .Or es _ => chk n S sc sf N cm (.vb .Or es (.orv a b))
      | _ => false)
    | .chain o o' a b c => (match e with
      | .Compare l [op, op'] [m, r] _ => cmpOk o op && cmpOk o' op' && !lastMarks [op, op'] [m, r] && chk n S sc sf N cm (.e l a) && chk n S sc sf N cm (.e m b) && chk n S sc sf N cm (.e r c)
      | _ => false)
    | .ite t a b => (match e with
      | .IfExp c x y _ => chk n S sc sf N cm (.t c t) && chk n S sc sf N cm (.e x a) && chk n S sc sf N cm (.e y b)
      | _ => false)
    | .call f as => (match e with
      | .Call (.Name x _) (e1 :: es) [] _ => (match S.fns[f]? with
        | some fi => decide (fi.at_ = (x, none)) && decide (fi.nm = x) && (if cm then fi.cold else fi.hot) && gloB sc x && nmB x && notStar e1 && es.all notStar && chk n S sc sf N cm (.a (e1 :: es) as)
        | none => false)
      | _ => false)
    | .bi b as => (match e with
      | .Call (.Name x _) (e1 :: es) [] _ => decide (x = biN b) && S.bn.contains x && cm && gloB sc x && notStar e1 && es.all notStar && chk n S sc sf N cm (.a (e1 :: es) as)
      | _ => false)
    | .me m o as => (match e with
      | .Call (.Attribute o' name apos) es [] cpos => decide (name = meN m) && notSup o' && (apos.endLine == cpos.line) && chk n S sc sf N cm (.e o' o) && (match meArg m with
        | some true => (match es with
          | e1 :: es => (e1 :: es).all notStar && decide ((e1 :: es).length < 30) && chk n S sc sf N cm (.a (e1 :: es) as)
          | [] => false)
        | some false => (match es, as with
          | [], .nil => true
          | _, _ => false)
        | none => false)
      | _ => false)
    | .trev a => (match e with
      | .Call (.Name f _) [.Call (.Name g _) [x] [] _] [] _ => cm && decide (f = "tuple") && decide (g = "reversed") && S.bn.contains ("tuple" : Str) && S.bn.contains ("reversed" : Str) && gloB sc "tuple" && gloB sc "reversed" && notStar x && chk n S sc sf N cm (.e x a)
      | _ => false)
    | .lrng _ as => (match e, as with
      | .Call (.Name f _) [.Call (.Name g _) [x] [] _] [] _, .cons a .nil => cm && decide (f = "list") && decide (g = "range") && S.bn.contains ("list" : Str) && S.bn.contains ("range" : Str) && gloB sc "list" && gloB sc "range" && notStar x && chk n S sc sf N cm (.e x a)
      | _, _ => false)
    | .dct0 _ => (match e with
      | .Dict [] [] _ => true
      | _ => false)
    | .tup as => (match e with
      | .Tuple es _ _ => chk n S sc sf N cm (.a es as)
      | _ => false)
    | .lst _ as => (match e with
      | .List es _ => chk n S sc sf N cm (.a es as)
      | _ => false)
    | .ix a i => (match e with
      | .Subscript x y _ => notSlice y && chk n S sc sf N cm (.e x a) && chk n S sc sf N cm (.e y i)
      | _ => false)
    | .sl _ a lo hi => (match e with
      | .Subscript x (.Slice l h none _) _ => chk n S sc sf N cm (.e x a) && chk n S sc sf N cm (.o l lo) && chk n S sc sf N cm (.o h hi)
      | _ => false)
    | .isi a c => (match e with
      | .Call (.Name f _) [x, .Name y _] [] _ => decide (f = "isinstance") && clB c && decide (y = Str.ofString (clN c)) && S.bn.contains y && S.bn.contains ("isinstance" : Str) && gloB sc y && gloB sc "isinstance" && nmB y && notStar x && chk n S sc sf N cm (.e x a)
      | _ => false)
    | .hsum i a => (match e with
      | .Call (.Name f _) [.ListComp (.Call (.Name g _) [.Name y _] [] _) [⟨.Name y2 _, iter, [], as⟩] scope _] [] _ => !cm && S.top && decide (f = "sum") && decide (g = "int") && decide (y2 = y) && decide (as = 0) && S.bn.contains ("sum" : Str) && S.bn.contains ("int" : Str) && gloB sc "sum" && gloB (relS scope sc) "int" &&
          blkC N sc scope (ownOf N [i]) && decide (scope.kind = .function) && notSet iter && stoB scope N y i && varB (relS scope sc) N y i && chk n S sc sf N cm (.e iter a)
      | _ => false)
    | .exi i ks => (match e with
      | .Call (.Name f _) [.Name x _, .Name y _] [] _ => decide (f = "isinstance") && varB sc N x i && S.bn.contains ("isinstance" : Str) && gloB sc "isinstance" && gloB sc y && nmB y && ((decide (y = "ValueError") && S.bn.contains y && ks.all fun q => S.exm.contains (q.1, none, q.2)) || (match conC S.cn y with
        | some c => ks.all fun q => S.exm.contains (q.1, some c, q.2)
        | none => false))
      | _ => false)
    | .comp m ws g it t el => (match e with
      | .ListComp elt [⟨tg, iter, ifs, as⟩] scope _ => decide (as = 0) && cm && blkC N sc scope (ownOf N ws) && decide (scope.kind = .function) && notSet iter && chk n S sc sf N cm (.i tg iter it) && ctB scope N ws tg g &&
          chk n (S.blk true) (relS scope sc) scope N true (.fs ifs t) && chk n (S.blk true) (relS scope sc) scope N true (.e elt el)
      | _ => false)
    | _ => false)
  | n + 1, S, sc, sf, N, cm, .vb o es k => (match es with
    | [] => false
    | [x] => chk n S sc sf N cm (.e x k)
    | x :: y :: r => (match o, k with
      | .And, .andv a b => chk n S sc sf N cm (.e x a) && chk n S sc sf N cm (.vb .And (y :: r) b)
      | .Or, .orv a b => chk n S sc sf N cm (.e x a) && chk n S sc sf N cm (.vb .Or (y :: r) b)
      | _, _ => false))
  | n + 1, S, sc, sf, N, cm, .tb o es k => (match es with
    | [] => false
    | [x] => chk n S sc sf N cm (.t x k)
    | x :: y :: r => (match o, k with
      | .And, .tand a b => chk n S sc sf N cm (.t x a) && chk n S sc sf N cm (.tb .And (y :: r) b)
      | .Or, .tor a b => chk n S sc sf N cm (.t x a) && chk n S sc sf N cm (.tb .Or (y :: r) b)
      | _, _ => false))
  | n + 1, S, sc, sf, N, cm, .t e k => (match k with
    | .tand a b => (match e with
      | .BoolOp .And es _ => chk n S sc sf N cm (.tb .And es (.tand a b))
      | _ => false)
    | .tor a b => (match e with
      | .BoolOp .Or es _ => chk n S sc sf N cm (.tb .Or es (.tor a b))
      | _ => false)
    | .tnot a => (match e with
      | .UnaryOp .Not x _ => chk n S sc sf N cm (.t x a)
      | _ => false)
    | .tval a => (match e with
      | .Compare l [op] [r] _ => (match a with
        | .op o ka kb => cmpOk o op && notSet r && chk n S sc sf N cm (.e l ka) && chk n S sc sf N cm (.e r kb)
        | _ => false)
      | .Compare l [op, op'] [m, r] _ => (match a with
        | .chain o o' ka kb kc => cmpOk o op && cmpOk o' op' && !lastMarks [op, op'] [m, r] && chk n S sc sf N cm (.e l ka) && chk n S sc sf N cm (.e m kb) && chk n S sc sf N cm (.e r kc)
        | _ => false)
      | e => plainT e && chk n S sc sf N cm (.e e a))
    | _ => false)
  | n + 1, S, sc, sf, N, cm, .a es k => (match es with
    | [] => (match k with
      | .nil => true
      | _ => false)
    | e :: es => (match k with
      | .cons a r => (match a with
        | .exv i => (match e with
          | .Name x _ => varB sc N x i && chk n S sc sf N cm (.a es r)
          | _ => false)
        | a => notStar e && chk n S sc sf N cm (.e e a) && chk n S sc sf N cm (.a es r))
      | _ => false))
  | n + 1, S, sc, sf, N, cm, .o oe k => (match oe with
    | none => (match k with
      | .nil => true
      | _ => false)
    | some e => (match k with
      | .cons a .nil => chk n S sc sf N cm (.e e a)
      | _ => false))
  | n + 1, S, sc, sf, N, cm, .fs es k => (match es with
    | [] => (match k with
      | .tyes => true
      | _ => false)
    | [c] => chk n S sc sf N cm (.t c k)
    | _ => false)
  | n + 1, S, sc, sf, N, cm, .g tg g => (match g with
    | .gn i => (match tg with
      | .Name x _ => stoB sf N x i
      | _ => false)
    | .gt gs => (match tg with
      | .Tuple es _ _ => cm && es.all notStar && decide (gLen gs = es.length) && chk n S sc sf N cm (.gs es gs)
      | _ => false)
    | _ => false)
  | n + 1, S, sc, sf, N, cm, .gs es g => (match es with
    | [] => (match g with
      | .nil => true
      | _ => false)
    | e :: es => (match g with
      | .cons (.gn i) r => (match e with
        | .Name x _ => stoB sf N x i && chk n S sc sf N cm (.gs es r)
        | _ => false)
      | _ => false))
  | n + 1, S, sc, sf, N, cm, .i tg it k => (match k with
    | .its .seq (.cons a .nil) => !isExv a && chk n S sc sf N cm (.e it a)
    | .its .range as => (match it with
      | .Call (.Name f _) [x] [] _ => decide (f = "range") && decide (aLen as = 1) && S.bn.contains ("range" : Str) && gloB sc "range" && notStar x && chk n S sc sf N cm (.a [x] as)
      | .Call (.Name f _) [x, y] [] _ => decide (f = "range") && decide (aLen as = 2) && S.bn.contains ("range" : Str) && gloB sc "range" && notStar x && notStar y && chk n S sc sf N cm (.a [x, y] as)
      | _ => false)
    | .its .enum as => (match it with
      | .Call (.Name f _) [x] [] _ => (match tg with
        | .Tuple _ _ _ => decide (f = "enumerate") && S.bn.contains ("enumerate" : Str) && gloB sc "enumerate" && notStar x && chk n S sc sf N cm (.a [x] as)
        | _ => false)
      | _ => false)
    | .its .zip as => (match it with
      | .Call (.Name f _) [x, y] [] _ => (match tg with
        | .Tuple _ _ _ => decide (f = "zip") && S.bn.contains ("zip" : Str) && gloB sc "zip" && notStar x && notStar y && chk n S sc sf N cm (.a [x, y] as)
        | _ => false)
      | _ => false)
    | .its .rev (.cons a .nil) => (match it with
      | .Call (.Name f _) [x] [] _ => decide (f = "reversed") && !isExv a && S.bn.contains ("reversed" : Str) && gloB sc "reversed" && notStar x && chk n S sc sf N cm (.e x a)
      | _ => false)
    | _ => false)
  | n + 1, S, sc, sf, N, cm, .s st k => (match k with
    | .pass => (match st with
      | .Pass _ => true
      | _ => false)
    | .brk => (match st with
      | .Break _ => true
      | _ => false)
    | .cont => (match st with
      | .Continue _ => true
      | _ => false)
    | .expr a => (match st with
      | .Expr e _ => notComp e && chk n S sc sf N cm (.e e a)
      | _ => false)
    | .ret a => (match st with
      | .Return (some e) _ => chk n S sc sf N cm (.e e a)
      | _ => false)
    | .retn => (match st with
      | .Return none _ => true
      | _ => false)
    | .asg g a => (match st with
      | .Assign [tg] v pos => (swB sc tg v && tupB2 tg v && notStar tg && chk n S sc sf N cm (.e v a) && chk n S sc sf N cm (.g tg g)) || (match tg, g, v, a with
        | .Name y py, .gn i, .ListComp elt [⟨tg2, iter, ifs, as⟩] scope cpos, .comp _ ws g2 it t el => decide (sc.kind = .function) && decide (N[i]? = some y) && decide (sc.names.lookup y = some .local) && (py.line == cpos.line) && decide (pos.line = cpos.line) &&
            !(scope.names.any fun q => q.1 == y && (q.2 == .local || q.2 == .cell)) && decide (as = 0) && cm && blkC N sc scope (ownOf N ws) && decide (scope.kind = .function) && notSet iter && chk n S sc sf N cm (.i tg2 iter it) && ctB scope N ws tg2 g2 &&
            chk n (S.blk true) (relS scope sc) scope N true (.fs ifs t) && chk n (S.blk true) (relS scope sc) scope N true (.e elt el)
        | _, _, _, _ => false)
      | _ => false)
    | .seti o i a => (match st with
      | .Assign [.Subscript o' i' _] v _ => notComp v && notSlice i' && chk n S sc sf N cm (.e o' o) && chk n S sc sf N cm (.e i' i) && chk n S sc sf N cm (.e v a)
      | _ => false)
    | .if_ t a b => (match st with
      | .If c x y _ => chk n S sc sf N cm (.t c t) && chk n S sc sf N cm (.ss x a) && chk n S sc sf N cm (.ss y b)
      | _ => false)
    | .for_ g it b => (match st with
      | .For tg x body [] _ => cm && notSet x && chk n S sc sf N cm (.i tg x it) && chk n S sc sf N cm (.g tg g) && chk n S sc sf N cm (.ss body b)
      | _ => false)
    | .raise x c k as => (match st with
      | .Raise (some (.Call (.Name y _) es [] _)) none _ => (match S.xcs[x]? with
        | some xi => decide (xi.nm = y) && decide (xi.cl = c) && decide (xi.kd = k) && cm && gloB sc y && nmB y && (match es with
          | [] => isNil as
          | e :: er => notStar e && er.all notStar) && chk n S sc sf N cm (.a es as)
        | none => false)
      | _ => false)
    | .try_ b c ks i s => (match st with
      | .Try body [.ExceptHandler (some (.Name x _)) (some y) (s0 :: suite) _] [] [] _ => S.top && cm && decide (N[i]? = some y) && decide (sc.names.lookup y = some .local) && decide (conC S.cn x = some c) && gloB sc x && nmB x && ks.all (fun q => S.exm.contains (q.1, some c, q.2)) &&
          chk n S sc sf N true (.ss body b) && chk n S sc sf N false (.ss (s0 :: suite) s)
      | _ => false)
    | .while_ t b => (match st with
      | .While c body [] _ => chk n S sc sf N cm (.t c t) && chk n S sc sf N cm (.ss body b)
      | _ => false)
    | _ => false)
  | n + 1, S, sc, sf, N, cm, .ss sts k => (match k with
    | .pass => (match sts with
      | [] => true
      | _ => false)
    | .seq a b => (match a with
      | .frz _ => chk n S sc sf N cm (.ss sts b)
      | a => (match sts with
        | st :: rest => chk n S sc sf N cm (.s st a) && chk n S sc sf N cm (.ss rest b)
        | [] => false))
    | _ => false)
end
end Fk

set_option Elab.async false
set_option linter.all false
set_option autoImplicit false
set_option maxRecDepth 100000
set_option maxHeartbeats 8000000
/-! Fk 12: a checked text does what the plain language computes -/
namespace Fk
open PySem PySem.Spec PyProof.Rows L2
section
variable {G : Gm} {cf : Nat → List Sl → Hl → R D}
def Snd (S : Stc) (G : Gm) (cf : Nat → List Sl → Hl → R D) (X : Cx) (W : WX) : Job → Prop
  | .e e k => PE X e (tE G cf (cnOf S) W k)
  | .t e k => PT X e (tT G cf (cnOf S) W k)
  | .a es k => PA X es (tA G cf (cnOf S) W k)
  | .tb o es k => ∀ pos, PW X (.BoolOp o es pos) (tT G cf (cnOf S) W k)
  | .vb o es k => ∀ pos, PE X (.BoolOp o es pos) (tE G cf (cnOf S) W k)
  | .i tg it k => PI X tg it (tI G cf (cnOf S) W k)
  | .s st k => PS X st (tS G cf (cnOf S) W k)
  | .ss sts k => PSs X sts (tS G cf (cnOf S) W k)
  | .o oe k => PO X oe (tR G W rZ (dO cf (cnOf S) k))
  | .g tg g => PG X tg (tG G g)
  | .gs es g => PGs X es (tGs G g)
  | .fs es k => PTs X es (tT G cf (cnOf S) W k)
theorem lit_ok {S : Stc} {X : Cx} {W : WX} {e : Expr} {p : P} (h : litB e p = true) : PE X e (tE G cf (cnOf S) W (.lit p)) := by
  unfold litB at h
  split at h <;> first | (cases h; done) | skip
  all_goals
    split at h <;> first | (cases h; done) | skip
  · have := of_decide_eq_true h; subst this; exact s_lit pe_int fun F => .int _
  · have := of_decide_eq_true h; subst this; exact s_lit pe_str fun F => .str _
  · have := eq_of_beq h; subst this; exact s_lit pe_bl fun F => .bl _
  · exact s_lit pe_non fun F => .non
theorem has {S : Stc} {x : Str} (h : S.bn.contains x = true) : x ∈ S.bn := by simpa using h
theorem ct_ok {S : Stc} {sf : Scope} {N : List Str} {ws : List Nat} {tg : Expr} {g : I} (h : ctB sf N ws tg g = true) : ∃ kg, TgOk G g kg ws ∧ ∀ X' sc', Ck S G cf X' sc' sf N true noW → PG X' tg kg := by
  unfold ctB at h
  split at h
  · split at h
    · simp only [Bool.and_eq_true, List.contains_iff_mem] at h
      refine ⟨_, tg_name h.2, fun X' sc' C => ?_⟩
      have h1 := h.1
      unfold stoB at h1
      simp only [Bool.and_eq_true, decide_eq_true_eq] at h1
      exact pg_name (by rw [C.eN]; exact C.nd) (by rw [C.eN]; exact h1.1) (by rw [C.esc]; exact (C.fo _ (locB_ok h1.2)).1) (by rw [C.esc]; exact (C.fo _ (locB_ok h1.2)).2)
    · cases h
  · split at h
    · simp only [Bool.and_eq_true, List.contains_iff_mem] at h
      obtain ⟨⟨⟨h1, h2⟩, h3⟩, h4⟩ := h
      refine ⟨_, tg_two h3 h4, fun X' sc' C => ?_⟩
      unfold stoB at h1 h2
      simp only [Bool.and_eq_true, decide_eq_true_eq] at h1 h2
      rw [← C.eK]
      exact pg_tup (C.ecm rfl) (pgs_cons (pg_name (by rw [C.eN]; exact C.nd) (by rw [C.eN]; exact h1.1) (by rw [C.esc]; exact (C.fo _ (locB_ok h1.2)).1) (by rw [C.esc]; exact (C.fo _ (locB_ok h1.2)).2))
        (pgs_cons (pg_name (by rw [C.eN]; exact C.nd) (by rw [C.eN]; exact h2.1) (by rw [C.esc]; exact (C.fo _ (locB_ok h2.2)).1) (by rw [C.esc]; exact (C.fo _ (locB_ok h2.2)).2)) pgs_nil))
    · cases h
  · cases h
theorem chk_ok : ∀ (n : Nat) (S : Stc) (sc sf : Scope) (N : List Str) (cm : Bool) (j : Job), chk n S sc sf N cm j = true → ∀ (G : Gm) (X : Cx) (W : WX), Ck S G cf X sc sf N cm W → Snd S G cf X W j := by
  intro n
  induction n with
  | zero => intro S sc sf N cm j h; cases h
  | succ n ih =>
    intro S sc sf N cm j h G X W C
    have ih' := fun j h => ih S sc sf N cm j h G X W C
    cases j with
    | e e k =>
      show PE X e (tE G cf (cnOf S) W k)
      cases k with
      | var i =>
        simp only [chk] at h
        split at h <;> first | (cases h; done) | skip
        exact s_var C h
      | lit p =>
        simp only [chk] at h
        exact lit_ok h
      | con j =>
        simp only [chk] at h
        split at h <;> first | (cases h; done) | skip
        split at h <;> first | (cases h; done) | skip
        rename_i q hq
        simp only [Bool.and_eq_true, decide_eq_true_eq] at h
        obtain ⟨x', p⟩ := q
        obtain ⟨⟨h1, h2⟩, h3⟩ := h
        dsimp only at h1
        subst h1
        exact s_con C hq h2 h3
      | op o a b =>
        simp only [chk] at h
        split at h <;> first | (cases h; done) | skip
        · simp only [Bool.and_eq_true] at h
          exact s_bin C h.1.1 (ih' _ h.1.2) (ih' _ h.2)
        · simp only [Bool.and_eq_true] at h
          exact s_cmp C h.1.1.1 h.1.1.2 (ih' _ h.1.2) (ih' _ h.2)
      | neg a =>
        simp only [chk] at h
        split at h <;> first | (cases h; done) | skip
        exact s_neg C (ih' _ h)
      | notv a =>
        simp only [chk] at h
        split at h <;> first | (cases h; done) | skip
        exact s_not C (ih' _ h)
      | andv a b =>
        simp only [chk] at h
        split at h <;> first | (cases h; done) | skip
        exact ih' (.vb .And _ _) h _
      | orv a b =>
        simp only [chk] at h
        split at h <;> first | (cases h; done) | skip
        exact ih' (.vb .Or _ _) h _
      | chain o o' a b c =>
        simp only [chk] at h
        split at h <;> first | (cases h; done) | skip
        simp only [Bool.and_eq_true, Bool.not_eq_true'] at h
        obtain ⟨⟨⟨⟨⟨h1, h2⟩, h3⟩, h4⟩, h5⟩, h6⟩ := h
        exact s_chain C h1 h2 (ih' _ h4) (ih' _ h5) (ih' _ h6) h3
      | ite t a b =>
        simp only [chk] at h
        split at h <;> first | (cases h; done) | skip
        simp only [Bool.and_eq_true] at h
        exact s_ite C (ih' _ h.1.1) (ih' _ h.1.2) (ih' _ h.2)
      | call f as =>
        simp only [chk] at h
        split at h <;> first | (cases h; done) | skip
        split at h <;> first | (cases h; done) | skip
        rename_i fi hf
        simp only [Bool.and_eq_true, decide_eq_true_eq] at h
        obtain ⟨⟨⟨⟨⟨⟨⟨h1, h2⟩, h3⟩, h4⟩, h5⟩, h6⟩, h7⟩, h8⟩ := h
        exact s_call C hf h1 h2 h3 h4 h5 h6 h7 (ih' _ h8)
      | bi b as =>
        simp only [chk] at h
        split at h <;> first | (cases h; done) | skip
        simp only [Bool.and_eq_true, decide_eq_true_eq] at h
        obtain ⟨⟨⟨⟨⟨⟨h1, h2⟩, h3⟩, h4⟩, h5⟩, h6⟩, h7⟩ := h
        exact s_bi C h1 (has h2) h3 h4 h5 h6 (ih' _ h7)
      | me m o as =>
        simp only [chk] at h
        split at h <;> first | (cases h; done) | skip
        simp only [Bool.and_eq_true, decide_eq_true_eq] at h
        obtain ⟨⟨⟨⟨h1, h2⟩, h3⟩, h4⟩, h5⟩ := h
        subst h1
        cases m <;> simp only [meArg] at h5 <;> first | (cases h5; done) | skip
        · split at h5 <;> first | (cases h5; done) | skip
          simp only [Bool.and_eq_true, decide_eq_true_eq] at h5
          exact s_me1 (m := .append) C PySem.F.plainAttrs_list PySem.F.slot_list_append PySem.F.type_list_append meR_append h2 h5.1.1 h5.1.2 h3 (ih' _ h4) (ih' _ h5.2)
        · split at h5 <;> first | (cases h5; done) | skip
          exact s_me0 (m := .pop) C PySem.F.plainAttrs_list PySem.F.slot_list_pop PySem.F.type_list_pop meR_pop h2 h3 (ih' _ h4)
        · split at h5 <;> first | (cases h5; done) | skip
          simp only [Bool.and_eq_true, decide_eq_true_eq] at h5
          exact s_me1 (m := .join) C PySem.F.plainAttrs_str PySem.F.slot_str_join PySem.F.type_str_join (meR_join C.eK) h2 h5.1.1 h5.1.2 h3 (ih' _ h4) (ih' _ h5.2)
      | trev a =>
        simp only [chk] at h
        split at h <;> first | (cases h; done) | skip
        simp only [Bool.and_eq_true, decide_eq_true_eq] at h
        obtain ⟨⟨⟨⟨⟨⟨⟨⟨h1, h2⟩, h3⟩, h4⟩, h5⟩, h6⟩, h7⟩, h8⟩, h9⟩ := h
        subst h1 h2 h3
        exact s_trev C (has h4) (has h5) h6 h7 h8 (ih' _ h9)
      | lrng m as =>
        simp only [chk] at h
        split at h <;> first | (cases h; done) | skip
        simp only [Bool.and_eq_true, decide_eq_true_eq] at h
        obtain ⟨⟨⟨⟨⟨⟨⟨⟨h1, h2⟩, h3⟩, h4⟩, h5⟩, h6⟩, h7⟩, h8⟩, h9⟩ := h
        subst h1 h2 h3
        exact s_lrng C (has h4) (has h5) h6 h7 h8 (ih' _ h9)
      | dct0 m =>
        simp only [chk] at h
        split at h <;> first | (cases h; done) | skip
        exact s_dct0
      | tup as =>
        simp only [chk] at h
        split at h <;> first | (cases h; done) | skip
        exact s_tup (ih' _ h)
      | lst m as =>
        simp only [chk] at h
        split at h <;> first | (cases h; done) | skip
        exact s_lst (ih' _ h)
      | ix a i =>
        simp only [chk] at h
        split at h <;> first | (cases h; done) | skip
        simp only [Bool.and_eq_true] at h
        exact s_ix C h.1.1 (ih' _ h.1.2) (ih' _ h.2)
      | sl m a lo hi =>
        simp only [chk] at h
        split at h <;> first | (cases h; done) | skip
        simp only [Bool.and_eq_true] at h
        exact s_sl C (ih' _ h.1.1) (ih' _ h.1.2) (ih' _ h.2)
      | isi a c =>
        simp only [chk] at h
        split at h <;> first | (cases h; done) | skip
        simp only [Bool.and_eq_true, decide_eq_true_eq] at h
        obtain ⟨⟨⟨⟨⟨⟨⟨⟨⟨h1, h2⟩, h3⟩, h4⟩, h5⟩, h6⟩, h7⟩, h8⟩, h9⟩, h10⟩ := h
        subst h1
        exact s_isi C h2 h3 (has h4) (has h5) h6 h7 h8 h9 (ih' _ h10)
      | comp m ws g it t el =>
        simp only [chk] at h
        split at h <;> first | (cases h; done) | skip
        rename_i pos0
        simp only [Bool.and_eq_true, decide_eq_true_eq] at h
        obtain ⟨⟨⟨⟨⟨⟨⟨⟨h1, h2⟩, h3⟩, h4⟩, h5⟩, h6⟩, h7⟩, h8⟩, h9⟩ := h
        subst h1
        subst h2
        obtain ⟨kg, t1, t2⟩ := ct_ok (S := S.blk true) (G := G) (cf := cf) h7
        have z := s_comp (pos := pos0) (m := m) (own := ownOf N ws) C h3 h4 (ih' _ h6) h5 (by rw [ownOf_snd]; exact t1) (fun X' C' => t2 X' _ C') (fun X' C' => ih _ _ _ _ _ _ h8 G X' _ C') (fun X' C' => ih _ _ _ _ _ _ h9 G X' _ C')
        rw [ownOf_snd] at z
        exact z
      | hsum i a =>
        simp only [chk] at h
        split at h <;> first | (cases h; done) | skip
        rename_i pos0
        simp only [Bool.and_eq_true, decide_eq_true_eq, Bool.not_eq_true'] at h
        obtain ⟨⟨⟨⟨⟨⟨⟨⟨⟨⟨⟨⟨⟨⟨⟨h1, h2⟩, h3⟩, h4⟩, h5⟩, h6⟩, h7⟩, h8⟩, h9⟩, h10⟩, h11⟩, h12⟩, h13⟩, h14⟩, h15⟩, h16⟩ := h
        subst h1 h3 h4 h5 h6
        exact s_hsum (own := ownOf N [i]) C h2 (ownOf_snd N [i]) (has h7) (has h8) h9 h10 h11 h12 h13 h14 h15 (ih' _ h16)
      | exi i ks =>
        simp only [chk] at h
        split at h <;> first | (cases h; done) | skip
        simp only [Bool.and_eq_true, decide_eq_true_eq, Bool.or_eq_true] at h
        obtain ⟨⟨⟨⟨⟨⟨h1, h2⟩, h3⟩, h4⟩, h5⟩, h6⟩, h7⟩ := h
        subst h1
        rcases h7 with ⟨⟨e1, e2⟩, e3⟩ | h7
        · exact s_exi C h2 (has h3) h4 h5 h6 (.inl ⟨rfl, e1, has e2⟩) fun q hq => by simpa using List.all_eq_true.mp e3 q hq
        · split at h7 <;> first | (cases h7; done) | skip
          rename_i c hc
          obtain ⟨j, hj⟩ := conC_ok hc
          exact s_exi C h2 (has h3) h4 h5 h6 (.inr ⟨c, j, rfl, hj⟩) fun q hq => by simpa using List.all_eq_true.mp h7 q hq
      | _ => simp [chk] at h
    | vb o es k =>
      simp only [chk] at h
      intro pos
      split at h <;> first | (cases h; done) | skip
      · exact pe_one (ih' _ h)
      · split at h <;> first | (cases h; done) | skip
        · simp only [Bool.and_eq_true] at h
          exact s_and C (ih' _ h.1) (ih' _ h.2 pos)
        · simp only [Bool.and_eq_true] at h
          exact s_or C (ih' _ h.1) (ih' _ h.2 pos)
    | tb o es k =>
      simp only [chk] at h
      intro pos
      split at h <;> first | (cases h; done) | skip
      · cases o
        · exact pw_and1 (ih' _ h)
        · exact pw_or1 (ih' _ h)
      · split at h <;> first | (cases h; done) | skip
        · simp only [Bool.and_eq_true] at h
          exact s_tand (ih' _ h.1) (ih' _ h.2 pos)
        · simp only [Bool.and_eq_true] at h
          exact s_tor (ih' _ h.1) (ih' _ h.2 pos)
    | t e k =>
      show PT X e (tT G cf (cnOf S) W k)
      cases k with
      | tand a b =>
        simp only [chk] at h
        split at h <;> first | (cases h; done) | skip
        exact (ih' (.tb .And _ _) h _).pt
      | tor a b =>
        simp only [chk] at h
        split at h <;> first | (cases h; done) | skip
        exact (ih' (.tb .Or _ _) h _).pt
      | tnot a =>
        simp only [chk] at h
        split at h <;> first | (cases h; done) | skip
        exact s_tnot (ih' _ h)
      | tval a =>
        simp only [chk] at h
        split at h
        · split at h <;> first | (cases h; done) | skip
          simp only [Bool.and_eq_true] at h
          exact s_cmpT C h.1.1.1 h.1.1.2 (ih' _ h.1.2) (ih' _ h.2)
        · split at h <;> first | (cases h; done) | skip
          simp only [Bool.and_eq_true, Bool.not_eq_true'] at h
          obtain ⟨⟨⟨⟨⟨h1, h2⟩, h3⟩, h4⟩, h5⟩, h6⟩ := h
          exact s_chainT C h1 h2 (ih' _ h4) (ih' _ h5) (ih' _ h6) h3
        · simp only [Bool.and_eq_true] at h
          exact s_tval C h.1 (ih' _ h.2)
      | _ => simp [chk] at h
    | a es k =>
      show PA X es (tA G cf (cnOf S) W k)
      simp only [chk] at h
      split at h
      · split at h <;> first | (cases h; done) | skip
        exact s_anil
      · split at h <;> first | (cases h; done) | skip
        split at h
        · split at h <;> first | (cases h; done) | skip
          simp only [Bool.and_eq_true] at h
          exact s_aexv C h.1 (ih' _ h.2)
        · rename_i hn
          simp only [Bool.and_eq_true] at h
          exact s_acons (fun i e => hn i e) h.1.1 (ih' _ h.1.2) (ih' _ h.2)
    | o oe k =>
      show PO X oe (tR G W rZ (dO cf (cnOf S) k))
      simp only [chk] at h
      split at h
      · split at h <;> first | (cases h; done) | skip
        exact s_ono
      · split at h <;> first | (cases h; done) | skip
        exact s_oso (ih' _ h)
    | fs es k =>
      show PTs X es (tT G cf (cnOf S) W k)
      simp only [chk] at h
      split at h
      · split at h <;> first | (cases h; done) | skip
        exact s_ptyes
      · exact s_ptone (ih' _ h)
      · cases h
    | g tg g =>
      show PG X tg (tG G g)
      simp only [chk] at h
      split at h
      · split at h <;> first | (cases h; done) | skip
        exact s_gn C h
      · split at h <;> first | (cases h; done) | skip
        simp only [Bool.and_eq_true, decide_eq_true_eq] at h
        exact s_gt C h.1.1.1 h.1.1.2 h.1.2 (ih' _ h.2)
      · cases h
    | gs es g =>
      show PGs X es (tGs G g)
      simp only [chk] at h
      split at h
      · split at h <;> first | (cases h; done) | skip
        exact s_gnil
      · split at h <;> first | (cases h; done) | skip
        split at h <;> first | (cases h; done) | skip
        simp only [Bool.and_eq_true] at h
        exact s_gcons C h.1 (ih' _ h.2)
    | i tg it k =>
      show PI X tg it (tI G cf (cnOf S) W k)
      simp only [chk] at h
      split at h
      · simp only [Bool.and_eq_true, Bool.not_eq_true'] at h
        exact s_itSeq C (isExv_ok h.1) (ih' _ h.2)
      · split at h <;> first | (cases h; done) | skip
        · simp only [Bool.and_eq_true, decide_eq_true_eq] at h
          obtain ⟨⟨⟨⟨⟨h1, h2⟩, h3⟩, h4⟩, h5⟩, h6⟩ := h
          subst h1
          exact s_itRange1 C h2 (has h3) h4 h5 (ih' _ h6)
        · simp only [Bool.and_eq_true, decide_eq_true_eq] at h
          obtain ⟨⟨⟨⟨⟨⟨h1, h2⟩, h3⟩, h4⟩, h5⟩, h6⟩, h7⟩ := h
          subst h1
          exact s_itRange2 C h2 (has h3) h4 h5 h6 (ih' _ h7)
      · split at h <;> first | (cases h; done) | skip
        split at h <;> first | (cases h; done) | skip
        simp only [Bool.and_eq_true, decide_eq_true_eq] at h
        obtain ⟨⟨⟨⟨h1, h2⟩, h3⟩, h4⟩, h5⟩ := h
        subst h1
        exact s_itEnum C (has h2) h3 h4 (ih' _ h5)
      · split at h <;> first | (cases h; done) | skip
        split at h <;> first | (cases h; done) | skip
        simp only [Bool.and_eq_true, decide_eq_true_eq] at h
        obtain ⟨⟨⟨⟨⟨h1, h2⟩, h3⟩, h4⟩, h5⟩, h6⟩ := h
        subst h1
        exact s_itZip C (has h2) h3 h4 h5 (ih' _ h6)
      · split at h <;> first | (cases h; done) | skip
        simp only [Bool.and_eq_true, decide_eq_true_eq, Bool.not_eq_true'] at h
        obtain ⟨⟨⟨⟨⟨h1, h2⟩, h3⟩, h4⟩, h5⟩, h6⟩ := h
        subst h1
        exact s_itRev C (isExv_ok h2) (has h3) h4 h5 (ih' _ h6)
      · cases h
    | s st k =>
      show PS X st (tS G cf (cnOf S) W k)
      cases k with
      | pass => simp only [chk] at h; split at h <;> first | exact s_pass | cases h
      | brk => simp only [chk] at h; split at h <;> first | exact s_brk | cases h
      | cont => simp only [chk] at h; split at h <;> first | exact s_cont | cases h
      | expr a =>
        simp only [chk] at h
        split at h <;> first | (cases h; done) | skip
        simp only [Bool.and_eq_true] at h
        exact s_expr h.1 (ih' _ h.2)
      | ret a =>
        simp only [chk] at h
        split at h <;> first | (cases h; done) | skip
        exact s_ret (ih' _ h)
      | retn =>
        simp only [chk] at h
        split at h <;> first | (cases h; done) | skip
        exact s_retn
      | asg g a =>
        simp only [chk] at h
        split at h <;> first | (cases h; done) | skip
        rw [Bool.or_eq_true] at h
        rcases h with h | h
        · simp only [Bool.and_eq_true] at h
          obtain ⟨⟨⟨⟨h1, h2⟩, h3⟩, h4⟩, h5⟩ := h
          exact s_asg (swB_ok C.esc h1) (swapped_no h2 _) h3 (ih' _ h4) (ih' _ h5)
        · split at h <;> first | (cases h; done) | skip
          rename_i m0 _ _ _ _ _
          simp only [Bool.and_eq_true, decide_eq_true_eq] at h
          obtain ⟨⟨⟨⟨⟨⟨⟨⟨⟨⟨⟨⟨⟨⟨h0, h1⟩, h2⟩, h3⟩, h4⟩, h5⟩, h6⟩, h7⟩, h8⟩, h9⟩, h10⟩, h11⟩, h12⟩, h13⟩, h14⟩ := h
          subst h6
          subst h7
          obtain ⟨kg, t1, t2⟩ := ct_ok (S := S.blk true) (G := G) (cf := cf) h12
          have z := s_setComp (m := m0) (own := ownOf N _) C h8 h9 h1 h2 (sw_true (by rw [C.esc]; exact h0) (by rw [C.esc]; exact h2) h3 (by simpa using h5)) (ih' _ h11) h10 (by rw [ownOf_snd]; exact t1) (fun X' C' => t2 X' _ C') (fun X' C' => ih _ _ _ _ _ _ h13 G X' _ C') (fun X' C' => ih _ _ _ _ _ _ h14 G X' _ C') h4
          rw [ownOf_snd] at z
          exact z
      | seti o i a =>
        simp only [chk] at h
        split at h <;> first | (cases h; done) | skip
        simp only [Bool.and_eq_true] at h
        exact s_seti C h.1.1.1.1 h.1.1.1.2 (ih' _ h.1.1.2) (ih' _ h.1.2) (ih' _ h.2)
      | if_ t a b =>
        simp only [chk] at h
        split at h <;> first | (cases h; done) | skip
        simp only [Bool.and_eq_true] at h
        exact s_if (ih' _ h.1.1) (ih' _ h.1.2) (ih' _ h.2)
      | for_ g it b =>
        simp only [chk] at h
        split at h <;> first | (cases h; done) | skip
        simp only [Bool.and_eq_true] at h
        exact s_for C h.1.1.1.1 h.1.1.1.2 (ih' _ h.1.1.2) (ih' _ h.1.2) (ih' _ h.2)
      | raise x c k as =>
        simp only [chk] at h
        split at h <;> first | (cases h; done) | skip
        split at h <;> first | (cases h; done) | skip
        rename_i es _ _ _ xi hxi
        simp only [Bool.and_eq_true, decide_eq_true_eq] at h
        obtain ⟨⟨⟨⟨⟨⟨⟨h1, h2⟩, h3⟩, h4⟩, h5⟩, h6⟩, h7⟩, h8⟩ := h
        subst h1 h2 h3 h4
        refine s_raise C (List.mem_of_getElem? hxi) h5 h6 ?_ ?_ (ih' _ h8)
        · cases es with
          | nil => exact .inl rfl
          | cons e er =>
            simp only [Bool.and_eq_true] at h7
            exact .inr ⟨e, er, rfl, h7.1, h7.2⟩
        · intro e
          subst e
          exact isNil_ok h7
      | try_ b c ks i s =>
        simp only [chk] at h
        split at h <;> first | (cases h; done) | skip
        simp only [Bool.and_eq_true, decide_eq_true_eq] at h
        obtain ⟨⟨⟨⟨⟨⟨⟨⟨⟨h1, h2⟩, h3⟩, h4⟩, h5⟩, h6⟩, h7⟩, h8⟩, h9⟩, h10⟩ := h
        subst h2
        obtain ⟨j, hj⟩ := conC_ok h5
        exact s_try C h1 h3 h4 hj h6 h7 (fun q hq => by simpa using List.all_eq_true.mp h8 q hq) (fun X' W' C' => ih _ _ _ _ _ _ h9 G X' W' C') (fun X' q C' => ih _ _ _ _ _ _ h10 (G.at q) X' _ C')
      | while_ t b =>
        simp only [chk] at h
        split at h <;> first | (cases h; done) | skip
        simp only [Bool.and_eq_true] at h
        exact s_while C (ih' _ h.1) (ih' _ h.2)
      | _ => simp [chk] at h
    | ss sts k =>
      show PSs X sts (tS G cf (cnOf S) W k)
      cases k with
      | pass =>
        simp only [chk] at h
        split at h <;> first | (cases h; done) | skip
        exact s_nil
      | seq a b =>
        simp only [chk] at h
        split at h
        · exact s_frz (ih' _ h)
        · split at h <;> first | (cases h; done) | skip
          simp only [Bool.and_eq_true] at h
          exact s_seq (ih' _ h.1) (ih' _ h.2)
      | _ => simp [chk] at h
end
end Fk

set_option Elab.async false
set_option linter.all false
set_option autoImplicit false
set_option maxRecDepth 100000
set_option maxHeartbeats 2000000
/-! Fk 13: functions, by the depth of calls -/
namespace Fk
open PySem PySem.Spec PyProof.Rows L2
def bdStep (s : List (Str × Value)) (x : Str × Value) : List (Str × Value) := if (List.lookup x.1 s).isNone = true then s ++ [(x.1, x.2)] else s
theorem bd_for : ∀ (l : List (Str × Value)) (s : List (Str × Value)), (forIn l s fun x s => if (List.lookup x.1 s).isNone = true then (pure (ForInStep.yield (s ++ [(x.1, x.2)])) : Sem _) else pure (ForInStep.yield s)) = pure (l.foldl bdStep s)
  | [], s => by simp
  | x :: l, s => by
    rw [List.forIn_cons, List.foldl_cons]
    unfold bdStep
    split <;> (rw [pure_bind]; exact bd_for l _)
theorem bd_skip : ∀ (l s : List (Str × Value)), (∀ x ∈ l, (List.lookup x.1 s).isNone = false) → l.foldl bdStep s = s
  | [], s, _ => rfl
  | x :: l, s, h => by
    rw [List.foldl_cons]
    have : bdStep s x = s := by unfold bdStep; rw [h x List.mem_cons_self]; rfl
    rw [this]
    exact bd_skip l s fun y hy => h y (List.mem_cons_of_mem _ hy)
theorem lk_none {x : Str} : ∀ {s : List (Str × Value)}, (∀ y ∈ s, y.1 ≠ x) → List.lookup x s = none
  | [], _ => rfl
  | y :: s, h => by
    obtain ⟨a, b⟩ := y
    have h1 := h (a, b) List.mem_cons_self
    rw [List.lookup_cons]
    have : (x == a) = false := by
      rw [beq_eq_false_iff_ne]
      exact fun e => h1 e.symm
    rw [this]
    exact lk_none fun y hy => h y (List.mem_cons_of_mem _ hy)
theorem bd_add : ∀ (l s : List (Str × Value)), (l.map (·.1)).Nodup → (∀ x ∈ l, ∀ y ∈ s, y.1 ≠ x.1) → l.foldl bdStep s = s ++ l
  | [], s, _, _ => by simp
  | x :: l, s, nd, h => by
    rw [List.foldl_cons]
    have e : bdStep s x = s ++ [x] := by unfold bdStep; rw [lk_none (h x List.mem_cons_self)]; rfl
    rw [e]
    rw [List.map_cons, List.nodup_cons] at nd
    rw [bd_add l _ nd.2 fun z hz y hy => ?_]
    · simp
    · rcases List.mem_append.mp hy with hy | hy
      · exact h z (List.mem_cons_of_mem _ hz) y hy
      · rw [List.mem_singleton] at hy
        subst hy
        exact fun e => nd.1 (e ▸ List.mem_map_of_mem hz)
theorem lk_zip : ∀ {ps : List Str} {vs : List Value} {i : Nat} {x : Str} {v : Value}, ps.Nodup → ps[i]? = some x → vs[i]? = some v → List.lookup x (ps.zip vs) = some v
  | [], _, _, _, _, _, h, _ => by simp at h
  | _ :: _, [], _, _, _, _, _, h => by simp at h
  | p :: ps, w :: vs, 0, x, v, nd, h1, h2 => by
    simp at h1 h2; subst h1; subst h2
    simp [List.zip_cons_cons, List.lookup_cons]
  | p :: ps, w :: vs, i + 1, x, v, nd, h1, h2 => by
    rw [List.zip_cons_cons, List.lookup_cons]
    rw [List.nodup_cons] at nd
    have hm : x ∈ ps := List.mem_of_getElem? (i := i) (by simpa using h1)
    have : (x == p) = false := by
      rw [beq_eq_false_iff_ne]; exact fun e => nd.1 (e ▸ hm)
    rw [this]
    exact lk_zip nd.2 (by simpa using h1) (by simpa using h2)
theorem fm_zip (f : Str → Option Value) : ∀ (ps : List Str) (vs : List Value), ps.length = vs.length → (∀ (i : Nat) (x : Str) (v : Value), ps[i]? = some x → vs[i]? = some v → f x = some v) → ps.filterMap (fun n => (f n).map fun x => (n, x)) = ps.zip vs
  | [], [], _, _ => rfl
  | [], _ :: _, h, _ => by simp at h
  | _ :: _, [], h, _ => by simp at h
  | p :: ps, v :: vs, h, w => by
    rw [List.filterMap_cons, w 0 p v rfl rfl]
    show (p, v) :: _ = _
    rw [fm_zip f ps vs (by simpa using h) fun i x v h1 h2 => w (i + 1) x v (by simpa using h1) (by simpa using h2)]
    rfl
theorem bd_all {ps : List Str} {us its : List Value} (nd : ps.Nodup) (hl : us.length ≤ ps.length) (hi : its.length ≤ ps.length) (ht : ps.length ≤ us.length + its.length) :
    ((ps.drop (ps.length - its.length)).zip its).foldl bdStep (ps.zip us) = ps.zip (us ++ its.drop (us.length + its.length - ps.length)) := by
  let c := us.length + its.length - ps.length
  have hc : c = us.length + its.length - ps.length := rfl
  have e0 : (ps.drop (ps.length - its.length)).zip its = ((ps.drop (ps.length - its.length)).zip its).take c ++ ((ps.drop (ps.length - its.length)).zip its).drop c := (List.take_append_drop _ _).symm
  rw [e0, List.foldl_append]
  have inA : ∀ x ∈ ((ps.drop (ps.length - its.length)).zip its).take c, (List.lookup x.1 (ps.zip us)).isNone = false := fun x hx => by
    obtain ⟨i, hi2⟩ := List.getElem?_of_mem hx
    have hic : i < c := by
      by_cases h : i < c
      · exact h
      · rw [List.getElem?_eq_none (by rw [List.length_take]; omega)] at hi2; cases hi2
    rw [List.getElem?_take_of_lt hic] at hi2
    have hz := List.getElem?_zip_eq_some.mp hi2
    have h1 : ps[ps.length - its.length + i]? = some x.1 := by rw [← List.getElem?_drop]; exact hz.1
    have hlt : ps.length - its.length + i < us.length := by omega
    have h2 : us[ps.length - its.length + i]? = some us[ps.length - its.length + i] := List.getElem?_eq_getElem hlt
    rw [lk_zip nd h1 h2]; rfl
  rw [bd_skip _ _ inA]
  have eB : ((ps.drop (ps.length - its.length)).zip its).drop c = (ps.drop us.length).zip (its.drop c) := by
    rw [List.zip, List.drop_zipWith, List.drop_drop]
    have : ps.length - its.length + c = us.length := by omega
    rw [this]
  rw [eB, bd_add]
  · have e1 : ps.zip us = (ps.take us.length).zip us := by
      rw [List.zip_eq_zip_take_min, Nat.min_eq_right hl, List.take_length]
    have e2 : ∀ X : List Value, ps.zip X = (ps.take us.length ++ ps.drop us.length).zip X := fun X => by rw [List.take_append_drop]
    rw [e2 (us ++ _), List.zip_append (by simp; omega), ← e1]
  · rw [List.map_fst_zip (by simp; omega)]
    exact nd.sublist (List.drop_sublist _ _)
  · rintro ⟨x, u⟩ hx ⟨y, w⟩ hy e
    dsimp at e; subst e
    have h1 : y ∈ ps.drop us.length := (List.of_mem_zip hx).1
    obtain ⟨i, hi2⟩ := List.getElem?_of_mem hy
    obtain ⟨q1, q2⟩ := List.getElem?_zip_eq_some.mp hi2
    have hiu : i < us.length := (List.getElem?_eq_some_iff.mp q2).1
    obtain ⟨j, hj⟩ := List.getElem?_of_mem h1
    rw [List.getElem?_drop] at hj
    have := (List.getElem?_inj (List.getElem?_eq_some_iff.mp q1).1 nd).mp (q1.trans hj.symm)
    omega
theorem bind_pl {fd : FuncData} {ps : List Str} {us : List Value} (h1 : fd.params.posonlyargs = []) (h2 : fd.params.args.map (·.arg) = ps) (h3 : fd.params.kwonlyargs = []) (h4 : fd.params.vararg = none) (h5 : fd.params.kwarg = none) (nd : ps.Nodup) (hl : us.length ≤ ps.length) :
    ∃ k, bindArgs fd ⟨us, []⟩ = seqItems? fd.defaults >>= k ∧ ∀ its : List Value, its.length ≤ ps.length → ps.length ≤ us.length + its.length → ∀ o : Option (Array Value), (o.getD #[]).toList = its → k o = pure (ps.zip (us ++ its.drop (us.length + its.length - ps.length))) := by
  unfold bindArgs
  simp only [h1, h2, h3, h4, h5, List.map_nil, List.nil_append, List.forIn_nil, pure_bind]
  refine ⟨_, rfl, fun its hi ht o ho => ?_⟩
  rw [ho]
  have e1 : (decide (us.length > ps.length) && (none : Option Arg).isNone) = false := by
    rw [decide_eq_false (by omega)]; rfl
  rw [e1]
  have e2 : its.drop (its.length - ps.length) = its := by
    rw [show its.length - ps.length = 0 by omega]; rfl
  rw [e2]
  have e3 : (List.filter (fun n => (List.lookup n (ps.zip us)).isNone) (List.take (ps.length - its.length) ps)) = [] := by
    rw [List.filter_eq_nil_iff]
    intro x hx
    obtain ⟨i, hi2⟩ := List.getElem?_of_mem hx
    have hic : i < ps.length - its.length := by
      by_cases h : i < ps.length - its.length
      · exact h
      · rw [List.getElem?_eq_none (by rw [List.length_take]; omega)] at hi2; cases hi2
    rw [List.getElem?_take_of_lt hic] at hi2
    have hlt : i < us.length := by omega
    rw [lk_zip nd hi2 (List.getElem?_eq_getElem hlt)]
    simp
  rw [e3]
  rw [bd_for, bd_all nd hl hi ht]
  simp only [List.isEmpty_nil, Bool.not_true, Bool.false_eq_true, if_false, pure_bind, List.append_nil]
  congr 1
  exact fm_zip _ ps _ (by simp; omega) fun i x v a b => lk_zip nd a b

theorem bindsG {K : PySem.W.Frag} {dvs : List V} {fd : FuncData} {ps : List Str} (hD : DflV K fd.defaults dvs) (hp : parB fd.params ps = true) (n : Nat) (hn : n ≤ ps.length) (hd : dvs.length ≤ ps.length) (ht : ps.length ≤ n + dvs.length) :
    ∃ ds, Vals (dvs.drop (n + dvs.length - ps.length)) ds ∧ Binds K fd ps ds := by
  unfold parB at hp
  simp only [Bool.and_eq_true, decide_eq_true_eq, List.isEmpty_iff, Option.isNone_iff_eq_none] at hp
  obtain ⟨⟨⟨⟨⟨h1, h2⟩, h3⟩, h4⟩, h5⟩, nd⟩ := hp
  rcases hD with ⟨rfl, hdv⟩ | ⟨_, T, o, its, m, hdv, lT, oT, rT⟩
  · refine ⟨[], by rw [List.drop_nil]; exact .nil, fun s us X hl => ?_⟩
    rw [List.append_nil] at hl ⊢
    simp only [List.length_nil] at ht
    obtain ⟨k, e1, e2⟩ := bind_pl (fd := fd) (us := us) h1 h2 h3 h4 h5 nd (by omega)
    refine .of_eq ?_
    have := e2 [] (by simp) (by simp; omega) none rfl
    rw [e1, hdv]
    show ((do notAStandIn Value.none; pure none : Sem (Option (Array Value))) >>= k) = _
    have q : (do notAStandIn Value.none; pure none : Sem (Option (Array Value))) = pure none := by first | rfl | (show (pure () >>= fun _ => pure none : Sem (Option (Array Value))) = _; rw [pure_bind])
    rw [q, pure_bind, this]
    simp
  · have l1 : its.length = dvs.length := rT.length.symm
    refine ⟨its.drop (n + dvs.length - ps.length), rT.drop _, fun s us X hlen => ?_⟩
    have l2 : us.length = n := by
      rw [List.length_append, List.length_drop, l1] at hlen
      omega
    obtain ⟨k, e1, e2⟩ := bind_pl (fd := fd) (us := us) h1 h2 h3 h4 h5 nd (by omega)
    refine BindsTo.of_looks fun M => ?_
    rw [e1, hdv]
    refine looks_items X lT oT (.of_pure ?_)
    have := e2 its (by omega) (by omega) (some its.toArray) (by simp)
    rw [l1, l2] at this
    exact this
theorem bindsP {K : PySem.W.Frag} {x qual : Str} {params : Arguments} {body : List Stmt} {scope : Scope} {dvs : List V} {f : Addr} {fd : FuncData} {ps : List Str} (F : FunD K x qual params body scope dvs [] f fd) (hp : parB params ps = true) (n : Nat) (hn : n ≤ ps.length) (hd : dvs.length ≤ ps.length) (ht : ps.length ≤ n + dvs.length) :
    ∃ ds, Vals (dvs.drop (n + dvs.length - ps.length)) ds ∧ Binds K fd ps ds := by
  obtain ⟨oc, od, dV, kV, doc, pm, an, cdv, ct, osl, rfl, lk, hcd, hD, hK⟩ := F.ex
  exact bindsG hD hp n hn hd ht
/-- a def's promise -/
def spF (G : Gm) (m : Nat) (g : List Sl → Hl → R D) : Sp := fun vs H Q E => vs.length = m ∧ ∃ (F : Hp) (r : Rho) (L : Hl) (as : List Sl), rA G F r as vs ∧ Rel G F r H L ∧ Po G (rD G) F r (g as L) Q (fun c d H' => E c d H')
theorem Rel.takeP {G : Gm} {F : Hp} {r r' : Rho} {H : Hp} {L : Hl} (R : Rel G F r' H L) (c : Bool) (n : Nat) (hn : r.length = n) (p : Pre r r') :
    ∃ r2, Rel G F r2 H (if c && (L.take n).all (closedO n) then L.take n else L) ∧ Pre r r2 ∧ ((c = true → r2 = r'.take n ∨ r2 = r') ∧ (c = false → r2 = r')) := by
  cases h : (c && (L.take n).all (closedO n)) with
  | false => exact ⟨r', by simpa [h] using R, p, fun _ => .inr rfl, fun _ => rfl⟩
  | true =>
    rw [Bool.and_eq_true] at h
    refine ⟨r'.take n, by simpa [h] using R.take n h.2, fun i a e => ?_, fun _ => .inl rfl, fun e => by rw [e] at h; cases h.1⟩
    have hi : i < n := by rw [← hn]; exact (List.getElem?_eq_some_iff.mp e).1
    rw [List.getElem?_take_of_lt hi]
    exact p i a e
theorem end_ok {G : Gm} {F : Hp} {r : Rho} {L : Hl} {H : Hp} {res : RS2} {Q : VK} {E : XK} (hr : r.length = L.length) (po : Po G (rD G) F r (endD L.length res) Q E) :
    PoS G (fun cls d _ H => E cls d H) F r res { nx := fun _ H' => Q .non H', rt := Q } := by
  have go : ∀ (c : Bool) (r' : Rho) (F' H' : Hp) (L' : Hl), Rel G F' r' H' L' → Pre r r' → ∃ r2, Rel G F' r2 H' (if c && (L'.take L.length).all (closedO L.length) then L'.take L.length else L') ∧ Pre r r2 ∧ ((c = true → r2 = r'.take L.length ∨ r2 = r') ∧ (c = false → r2 = r')) :=
    fun c r' F' H' L' R p => R.takeP c L.length hr p
  cases res with
  | ok f L' =>
    cases f with
    | nx t =>
      intro F' r' H' σ' s p R hs
      obtain ⟨r2, R2, p2, _⟩ := go true r' F' H' L' R p
      exact po F' r2 H' .non s p2 (by simpa using R2) (.p .non)
    | rt d =>
      intro F' r' H' v s p R rd
      obtain ⟨r2, R2, p2, h1, h2⟩ := go (closedD L.length d) r' F' H' L' R p
      refine po F' r2 H' v s p2 R2 ?_
      cases hc : closedD L.length d with
      | true =>
        rcases h1 hc with e | e
        · rw [e]; exact rd.take hc
        · rw [e]; exact rd
      | false => rw [h2 hc]; exact rd
    | bk t => exact po.elim
    | ct t => exact po.elim
  | ex c fs t L' =>
    intro F' r' H' σ' d s p R hs x
    obtain ⟨r2, R2, p2, _⟩ := go true r' F' H' L' R p
    exact po F' r2 H' d s p2 (by simpa using R2) x
  | bad => exact po.elim
end Fk

set_option Elab.async false
set_option linter.all false
set_option autoImplicit false
set_option maxRecDepth 100000
set_option maxHeartbeats 2000000
/-! Fk 14: every def does what the plain language computes -/
namespace Fk
open PySem PySem.Spec PyProof.Rows L2
open L2H (RoomH Hot1 PinOk cxH inv_startH)
/-- a def of the text as the tables have it -/
structure FnT (S : Stc) (G : Gm) (fi : FnI) (fd : FuncData) : Prop where
  ex : ∃ (qual : Str) (params : Arguments) (body : List Stmt) (scope : Scope) (dvs : List V) (n : Nat), FunD G.K (match fi.at_.2 with | some m => m | none => fi.at_.1) qual params body scope dvs [] (He.fAd G.K fi.at_) fd ∧ FnScope fi.N fi.ps scope ∧ parB params fi.ps = true ∧
    (∀ F, RPs G F fi.dfl dvs) ∧ (fi.cold = true → chk n S scope scope fi.N true (.ss body fi.body) = true) ∧ (fi.hot = true → chk n S scope scope fi.N false (.ss body fi.body) = true)
/-- what stands behind the top -/
structure Prg (S : Stc) (G : Gm) (mg : Str → Option Value) (Pr : Program) : Prop where
  px : G.px = none
  ex : ExF S G.K G.ca
  xc : ∀ (w : World) (base : Heap), Xcs S G Pr w mg base
  bn : ∀ x ∈ S.bn, mg x = none
  con : ∀ (k : Nat) (x : Str) (p : P), S.cn[k]? = some (x, p) → ∃ (v : V) (u : Value), mg x = some u ∧ RelV v u ∧ ∀ F, RP G F p v
  fn : ∀ (f : Nat) (fi : FnI), S.fns[f]? = some fi → ∃ fd, FnT S G fi fd
  glo : ∀ (f : Nat) (fi : FnI), S.fns[f]? = some fi → fi.at_ = (fi.nm, none) → mg fi.nm = some (.ref (He.fAd G.K fi.at_)) ∧ PySem.W.keepIn G.K (.ref (He.fAd G.K fi.at_)) = true
section
variable {S : Stc} {G : Gm} {mg : Str → Option Value} {Pr : Program} {w : World} {base : Heap}
theorem run_full {n f : Nat} {fi : FnI} (hf : S.fns[f]? = some fi) {as : List Sl} {L : Hl} (h1 : as.length ≤ fi.ps.length) (h2 : fi.dfl.length ≤ fi.ps.length) (h3 : fi.ps.length ≤ as.length + fi.dfl.length) : run S n f as L = run S n f (as ++ dflN fi as.length) L := by
  cases n with
  | zero => rfl
  | succ n =>
    have hd : (dflN fi as.length).length = fi.ps.length - as.length := by
      unfold dflN
      rw [List.length_map, List.length_drop]; omega
    have hl : (as ++ dflN fi as.length).length = fi.ps.length := by rw [List.length_append, hd]; omega
    have e0 : dflN fi (as ++ dflN fi as.length).length = [] := by
      rw [hl]
      unfold dflN
      rw [List.drop_of_length_le (by omega)]; rfl
    unfold run
    rw [hf]
    dsimp only
    rw [if_pos ⟨h1, h2, h3⟩, if_pos ⟨by omega, h2, by omega⟩, e0, List.append_nil]
theorem start_ok {F : Hp} {r : Rho} {as : List Sl} {vs : List V} (h : rA G F r as vs) (N : List Str) (m : Nat) (hm : vs.length = m) : RSs G F r (as ++ List.replicate (N.length - m) .u) (L2.start N vs) := by
  unfold L2.start
  rw [hm]
  exact RSs.app h (RSs.reps _)
theorem dfl_ok {F : Hp} {r : Rho} : ∀ {xs : List P} {vs : List V}, RPs G F xs vs → rA G F r (xs.map fun p => Sl.v (.p p)) vs
  | _, _, .nil => .nil
  | _, _, .cons h t => .cons (.v (.p h)) (dfl_ok t)
/-- a def that is called while an exception is held: a the exception, c its class, d its dict -/
structure FnHx (Pr : Program) (w : World) (K : PySem.W.Frag) (mg : Str → Option Value) (base : Heap) (CX : CXT) (k : Nat) (f : Addr) (fd : FuncData) (ps : List Str) (ca : Nat → Addr) (sp : Addr → Nat → Option Addr → Sp) : Prop where
  len : ∀ a c d vs H Q E, sp a c d vs H Q E → vs.length = ps.length
  run : ∀ (A : Around) (outer : List Env) (s : Shared) (H : Hp) (args : Args) (us : List Value) (vs : List V) (Q : VK) (E : XK) (p : Addr × Obj) (c : Nat) (d : Option Addr), RoomH k A → Hot1 A p → L2N.Zn (.ref (ca c)) d p.2 → PinOk outer H s p → Env0 Pr w K mg base A outer s H → BindsTo s fd args (ps.zip us) → Vals vs us →
    sp p.1 c d vs H Q E → codeAny (model Pr w) A (.call (.ref f) args) (CR CX outer Pr w H s Q E) s
theorem fn_hot {CX : CXT} {K : PySem.W.Frag} {k : Nat} {f : Addr} {name qual : Str} {params : Arguments} {body : List Stmt} {scope : Scope} {dvs : List V} {N ps : List Str} {fd : FuncData} {ca : Nat → Addr} {sp : Addr → Nat → Option Addr → Sp} (FD : FunD K name qual params body scope dvs [] f fd) (Sc : FnScope N ps scope)
    (len : ∀ a c d vs H Q E, sp a c d vs H Q E → vs.length = ps.length)
    (hbody : ∀ (cdv : Value) (A : Around) (outer : List Env) (s : Shared) (H : Hp) (vs : List V) (Q : VK) (E : XK) (p : Addr × Obj) (c : Nat) (d : Option Addr), Hot1 A p → L2N.Zn (.ref (ca c)) d p.2 → RoomH k (A.deeper (envOfC qual scope s.heap.objs.size f cdv)) → sp p.1 c d vs H Q E →
      ∃ t, PSs (cxH CX Pr w K mg base N qual scope f cdv A outer s H E p) body t ∧ t { nx := fun _ H' => Q .non H', rt := Q } (L2.start N vs) H) : FnHx Pr w K mg base CX (k + 1) f fd ps ca sp := by
  obtain ⟨oc, od, dV, kV, doc, pm, an, cdv, ct, osl, rfl, lk, hcd, _, _⟩ := FD.ex
  refine ⟨len, fun A outer s H args us vs Q E p c d hr hot hz hpin e0 hb r hsp => ?_⟩
  have KX : K.In s.heap := e0.mod.kin.keeps fun b o e => (e0.bs b o e).1
  have hlim := (e0.mod.nolimit.keeps fun b o e => (e0.bs b o e).1 : s.heap.NoLimit)
  obtain ⟨t, ht, hq⟩ := hbody cdv A outer s H vs Q E p c d hot hz (hr.deeper _) hsp
  refine codeAny_call_function hr.depth (KX _ _ lk) rfl Sc.co Sc.gen rfl (PySem.W.codeRec_of KX hcd) (hb _ _ _ _ (wpAny_newFunctionEnv_cells Sc.kind (fun y hy => (Sc.par y.1 (List.of_mem_zip hy).1).imp id fun z => ⟨z, PySem.W.cellsFrom_some _ _ _ (.inl z)⟩) fun env he s1 x => ?_))
  subst he
  have J := inv_startH (E := E) (CX := CX) Sc hpin e0 (len _ _ _ _ _ _ _ hsp) r x
  refine ⟨hlim.keeps x.toInCall.keep, codeAny_func (wpAny_mono (ht.run [] s1 _ H _ J hq) (fun fl s2 hs => ?_) fun er s2 hs => hs)⟩
  have fin : ∀ {σ2 : L2.St} {H2 : Hp} {v : V} {u : Value}, Inv (cxH CX Pr w K mg base N qual scope f cdv A outer s H E p) [] σ2 H2 s2 → RelV v u → Q v H2 → CE outer Pr w H s Q u s2 := fun {σ2 H2 v u} J2 rv q => ⟨v, H2, J2.os, J2.bare, J2.base, J2.hok, rv, q⟩
  cases fl with
  | next => obtain ⟨_, _, J2, q⟩ := hs; exact fin (v := V.non) (u := Value.none) J2 rfl q
  | ret u => obtain ⟨_, _, _, J2, rv, q⟩ := hs; exact fin J2 rv q
  | brk => obtain ⟨_, _, _, q⟩ := hs; exact q.elim
  | cont => obtain ⟨_, _, _, q⟩ := hs; exact q.elim
/-- a def's promise there -/
def spH (G : Gm) (m : Nat) (g : List Sl → Hl → R D) : Addr → Nat → Option Addr → Sp := fun a c d => spF (G.at (some (a, c, d))) m g
/-- a def may be called -/
theorem call_ok (Pg : Prg S G mg Pr) {n f : Nat} {fi : FnI} (hf : S.fns[f]? = some fi) (F : ∀ fd, FnT S G fi fd → FnOk Pr w G.K mg base (L2N.CX Pr w) (n + 4) (He.fAd G.K fi.at_) fd fi.ps (spF G fi.ps.length (run S n f))) {X : Cx} {W : WX} (e1 : X.prog = Pr) (e2 : X.w = w) (e3 : X.K = G.K) (e4 : X.mg = mg) (e5 : X.base = base) (hr : Room (n + 4) X.A) (tk : L2N.Takes X W) :
    CallOk G (run S n f) X W (He.fAd G.K fi.at_) := by
  subst e1 e2 e4 e5
  intro pins s σ H us vs F0 r L as Q I hv ra R po
  obtain ⟨fd, T⟩ := Pg.fn f fi hf
  have Fo := F fd T
  obtain ⟨qual, params, body, scope, dvs, nn, FD, Sc, hp, hd, hc, hch⟩ := T.ex
  have lv : as.length = vs.length := by have := ra.len; simpa using this
  have lu : vs.length = us.length := hv.length
  by_cases hx : as.length ≤ fi.ps.length ∧ fi.dfl.length ≤ fi.ps.length ∧ fi.ps.length ≤ as.length + fi.dfl.length
  · obtain ⟨h1, h2, h3⟩ := hx
    have ld : fi.dfl.length = dvs.length := (hd F0).len
    obtain ⟨ds, vd, bd⟩ := bindsP FD hp us.length (by omega) (by omega) (by omega)
    have Fo' : FnOk X.prog X.w X.K X.mg X.base (L2N.CX X.prog X.w) (n + 4) (He.fAd G.K fi.at_) fd fi.ps (spF G fi.ps.length (run S n f)) := by rw [e3]; exact Fo
    rw [← e3] at bd
    refine run_fnSD Fo' hr bd vd (L2N.passAt tk σ) I hv ?_
    have e : dvs.drop (us.length + dvs.length - fi.ps.length) = dvs.drop (as.length + fi.dfl.length - fi.ps.length) := by rw [ld, lv, lu]
    rw [e]
    refine ⟨?_, F0, r, L, as ++ dflN fi as.length, ?_, R, ?_⟩
    · rw [List.length_append, List.length_drop]; omega
    · show RSs _ _ _ _ (List.map some (vs ++ _))
      rw [List.map_append]
      refine RSs.app ra (dfl_ok ?_)
      exact (hd F0).drop _
    · rw [← run_full hf h1 h2 h3]; exact po
  · have : run S n f as L = .bad := by
      cases n with
      | zero => rfl
      | succ n =>
        unfold run
        rw [hf]
        dsimp only
        rw [if_neg hx]
    rw [this] at po
    exact po.elim
theorem call_okH (Pg : Prg S G mg Pr) {n f : Nat} {fi : FnI} (hf : S.fns[f]? = some fi) (F : ∀ fd, FnT S G fi fd → FnHx Pr w G.K mg base (L2N.CX Pr w) (n + 4) (He.fAd G.K fi.at_) fd fi.ps G.ca (spH G fi.ps.length (run S n f))) {X : Cx} {W : WX} (e1 : X.prog = Pr) (e2 : X.w = w) (e3 : X.K = G.K) (e4 : X.mg = mg) (e5 : X.base = base) (hr : RoomH (n + 4) X.A) (tk : L2N.Takes X W)
    {a0 : Addr} {oe : Obj} {c : Nat} {d : Option Addr} (hA : X.A.handled = some (.ref a0)) (hp : (a0, oe) ∈ X.pn) (hz : L2N.Zn (.ref (G.ca c)) d oe) (hfl : ∃ vs, oe.data = .fields vs) : CallOk (G.at (some (a0, c, d))) (run S n f) X W (He.fAd G.K fi.at_) := by
  subst e1 e2 e4 e5
  intro pins s σ H us vs F0 r L as Q I hv ra R po
  obtain ⟨fd, T⟩ := Pg.fn f fi hf
  have Fo := F fd T
  obtain ⟨qual, params, body, scope, dvs, nn, FD, Sc, hpar, hd, hc, hch⟩ := T.ex
  have lv : as.length = vs.length := by have := ra.len; simpa using this
  have lu : vs.length = us.length := hv.length
  have P1 := I.pin (a0, oe) (List.mem_append_left _ hp)
  have hpin : PinOk X.stack H s (a0, oe) := ⟨P1.1, P1.2.1, fun hm => (List.mem_cons.mp (I.stkSub a0 hm)).elim P1.2.2.1 P1.2.2.2.1, P1.2.2.2.2⟩
  obtain ⟨vsf, hvf⟩ := hfl
  have hot : Hot1 X.A (a0, oe) := ⟨hA, vsf, hvf, hz.2.2 vsf hvf⟩
  by_cases hx : as.length ≤ fi.ps.length ∧ fi.dfl.length ≤ fi.ps.length ∧ fi.ps.length ≤ as.length + fi.dfl.length
  · obtain ⟨h1, h2, h3⟩ := hx
    have ld : fi.dfl.length = dvs.length := (hd F0).len
    obtain ⟨ds, vd, bd⟩ := bindsP FD hpar us.length (by omega) (by omega) (by omega)
    rw [← e3] at bd
    have e : dvs.drop (us.length + dvs.length - fi.ps.length) = dvs.drop (as.length + fi.dfl.length - fi.ps.length) := by rw [ld, lv, lu]
    rw [e] at vd
    have r2 : Vals (vs ++ dvs.drop (as.length + fi.dfl.length - fi.ps.length)) (us ++ ds) := hv.append vd
    have hlen : (us ++ ds).length = fi.ps.length := by rw [← r2.length, List.length_append, List.length_drop]; omega
    have h : spH G fi.ps.length (run S n f) a0 c d (vs ++ dvs.drop (as.length + fi.dfl.length - fi.ps.length)) H Q (WE W σ) := by
      refine ⟨by rw [List.length_append, List.length_drop]; omega, F0, r, L, as ++ dflN fi as.length, ?_, R, by rw [← run_full hf h1 h2 h3]; exact po⟩
      show RSs _ _ _ _ (List.map some (vs ++ _))
      rw [List.map_append]
      exact RSs.app ra (dfl_ok (RPs.drop _ (RPs.px (hd F0))))
    have e0 : Env0 X.prog X.w G.K X.mg X.base X.A X.stack s H := by rw [← e3]; exact I.env0
    refine wpAny_call (codeAny_mono (Fo.run X.A X.stack s H ⟨us, []⟩ (us ++ ds) _ Q (WE W σ) (a0, oe) c d hr hot hz hpin e0 (bd s us I.kIn hlen) r2 h) fun rr s' hq => ?_)
    cases rr with
    | error er => exact L2N.passAt tk σ pins H s er s' I hq
    | ok fl => cases fl <;> first | exact I.after hq | exact False.elim hq
  · have : run S n f as L = .bad := by
      cases n with
      | zero => rfl
      | succ n =>
        unfold run
        rw [hf]
        dsimp only
        rw [if_neg hx]
    rw [this] at po
    exact po.elim
/-- a def's body from its run -/
theorem run_body {n f : Nat} {fi : FnI} (hf : S.fns[f]? = some fi) {G : Gm} {F : Hp} {r : Rho} {H : Hp} {L : Hl} {as : List Sl} {vs : List V} {Q : VK} {E : XK} (hl : vs.length = fi.ps.length) (ra : rA G F r as vs) (R : Rel G F r H L) (po : Po G (rD G) F r (run S (n + 1) f as L) Q (fun c d H' => E c d H')) :
    tS G (run S n) (cnOf S) (fun cls d _ H => E cls d H) fi.body { nx := fun _ H' => Q .non H', rt := Q } (L2.start fi.N vs) H := by
  have la : as.length = vs.length := by have := ra.len; simpa using this
  refine ⟨F, r, as ++ List.replicate (fi.N.length - fi.ps.length) .u, L, start_ok ra fi.N _ hl, R, end_ok (H := H) R.len ?_⟩
  have hps : as.length = fi.ps.length := by rw [la, hl]
  unfold run at po
  rw [hf] at po
  dsimp only at po
  split at po
  · rename_i hx
    have e0 : dflN fi as.length = [] := by
      rw [hps]
      unfold dflN
      rw [List.drop_of_length_le (by omega)]; rfl
    rw [e0, List.append_nil] at po
    exact po
  · exact po.elim
theorem fn_run (Pg : Prg S G mg Pr) (htop : S.top = true) : ∀ (n f : Nat) (fi : FnI), S.fns[f]? = some fi → ∀ fd, FnT S G fi fd → (fi.cold = true → FnOk Pr w G.K mg base (L2N.CX Pr w) (n + 4) (He.fAd G.K fi.at_) fd fi.ps (spF G fi.ps.length (run S n f))) ∧
    (fi.hot = true → FnHx Pr w G.K mg base (L2N.CX Pr w) (n + 4) (He.fAd G.K fi.at_) fd fi.ps G.ca (spH G fi.ps.length (run S n f)))
  | 0, f, fi, hf, fd, T => ⟨fun _ => ⟨fun vs H Q E h => h.1, fun A outer s H args us vs Q E hr e0 hb hv h => by
      obtain ⟨_, F, r, L, as, ra, R, po⟩ := h
      exact po.elim⟩, fun _ => ⟨fun a c d vs H Q E h => h.1, fun A outer s H args us vs Q E p c d hr hot hz hpin e0 hb hv h => by
      obtain ⟨_, F, r, L, as, ra, R, po⟩ := h
      exact po.elim⟩⟩
  | n + 1, f, fi, hf, fd, T => by
    have IH := fn_run Pg htop n
    obtain ⟨qual, params, body, scope, dvs, nn, FD, Sc, hp, hd, hc, hch⟩ := T.ex
    refine ⟨fun hcold => FD.ok Sc (fun vs H Q E h => h.1) fun cdv A outer s H vs Q E hr h => ?_, fun hhot => fn_hot FD Sc (fun a c d vs H Q E h => h.1) fun cdv A outer s H vs Q E p c d hot hz hr h => ?_⟩
    · obtain ⟨hl, F, r, L, as, ra, R, po⟩ := h
      let X : Cx := cxOf (L2N.CX Pr w) Pr w G.K mg base fi.N qual scope (He.fAd G.K fi.at_) cdv A outer s H E
      let W : WX := fun cls d _ H => E cls d H
      have hu : X.A.units + 64 < cLine := hr.units
      have C : Ck S G (run S n) X scope scope fi.N true W := {
        esc := rfl, eN := rfl, nd := Sc.nd, eK := rfl, ecm := fun _ => rfl, tk := L2N.takes_of rfl rfl rfl rfl, po := passes_of rfl, hu := hu, fo := fun x h => ⟨h, .inl rfl⟩, kd := Sc.kind, bn := Pg.bn, con := Pg.con
        call := fun f' fi' hf' hat hh => by
          obtain ⟨g1, g2⟩ := Pg.glo f' fi' hf' hat
          exact ⟨_, g1, g2, fun X' W' sm tk => call_ok Pg hf' (fun fd T => (IH f' fi' hf' fd T).1 hh) sm.prog sm.w sm.K sm.mg sm.base (by rw [sm.A]; exact hr) tk⟩
        hot := fun _ f' fi' hf' hat hh => by
          obtain ⟨g1, g2⟩ := Pg.glo f' fi' hf' hat
          exact ⟨_, g1, g2, fun X' W' a0 oe c d hx tk => call_okH Pg hf' (fun fd T => (IH f' fi' hf' fd T).2 hh) hx.prog hx.w hx.K hx.mg hx.base (by rw [hx.A]; exact ⟨hr.dp, hr.un⟩) tk (by rw [hx.A]; rfl) hx.pin hx.zn hx.fl⟩
        rm := fun _ => hr.mono (by omega), cpx := fun _ => Pg.px, px := .inr fun a c d e => by rw [Pg.px] at e; cases e
        fr := fun _ => ⟨rfl, rfl⟩, xc := fun _ => Pg.xc w base, ex := Pg.ex, hc := fun z => by cases z }
      exact ⟨_, chk_ok nn S scope scope fi.N true (.ss body fi.body) (hc hcold) G X W C, run_body hf hl ra R po⟩
    · obtain ⟨hl, F, r, L, as, ra, R, po⟩ := h
      let G2 : Gm := G.at (some (p.1, c, d))
      let X : Cx := cxH (L2N.CX Pr w) Pr w G.K mg base fi.N qual scope (He.fAd G.K fi.at_) cdv A outer s H E p
      let W : WX := fun cls d _ H => E cls d H
      have hu : X.A.units + 64 < cLine := by have := hr.un; show (A.deeper _).units + 64 < cLine; omega
      obtain ⟨hA, vsf, hvf, hv2⟩ := hot
      have C : Ck S G2 (run S n) X scope scope fi.N false W := {
        esc := rfl, eN := rfl, nd := Sc.nd, eK := rfl, ecm := fun z => by cases z
        tk := L2N.takes_of rfl rfl rfl rfl, po := passes_of rfl, hu := hu, fo := fun x h => ⟨h, .inl rfl⟩, kd := Sc.kind, bn := Pg.bn
        con := fun k x p h => by
          obtain ⟨v, u, h1, h2, h3⟩ := Pg.con k x p h
          exact ⟨v, u, h1, h2, fun F => (h3 F).px⟩
        call := fun f' fi' hf' hat hh => by
          have hh : fi'.hot = true := hh
          obtain ⟨g1, g2⟩ := Pg.glo f' fi' hf' hat
          exact ⟨_, g1, g2, fun X' W' sm tk => call_okH Pg hf' (fun fd T => (IH f' fi' hf' fd T).2 hh) sm.prog sm.w sm.K sm.mg sm.base (by rw [sm.A]; exact hr) tk (by rw [sm.A]; exact hA) (by rw [sm.pn rfl]; exact List.mem_cons_self) hz ⟨_, hvf⟩⟩
        hot := fun z => by cases z
        rm := fun z => by cases z
        cpx := fun z => by cases z
        px := .inr fun a c d e => by cases e; exact ⟨p.2, List.mem_cons_self, hz, _, hvf⟩
        fr := fun _ => ⟨rfl, rfl⟩
        xc := fun z => by cases z
        ex := Pg.ex
        hc := fun _ _ => ⟨p, ⟨hA, vsf, hvf, hv2⟩, List.mem_cons_self⟩ }
      exact ⟨_, chk_ok nn S scope scope fi.N false (.ss body fi.body) (hch hhot) G2 X W C, run_body hf hl ra R po⟩
end
end Fk

set_option Elab.async false
set_option linter.all false
set_option autoImplicit false
set_option maxRecDepth 100000
set_option maxHeartbeats 2000000
/-! Fk X: the exception classes, by what the written part has of them -/
namespace Fk
open PySem PySem.Spec PyProof.Rows L2 FkS
theorem oexB_ok {K : PySem.W.Frag} {C : Addr} (h : oexB K C = true) : OexC K C := by
  unfold oexB at h
  simp only [Bool.and_eq_true, decide_eq_true_eq] at h
  obtain ⟨⟨⟨⟨h1, h2⟩, h3⟩, h4⟩, h5⟩ := h
  refine ⟨?_, h2, h3, h4, h5⟩
  split at h1
  · rename_i dd cd sl ho
    split at h1
    · rename_i C' bm k0 k1 k2 k3 n k5 hm hs
      simp only [Bool.and_eq_true, beq_iff_eq, Bool.not_eq_true'] at h1
      obtain ⟨⟨⟨⟨rfl, rfl⟩, hdel⟩, hdct⟩, hbm⟩ := h1
      obtain ⟨nm, bs, mro, ns, qn, hd, sn, sub, ab, col, del⟩ := cd
      dsimp only at hm hdel hdct
      subst hm hdel hdct
      obtain ⟨l⟩ := sl
      have hs : l = [k0, k1, k2, k3, some (.builtin "ValueError.__new__"), k5] := hs
      subst hs
      exact ⟨nm, qn, ns, bs, bm, sn, sub, ab, col, dd, k0, k1, k2, k3, k5, ho, hbm⟩
    · cases h1
  · cases h1
theorem pV_ok {G : Gm} {F : Hp} : ∀ {ps : List P}, ps.all flatD = true → RPs G F ps (ps.map pV)
  | [], _ => .nil
  | p :: ps, h => by
    rw [List.all_cons, Bool.and_eq_true] at h
    refine .cons ?_ (pV_ok h.2)
    cases p <;> first | exact .non | exact .bl _ | exact .int _ | exact .str _ | (simp [flatD] at h)
/-- what is said of such a class, put together -/
theorem xcB_ok {Pr : Program} {K : PySem.W.Frag} {xi : XcI} (h : xcB Pr K xi = true) : ∃ (fd : FuncData) (qual : Str) (params : Arguments) (body : List Stmt) (sc : Scope), SupC Pr K (He.ga K xi.nm) (He.ma K (He.ga K xi.nm) "__init__") qual params body sc (xi.dfl.map pV) fd ∧ fd.params = params ∧
    PySem.W.nsIn K mainGlobals "super" = some none ∧ PySem.W.nsIn K mainGlobals xi.nm = some (some (.ref (He.ga K xi.nm))) ∧ PySem.W.findIn K (.ref (He.ga K xi.nm)) "__init__" = some (some (.ref (He.ma K (He.ga K xi.nm) "__init__"))) ∧
    PySem.W.typeIn K (.ref (He.ma K (He.ga K xi.nm) "__init__")) = some (.type "function") ∧ xi.dfl.all flatD = true ∧ (xi.dfl.length = 1 ∨ xi.kd ≠ .plain) ∧ xi.dfl.length ≤ 1 ∧ xi.ps.length = 2 ∧ DflV K fd.defaults (xi.dfl.map pV) ∧ parB params xi.ps = true ∧ ScS xi.N xi.ps sc ∧ bodyB xi.kd xi.ps body = true := by
  unfold xcB at h
  simp only [Bool.and_eq_true, decide_eq_true_eq, Bool.not_eq_true'] at h
  obtain ⟨⟨⟨⟨⟨⟨⟨⟨⟨⟨⟨⟨⟨⟨h1, h2⟩, h3⟩, h4⟩, h5⟩, h6⟩, h7⟩, h8⟩, h9⟩, h10⟩, h11⟩, h12⟩, h12b⟩, h13⟩, h14⟩ := h
  split at h14
  · rename_i oc od fd osl hlk
    split at h14
    · rename_i body cn cc cda hb hcl hcode
      simp only [Bool.and_eq_true, decide_eq_true_eq] at h14
      obtain ⟨⟨⟨⟨⟨⟨⟨⟨⟨⟨g1, g2⟩, g3⟩, g4⟩, g5⟩, g6⟩, g7⟩, g8⟩, g9⟩, g10⟩, g11⟩ := h14
      split at g10
      · rename_i ocl odd vs csl hC
        split at g10
        · rename_i file tf hvs
          split at g11
          · rename_i c1 c2 C2 c3 hcc
            have g11 := of_decide_eq_true g11
            subst g11
            subst g4
            obtain ⟨n1, n2, n3, n4, n5, n6, n7, n8, n9, n10, n11, n12, n13, n14, n15⟩ := fd
            dsimp only at hb hcl hcode g1 g2 g3 g5 g6 g7 g8
            subst hb hcl hcode g1 g2 g3
            exact ⟨_, n2, n3, body, n5, ⟨oexB_ok h1, h2, h3, h4, h5, h6, oc, od, n8, n9, n10, n11, n12, cda, cc, n14, osl, ocl, odd, csl, vs, file, tf, c1, c2, c3, rfl, hlk, g5, He.dflB_ok g6, hC, hvs, g10, hcc⟩, rfl, h7, h8, h9, h10, h11, h12, h12b, h13, He.dflB_ok g6, g7, scS_ok g8, g9⟩
          · cases g11
        · cases g10
      · cases g10
    · cases h14
  · cases h14

/-- what a plain one's __init__ does -/
def spA (C : Addr) : Sp := fun vs H Q _ => vs.length = 2 ∧ ∃ (a : Addr) (v : V), vs = [.ref a, v] ∧ H a = some (exo a C none) ∧ Q .non H
theorem init_plain {Pr : Program} {w : World} {K : PySem.W.Frag} {mg : Str → Option Value} {base : Heap} {CX : CXT} {C f : Addr} {qual : Str} {params : Arguments} {body : List Stmt} {sc : Scope} {dvs : List V} {fd : FuncData} {N ps : List Str} (T : SupC Pr K C f qual params body sc dvs fd) (gS : mg "super" = none) (S : ScS N ps sc)
    (hp : parB params ps = true) (hl : ps.length = 2) (hb : bodyB .plain ps body = true) : FnOk Pr w K mg base CX 1 f fd ps (spA C) := by
  unfold bodyB at hb
  split at hb
  · simp only [Bool.and_eq_true, decide_eq_true_eq, bne_iff_ne, ne_eq] at hb
    rename_i s _ _ i pa m _ pc _
    obtain ⟨⟨⟨⟨⟨h1, h2⟩, h3⟩, h4⟩, h5⟩, h6⟩ := hb
    subst h1 h2
    unfold parB at hp
    simp only [Bool.and_eq_true, decide_eq_true_eq, List.isEmpty_iff, Option.isNone_iff_eq_none] at hp
    obtain ⟨⟨⟨⟨⟨hp1, hp2⟩, hp3⟩, hp4⟩, hp5⟩, nd⟩ := hp
    refine fn_init (k := 0) T gS S ?_ h4 (fun _ => rfl) (fun _ => rfl) (fun _ => rfl) (fun vs H Q E h => h.1.trans hl.symm) fun cdv cc A outer s H vs Q E hr h => ?_
    · cases e : params.args with
      | nil => rw [e] at hp2; rw [← hp2] at hl; simp at hl
      | cons ar rest =>
        refine ⟨ar, by rw [hp1]; rfl, ?_⟩
        rw [e] at hp2
        rw [← hp2]; rfl
    · obtain ⟨_, a, v, rfl, ha, hq⟩ := h
      have hN : N[1]? = some m := by
        have := S.pre
        rw [← h3, ← this, List.getElem?_take_of_lt (by rw [hl]; omega)]
      refine ⟨tVar 1, tNext, fun σ H Q Q' w ⟨v, e, q⟩ => ⟨v, e, w v H q⟩, pe_var hN (.inl (S.par m (List.mem_of_getElem? h3))) (by simpa using h5) (by simpa using h6), pss_nil, a, rfl, ha, v, rfl, ha, hq⟩
  · cases hb
theorem xcs_ok {S : Stc} {G : Gm} {Pr : Program} {w : World} {mg : Str → Option Value} {base hp : Heap} (X0 : G.K.In hp) (N0 : hp.Ns mainGlobals mg) (hca : ∀ xi ∈ S.xcs, G.ca xi.cl = He.ga G.K xi.nm) (h : ∀ xi ∈ S.xcs, xcB Pr G.K xi = true) : Xcs S G Pr w mg base := by
  intro xi hxi X e1 e2 e3 e4 e5 hr es ta p pos ha hg hdb hst hnil
  obtain ⟨fd, qual, params, body, sc, T, hpar, gS, gN, iC, tI, hfl, hd1, hd2, hl, hD, hp, Sc, hb⟩ := xcB_ok (h xi hxi)
  subst e1 e2 e4 e5
  have ca := hca xi hxi
  cases hk : xi.kd with
  | plain =>
    rw [hk] at hb
    have F1 := init_plain (w := X.w) (base := X.base) (CX := L2N.CX X.prog X.w) T (PySem.W.mg_none_of X0 N0 gS) Sc hp hl hb
    have hm : X.mg xi.nm = some (.ref (He.ga G.K xi.nm)) := PySem.W.mg_of X0 N0 gN
    have core : ∀ {pins : List (Addr × Obj)} {σ : L2.St} {H1 : Hp} {s1 : Shared} {vs : List V} {us : List Value} {Q : XK}, Inv X pins σ H1 s1 → Vals vs us → (∃ (F : Hp) (r : Rho) (L : Hl) (xs : List Sl) (fs : Flds), rA G F r xs vs ∧ Rel G F r H1 L ∧ xcD xi.kd xs = some fs ∧
        ∀ (F' : Hp) (r' : Rho) (H' : Hp) (d : Option Addr), Same F F' → Pre r r' → Rel G F' r' H' L → RX G F' fs d → Q (.ref (G.ca xi.cl)) d H') → wpAny (model X.prog X.w) X.A (call (.ref (He.ga G.K xi.nm)) us) (L2N.MkP X pins σ Q) X.xe s1 := by
      intro pins σ H1 s1 vs us Q I1 r1 q
      obtain ⟨F, r, L, xs, fs, ra, R, hx, hQ⟩ := q
      rw [hk] at hx
      have lx : xs.length = vs.length := by have := ra.len; simpa using this
      have hfs : fs = [] ∧ xs.length ≤ 1 := by
        unfold xcD at hx
        split at hx <;> first | (cases hx; done) | skip
        all_goals first | (rename_i z; cases z; done) | skip
        all_goals first | (cases hx; exact ⟨rfl, by simp⟩)
      obtain ⟨rfl, hxl⟩ := hfs
      have hdl : xi.dfl.length = 1 := hd1.resolve_right fun z => z hk
      have hdl2 : (xi.dfl.map pV).length = 1 := by rw [List.length_map]; exact hdl
      obtain ⟨ds, vd, bd⟩ := bindsG (ps := xi.ps) hD (by rw [hpar]; exact hp) (1 + vs.length) (by omega) (by omega) (by omega)
      rw [← e3] at F1 bd T iC tI
      rw [← e3]
      refine mk_core T.T iC tI F1 (hr.mono (by omega)) bd vd (fun _ _ _ _ _ _ _ c => by obtain ⟨_, _, _, _, _, _, _, _, _, _, _, _, z⟩ := c; exact z.elim) I1 r1 (by omega) fun a hn => ?_
      have len2 : (V.ref a :: (vs ++ (xi.dfl.map pV).drop (1 + vs.length + (xi.dfl.map pV).length - xi.ps.length))).length = 2 := by
        rw [List.length_cons, List.length_append, List.length_drop, hdl2, hl]; omega
      refine ⟨len2, a, ?_⟩
      have tl : (vs ++ (xi.dfl.map pV).drop (1 + vs.length + (xi.dfl.map pV).length - xi.ps.length)).length = 1 := by
        rw [List.length_cons] at len2; omega
      obtain ⟨v, hv⟩ := List.length_eq_one_iff.mp tl
      refine ⟨v, by rw [hv], upd_same, rfl, .inl ⟨upd_same, ?_⟩⟩
      have ed : del (upd H1 a (exo a (He.ga X.K xi.nm) none)) a = H1 := funext fun b => by
        by_cases hba : b = a
        · rw [hba, del_same, hn]
        · rw [del_ne hba, upd_ne hba]
      rw [ed, e3, ← ca]
      exact hQ F r H1 none (Same.refl _) (Pre.refl _) R .nil
    intro pins s σ H Q I h
    refine wpAny_Call_Name_kw (ld_glob I hg hm ?_ hdb)
    have kC : PySem.W.keepIn X.K (.ref (He.ga G.K xi.nm)) = true := by rw [e3]; exact T.T.kC
    rcases hst with rfl | ⟨e, er, rfl, he, hpl⟩
    · exact PySem.W.callWith_K0 I.kIn kC (core I .nil (hnil rfl σ H _ h))
    · exact PySem.W.callWith_K (h₀ := X.base) I.ok.mod.kin kC (thn (ha.run pos pins s σ H _ I h) fun us s1 ⟨vs, H1, I1, r1, q⟩ => ⟨I1.kIn, core I1 r1 q⟩) he hpl
  | intf f => rw [hk] at hb; unfold bodyB at hb; split at hb <;> cases hb
  | shown f => rw [hk] at hb; unfold bodyB at hb; split at hb <;> cases hb
  | share f => rw [hk] at hb; unfold bodyB at hb; split at hb <;> cases hb
end Fk

set_option Elab.async false
set_option linter.all false
set_option autoImplicit false
set_option maxRecDepth 100000
set_option maxHeartbeats 2000000
/-! Fk 15: from the head's facts to the plain language's run of the law -/
namespace Fk
open PySem PySem.Spec PyProof.Rows L2
def dvB : He.Dv → P → Bool
  | .non, .non => true
  | .bl a, .bl b => a == b
  | .int a, .int b => decide (a = b)
  | .str a, .str b => decide (a = b)
  | _, _ => false
theorem dv_ok {K : PySem.W.Frag} {G : Gm} {F : Hp} {d : He.Dv} {p : P} (h : dvB d p = true) : RP G F p (d.v K) := by
  cases d <;> cases p <;> simp only [dvB, Bool.false_eq_true] at h
  · exact .non
  · have := eq_of_beq h; subst this; exact .bl _
  · have := of_decide_eq_true h; subst this; exact .int _
  · have := of_decide_eq_true h; subst this; exact .str _
def dvsB : List He.Dv → List P → Bool
  | [], [] => true
  | d :: ds, p :: ps => dvB d p && dvsB ds ps
  | _, _ => false
theorem dvs_ok {K : PySem.W.Frag} {G : Gm} {F : Hp} : ∀ {ds : List He.Dv} {ps : List P}, dvsB ds ps = true → RPs G F ps (ds.map (He.Dv.v K))
  | [], [], _ => .nil
  | [], _ :: _, h => by simp [dvsB] at h
  | _ :: _, [], h => by simp [dvsB] at h
  | d :: ds, p :: ps, h => by
    simp only [dvsB, Bool.and_eq_true] at h
    exact .cons (dv_ok h.1) (dvs_ok h.2)
/-- a table's def stands for a def of the text -/
def fnB (S : Stc) (n : Nat) (fi : FnI) (d : He.DefD) : Bool := decide (d.at_ = fi.at_) && decide (d.name = (match fi.at_.2 with | some m => m | none => fi.at_.1)) && d.kwd.isEmpty && C8.scC fi.N fi.ps d.scope && parB d.params fi.ps && dvsB d.dfl fi.dfl &&
  (!fi.cold || chk n S d.scope d.scope fi.N true (.ss d.body fi.body)) && (!fi.hot || chk n S d.scope d.scope fi.N false (.ss d.body fi.body))
theorem fn_ok {S : Stc} {n : Nat} {fi : FnI} {d : He.DefD} (h : fnB S n fi d = true) {G : Gm} (q : ∃ fd, FunD G.K d.name d.qual d.params d.body d.scope (d.dvs G.K) (d.kws G.K) (He.fAd G.K d.at_) fd) : ∃ fd, FnT S G fi fd := by
  unfold fnB at h
  simp only [Bool.and_eq_true, decide_eq_true_eq, List.isEmpty_iff] at h
  obtain ⟨⟨⟨⟨⟨⟨⟨h1, h2⟩, h3⟩, h4⟩, h5⟩, h6⟩, h7⟩, h8⟩ := h
  obtain ⟨fd, F⟩ := q
  refine ⟨fd, d.qual, d.params, d.body, d.scope, d.dvs G.K, n, ?_, C8.fnScope_by h4, h5, fun F => dvs_ok h6, fun z => by simpa [z] using h7, fun z => by simpa [z] using h8⟩
  have e2 : (match fi.at_.2 with | some m => m | none => fi.at_.1) = d.name := h2.symm
  show FunD G.K (match fi.at_.2 with | some m => m | none => fi.at_.1) _ _ _ _ _ _ _ _
  refine Eq.mpr (congrArg (fun z => FunD G.K z d.qual d.params d.body d.scope (d.dvs G.K) [] (He.fAd G.K fi.at_) fd) e2) ?_
  rw [← h1]
  have : d.kws G.K = [] := by unfold He.DefD.kws; rw [h3]; rfl
  rw [this] at F
  exact F
/-- every def of the tables is one of the text's -/
def fnsB (S : Stc) (n : Nat) (fn : List He.DefD) : Bool := S.fns.all fun fi => fn.any fun d => decide (d.at_ = fi.at_) && fnB S n fi d
def conB (S : Stc) : Str × P → Bool
  | (_, .int _) => true
  | (_, .str _) => true
  | (x, .cls c) => decide (S.cls[c]? = some x)
  | _ => false
def gloFa (fi : FnI) : List He.Fa := match fi.at_.2 with
  | none => [.glo fi.at_.1, .keep fi.at_.1]
  | some _ => []
/-- what is asked of the head -/
def faOf (S : Stc) (more : List He.Fa) : List He.Fa := S.bn.map He.Fa.free ++ (S.cn.flatMap conFa ++ (S.fns.flatMap gloFa ++ more))
def gmOf (S : Stc) (K : PySem.W.Frag) : Gm := ⟨K, fun c => He.ga K ((S.cls[c]?).getD ""), fun i => (S.fld[i]?).getD "", none⟩
theorem excB_ok {K : PySem.W.Frag} {C : Addr} (h : excB K C = true) : ExcC K C := by
  unfold excB at h
  simp only [Bool.and_eq_true, decide_eq_true_eq] at h
  obtain ⟨⟨⟨⟨⟨⟨⟨h1, h2⟩, h3⟩, h4⟩, h5⟩, h6⟩, h7⟩, h8⟩ := h
  exact ⟨h1, h2, h3, h4, h5, h6, h7, h8⟩
/-- all that is asked beside the names and defs -/
def exB (Pr : Program) (S : Stc) (K : PySem.W.Frag) : Bool := exC Pr S.xcs S.exm S.cls K
theorem exf_ok {S : Stc} {K : PySem.W.Frag} (h1 : S.exm.all (exmB K (gmOf S K).ca) = true) (h2 : ((S.exm.map (·.1)).eraseDups.all fun c => excB K ((gmOf S K).ca c)) = true) : ExF S (gmOf S K).K (gmOf S K).ca := by
  have at_ : ∀ q ∈ S.exm, exmB K (gmOf S K).ca q = true := fun q hq => List.all_eq_true.mp h1 q hq
  refine ⟨fun c0 c b h => ?_, fun c0 b h => ?_, fun c0 o b h => ?_⟩
  · have := at_ _ h
    simp only [exmB, Bool.and_eq_true, decide_eq_true_eq] at this
    exact this
  · have := at_ _ h
    simp only [exmB, decide_eq_true_eq] at this
    exact this
  · exact excB_ok (List.all_eq_true.mp h2 c0 (List.mem_eraseDups.mpr (List.mem_map_of_mem (f := (·.1)) h)))
def xcsB (S : Stc) : Bool := S.xcs.all fun xi => decide (S.cls[xi.cl]? = some xi.nm)
def stcB (S : Stc) (n : Nat) (fn : List He.DefD) : Bool := fnsB S n fn && S.cn.all (conB S) && xcsB S && S.top
theorem prg_ok {S : Stc} {n : Nat} {fn : List He.DefD} {more : List He.Fa} (h : stcB S n fn = true) {K : PySem.W.Frag} {hp : Heap} {mg : Str → Option Value} {Pr : Program} (X : K.In hp) (N : hp.Ns mainGlobals mg) (c : He.SaysD (faOf S more) fn K) (hex : exB Pr S K = true) : Prg S (gmOf S K) mg Pr := by
  unfold stcB at h
  simp only [Bool.and_eq_true] at h
  obtain ⟨⟨⟨h1, h2⟩, h3⟩, h4⟩ := h
  unfold exB exC at hex
  simp only [Bool.and_eq_true] at hex
  obtain ⟨x1, x2, x3⟩ := hex
  refine ⟨rfl, exf_ok x2 x3, fun w base => xcs_ok (hp := hp) X N (fun xi hxi => ?_) (fun xi hxi => List.all_eq_true.mp x1 xi hxi), fun x hx => ?_, fun k x p hk => ?_, fun f fi hf => ?_, fun f fi hf hat => ?_⟩
  · have := of_decide_eq_true (List.all_eq_true.mp h3 xi hxi)
    show He.ga K ((S.cls[xi.cl]?).getD "") = _
    rw [this]; rfl
  · refine He.free_ok X N (c.facts (f := .free x) ?_)
    exact List.mem_append.mpr (.inl (List.mem_map_of_mem hx))
  · have hm := List.mem_of_getElem? hk
    have hb := List.all_eq_true.mp h2 _ hm
    have at_ : ∀ f, f ∈ conFa (x, p) → f ∈ faOf S more := fun f hf => List.mem_append.mpr (.inr (List.mem_append.mpr (.inl (List.mem_flatMap.mpr ⟨_, hm, hf⟩))))
    cases p with
    | int i =>
      obtain ⟨t, e⟩ := He.int_ok X N (c.facts (at_ (.int x i) (by simp [conFa])))
      exact ⟨.int i, _, e, ⟨t, rfl⟩, fun F => .int i⟩
    | str z =>
      obtain ⟨t, e⟩ := He.str_ok X N (c.facts (at_ (.str x z) (by simp [conFa])))
      exact ⟨.str z, _, e, ⟨t, rfl⟩, fun F => .str z⟩
    | cls k =>
      have e := He.glo_ok X N (c.facts (at_ (.glo x) (by simp [conFa])))
      have hk : S.cls[k]? = some x := of_decide_eq_true hb
      refine ⟨.ref (He.ga K x), _, e, rfl, fun F => ?_⟩
      have : (gmOf S K).ca k = He.ga K x := by unfold gmOf; dsimp only; rw [hk]; rfl
      rw [← this]
      exact .cls k
    | _ => simp [conB] at hb
  · have hm := List.mem_of_getElem? hf
    have hb := List.all_eq_true.mp h1 _ hm
    obtain ⟨d, hd, hb⟩ := List.any_eq_true.mp hb
    rw [Bool.and_eq_true] at hb
    exact fn_ok (G := gmOf S K) hb.2 (c.defs hd)
  · have hm := List.mem_of_getElem? hf
    have e1 : gloFa fi = [.glo fi.nm, .keep fi.nm] := by unfold gloFa; rw [hat]
    have at_ : ∀ f, f ∈ gloFa fi → f ∈ faOf S more := fun f hf => List.mem_append.mpr (.inr (List.mem_append.mpr (.inr (List.mem_append.mpr (.inl (List.mem_flatMap.mpr ⟨_, hm, hf⟩))))))
    have ea : He.fAd (gmOf S K).K fi.at_ = He.ga K fi.nm := by rw [hat]; rfl
    rw [ea]
    exact ⟨He.glo_ok X N (c.facts (at_ _ (by rw [e1]; simp))), He.keep_ok (c.facts (at_ (.keep fi.nm) (by rw [e1]; simp)))⟩
theorem ints_ok {G : Gm} {F : Hp} : ∀ ns : List Int, RPs G F (ns.map P.int) (ns.map V.int)
  | [] => .nil
  | n :: ns => .cons (.int n) (ints_ok ns)
/-- THE END: the law by its plain run -/
theorem walk_run {S : Stc} {nn k fl : Nat} {fi : FnI} {fn : List He.DefD} {more : List He.Fa} {n : Nat} {l : PySem.W.OpenLaw} {q : Program} {loose : List Str} {XP : (Str → Option Value) → Heap → Prop} {d : DefRec} {hx : Nat}
    (hn : l.most = some n) (hn2 : n ≤ sizeLine) (hdf : d.params.defaults = []) (hr : Room (k + 4) callerA) (hS : stcB S nn fn = true) (hf : S.fns[fl]? = some fi) (hat : fi.at_ = (fi.nm, none)) (hdn : d.name = fi.nm) (hps : fi.ps.length = 1) (hdfl : fi.dfl = []) (hcold : fi.cold = true)
    (run_ok : ∀ ns : List Int, ns.length ≤ n → (∀ k ∈ ns, Builtin.Int.intBits k ≤ 1048576) → ∃ L, run S k fl [.v (.p (.rol (ns.map P.int)))] [] = .ok (.p (.bl true)) L) :
    PySem.W.WalkO q loose XP (hookF hx (faOf S more) fn (exB l.prog S)).says l.row.toRowW d [] (fun f vs => PySem.call f vs) := by
  refine Att.attach_callB hn hdf fun w s₀ s₁ mg mb fa o pm cd doc a vs ns Gr Y ho hd hcd hmg hobj hints hlen hbits hg => ?_
  obtain ⟨K, KX, c, hex⟩ := Y
  have Pg := prg_ok hS KX Gr.T.g c hex
  have htop : S.top = true := by
    unfold stcB at hS
    simp only [Bool.and_eq_true] at hS
    exact hS.2
  obtain ⟨fd, T⟩ := Pg.fn fl fi hf
  obtain ⟨g1, g2⟩ := Pg.glo fl fi hf hat
  rw [hdn] at hmg
  have e : fa = He.fAd K fi.at_ := by
    have := hmg.symm.trans g1
    cases this; rfl
  subst e
  obtain ⟨x, hx⟩ := List.length_eq_one_iff.mp hps
  have hb : ∀ (s : Shared) (u : Value), BindsTo s fd ⟨[u], []⟩ [(x, u)] := fun s u => by
    obtain ⟨qual, params, body, scope, dvs, nn, FD, Sc, hp, hd, hc, hch⟩ := T.ex
    have hdv : dvs = [] := by
      have := (hd fun _ => none).len
      rw [hdfl] at this
      exact List.eq_nil_of_length_eq_zero this.symm
    subst hdv
    obtain ⟨oc, od, dV, kV, doc, pm, an, cdv, ct, osl, rfl, lk, hcd, hD, hK⟩ := FD.ex
    rcases hD with ⟨_, rfl⟩ | ⟨e, _⟩
    · unfold parB at hp
      simp only [Bool.and_eq_true, decide_eq_true_eq, List.isEmpty_iff, Option.isNone_iff_eq_none] at hp
      obtain ⟨⟨⟨⟨⟨h1, h2⟩, h3⟩, h4⟩, h5⟩, nd⟩ := hp
      obtain ⟨k, e1, e2⟩ := bind_pl (fd := PySem.W.fnOf _ qual params body scope .none kV doc pm an cdv ct) (us := [u]) h1 h2 h3 h4 h5 nd (by rw [hps]; simp)
      have := e2 [] (by simp) (by rw [hps]; simp) none rfl
      refine .of_eq ?_
      rw [e1]
      show ((do notAStandIn Value.none; pure none : Sem (Option (Array Value))) >>= k) = _
      have q : (do notAStandIn Value.none; pure none : Sem (Option (Array Value))) = pure none := by first | rfl | (show (pure () >>= fun _ => pure none : Sem (Option (Array Value))) = _; rw [pure_bind])
      rw [q, pure_bind, this, hx]
      rfl
    · exact absurd rfl e
  obtain ⟨L, hrun⟩ := run_ok ns hlen hbits
  refine law_call (CX := L2N.CX l.prog w) (sp := spF (gmOf S K) 1 (run S k fl)) KX Gr.T.g Gr.T.b Gr.T.builtins Gr.T.nolimit hg hobj hints (Nat.le_trans hlen hn2) hr (fun base _ _ => ?_) hb (fun H _ hS => ?_) fun H e s' z => ?_
  · have := (fn_run (w := w) (base := base) Pg htop k fl fi hf fd T).1 hcold
    rw [hps] at this
    rw [hx] at this
    exact this
  · refine ⟨rfl, H, [], [], [.v (.p (.rol (ns.map P.int)))], .cons (.v (.p (.rol hS (ints_ok ns)))) .nil, ⟨Same.refl _, rfl, fun n o h => by simp at h, fun n m o o' a h => by simp at h⟩, ?_⟩
    rw [hrun]
    intro F' r' H' v _ _ _ rd
    cases rd with
    | p h => cases h; rfl
  · obtain ⟨_, _, _, _, _, _, _, _, _, _, _, _, z⟩ := z
    exact z
end Fk

set_option Elab.async false
set_option linter.all false
set_option autoImplicit false
set_option maxRecDepth 100000
set_option maxHeartbeats 0
namespace Lw
open PySem PySem.Spec PyProof.Rows L2 Fk
def b0 : I := (.seq (.asg (.gn 1) (.call 1 (.cons (.var 0) .nil))) (.seq (.asg (.gn 2) (.call 2 (.cons (.var 1) .nil))) (.seq (.if_ (.tor (.tnot (.tval (.call 20 (.cons (.var 2) .nil)))) (.tnot (.tval (.call 25 (.cons (.var 2) .nil))))) (.seq (.ret (.lit (.bl false))) .pass) .pass) (.seq (.if_ (.tor (.tnot (.tval (.call 20 (.cons (.call 28 (.cons (.var 2) .nil)) .nil)))) (.tnot (.tval (.call 26 (.cons (.call 28 (.cons (.var 2) .nil)) .nil))))) (.seq (.ret (.lit (.bl false))) .pass) .pass) (.seq (.if_ (.tnot (.tval (.call 5 (.cons (.var 1) (.cons (.call 22 (.cons (.var 1) (.cons (.var 2) .nil))) (.cons (.lrng false (.cons (.bi .len (.cons (.var 2) .nil)) .nil)) (.cons (.var 2) .nil))))))) (.seq (.ret (.lit (.bl false))) .pass) .pass) (.seq (.asg (.gn 3) (.call 4 (.cons (.var 1) .nil))) (.seq (.ret (.andv (.call 20 (.cons (.var 3) .nil)) (.call 21 (.cons (.var 1) (.cons (.var 3) .nil))))) .pass)))))))
def b1_0 : I := (.seq (.asg (.gn 1) (.op .mod (.bi .int (.cons (.op (.add false) (.op (.add false) (.op (.mul false) (.var 1) (.lit (.int 48271))) (.op .mod (.bi .int (.cons (.var 3) .nil)) (.lit (.int 2147483629)))) (.lit (.int 7))) .nil)) (.lit (.int 2147483647)))) (.seq (.if_ (.tand (.tval (.op .eq (.var 2) (.lit (.int 0)))) (.tval (.op .ge (.var 3) (.op .pow (.lit (.int 10)) (.lit (.int 18)))))) (.seq (.asg (.gn 2) (.op .sub (.var 3) (.op .pow (.lit (.int 10)) (.lit (.int 18))))) .pass) .pass) .pass))
def b1 : I := (.seq (.asg (.gn 1) (.lit (.int 12945))) (.seq (.asg (.gn 2) (.lit (.int 0))) (.seq (.for_ (.gn 3) (.its .seq (.cons (.var 0) .nil)) b1_0) (.seq (.ret (.lst true (.cons (.var 2) (.cons (.var 1) (.cons (.lit (.int 0)) .nil))))) .pass))))
def b2_0 : I := (.seq (.asg (.gn 4) (.bi .min (.cons (.lit (.int 6)) (.cons (.var 2) .nil)))) (.seq (.if_ (.tval (.op .eq (.call 3 (.cons (.var 0) (.cons (.lit (.int 6)) .nil))) (.lit (.int 0)))) (.seq (.asg (.gn 4) (.var 2)) .pass) .pass) (.seq (.asg (.gn 5) (.op (.add false) (.lit (.int 1)) (.call 3 (.cons (.var 0) (.cons (.var 4) .nil))))) (.seq (.expr (.me .append (.var 1) (.cons (.var 5) .nil))) (.seq (.asg (.gn 2) (.op .fdiv (.var 2) (.var 5))) .pass)))))
def b2 : I := (.seq (.asg (.gn 1) (.lst true .nil)) (.seq (.asg (.gn 2) (.lit (.int 240))) (.seq (.for_ (.gn 3) (.its .range (.cons (.call 3 (.cons (.var 0) (.cons (.lit (.int 7)) .nil))) .nil)) b2_0) (.seq (.frz 1) (.seq (.ret (.var 1)) .pass)))))
def b3 : I := (.seq (.if_ (.tval (.op .gt (.ix (.var 0) (.lit (.int 0))) (.lit (.int 0)))) (.seq (.asg (.gn 2) (.op .mod (.bi .int (.cons (.ix (.var 0) (.lit (.int 0))) .nil)) (.var 1))) (.seq (.seti (.var 0) (.lit (.int 0)) (.op .fdiv (.ix (.var 0) (.lit (.int 0))) (.var 1))) (.seq (.ret (.var 2)) .pass))) .pass) (.seq (.seti (.var 0) (.lit (.int 2)) (.op (.add false) (.ix (.var 0) (.lit (.int 2))) (.lit (.int 1)))) (.seq (.seti (.var 0) (.lit (.int 1)) (.op .mod (.bi .int (.cons (.op (.add false) (.op (.add false) (.op (.mul false) (.ix (.var 0) (.lit (.int 1))) (.lit (.int 48271))) (.op (.mul false) (.ix (.var 0) (.lit (.int 2))) (.lit (.int 69621)))) (.lit (.int 7))) .nil)) (.lit (.int 2147483647)))) (.seq (.asg (.gn 3) (.op .mod (.bi .int (.cons (.op (.add false) (.op (.add false) (.op (.mul false) (.op .fdiv (.ix (.var 0) (.lit (.int 1))) (.lit (.int 32))) (.lit (.int 16807))) (.op (.mul false) (.ix (.var 0) (.lit (.int 1))) (.lit (.int 11)))) (.ix (.var 0) (.lit (.int 2)))) .nil)) (.lit (.int 2147483629)))) (.seq (.ret (.op .mod (.bi .int (.cons (.op .fdiv (.var 3) (.lit (.int 8))) .nil)) (.var 1))) .pass)))))
def b4_0 : I := (.seq (.asg (.gn 3) (.call 3 (.cons (.var 0) (.cons (.lit (.int 4)) .nil)))) (.seq (.asg (.gn 4) (.lit (.int 2))) (.seq (.if_ (.tval (.op .eq (.var 3) (.lit (.int 0)))) (.seq (.asg (.gn 4) (.op (.add false) (.lit (.int 1)) (.call 3 (.cons (.var 0) (.cons (.op .pow (.lit (.int 10)) (.lit (.int 9))) .nil))))) .pass) .pass) (.seq (.if_ (.tor (.tval (.op .eq (.var 3) (.lit (.int 1)))) (.tval (.op .eq (.var 3) (.lit (.int 2))))) (.seq (.asg (.gn 4) (.op (.add false) (.lit (.int 1)) (.call 3 (.cons (.var 0) (.cons (.lit (.int 12)) .nil))))) .pass) .pass) (.seq (.expr (.me .append (.var 1) (.cons (.var 4) .nil))) .pass)))))
def b4 : I := (.seq (.asg (.gn 1) (.lst true .nil)) (.seq (.for_ (.gn 2) (.its .range (.cons (.op (.add false) (.lit (.int 1)) (.call 3 (.cons (.var 0) (.cons (.lit (.int 100)) .nil)))) .nil)) b4_0) (.seq (.frz 1) (.seq (.ret (.var 1)) .pass))))
def b5 : I := (.seq (.if_ (.tor (.tnot (.tval (.call 17 (.cons (.var 0) (.cons (.var 1) (.cons (.var 2) (.cons (.var 3) .nil))))))) (.tnot (.tval (.call 18 (.cons (.var 1) (.cons (.var 3) .nil)))))) (.seq (.ret (.lit (.bl false))) .pass) .pass) (.seq (.ret (.andv (.call 6 (.cons (.var 0) (.cons (.var 3) .nil))) (.call 15 (.cons (.var 1) (.cons (.call 19 (.cons (.var 1) (.cons (.var 3) .nil))) (.cons (.var 3) .nil)))))) .pass))
def b6_0 : I := (.seq (.if_ (.tnot (.tval (.call 8 (.cons (.lit (.int 1)) (.cons (.var 5) (.cons (.var 1) .nil)))))) (.seq (.ret (.lit (.bl false))) .pass) .pass) .pass)
def b6 : I := (.seq (.asg (.gn 2) (.call 7 (.cons (.var 1) .nil))) (.seq (.asg (.gn 3) (.call 3 (.cons (.var 0) (.cons (.op .pow (.lit (.int 10)) (.lit (.int 9))) .nil)))) (.seq (.asg (.gn 4) (.lst false (.cons (.neg (.lit (.int 1))) (.cons (.neg (.lit (.int 2))) (.cons (.op .sub (.neg (.lit (.int 1))) (.var 3)) (.cons (.neg (.var 2)) (.cons (.op .sub (.neg (.var 2)) (.lit (.int 1))) (.cons (.var 2) (.cons (.op (.add false) (.var 2) (.lit (.int 1))) (.cons (.op (.add false) (.var 2) (.var 3)) (.cons (.op (.mul false) (.var 2) (.lit (.int 2))) .nil))))))))))) (.seq (.for_ (.gn 5) (.its .seq (.cons (.op (.add false) (.var 4) (.lst false (.cons (.op (.mul false) (.var 2) (.op (.add false) (.var 3) (.lit (.int 1)))) .nil))) .nil)) b6_0) (.seq (.ret (.lit (.bl true))) .pass)))))
def b7_0 : I := (.seq (.asg (.gn 1) (.op (.mul false) (.var 1) (.var 2))) .pass)
def b7 : I := (.seq (.asg (.gn 1) (.lit (.int 1))) (.seq (.for_ (.gn 2) (.its .seq (.cons (.var 0) .nil)) b7_0) (.seq (.ret (.var 1)) .pass)))
def b8 : I := (.seq (.asg (.gn 3) (.bi (.list false) (.cons (.var 2) .nil))) (.seq (.try_ (.seq (.if_ (.tval (.op .eq (.var 0) (.lit (.int 0)))) (.seq (.expr (.call 9 (.cons (.var 1) (.cons (.var 3) .nil)))) .pass) (.seq (.expr (.call 11 (.cons (.var 1) (.cons (.var 3) .nil)))) .pass)) .pass) 0 [(11, true)] 4 (.seq (.if_ (.tor (.tnot (.tval (.exi 4 [(11, true)]))) (.tnot (.tval (.exi 4 [(11, true)])))) (.seq (.ret (.lit (.bl false))) .pass) .pass) (.seq (.ret (.andv (.op .eq (.call 13 (.cons (.exv 4) .nil)) (.lit (.int 1))) (.op .eq (.var 3) (.var 2)))) .pass))) (.seq (.ret (.lit (.bl false))) .pass)))
def b9_0 : I := (.seq (.if_ (.tnot (.tval (.call 10 (.cons (.var 3) (.cons (.var 4) .nil))))) (.seq (.raise 0 11 .plain (.cons (.lit (.str "a mark must be an integer from 0 to the size minus 1")) .nil)) .pass) .pass) (.seq (.asg (.gn 2) (.op (.add false) (.op (.mul false) (.var 2) (.var 4)) (.var 3))) .pass))
def b9 : I := (.seq (.if_ (.tnot (.tval (.isi (.var 0) .tup))) (.seq (.raise 0 11 .plain (.cons (.lit (.str "a state must be a tuple")) .nil)) .pass) .pass) (.seq (.if_ (.tval (.op .ne (.bi .len (.cons (.var 0) .nil)) (.bi .len (.cons (.var 1) .nil)))) (.seq (.raise 0 11 .plain (.cons (.lit (.str "a state must have one mark for each cell")) .nil)) .pass) .pass) (.seq (.asg (.gn 2) (.lit (.int 0))) (.seq (.for_ (.gt (.cons (.gn 3) (.cons (.gn 4) .nil))) (.its .zip (.cons (.var 0) (.cons (.var 1) .nil))) b9_0) (.seq (.ret (.var 2)) .pass)))))
def b10 : I := (.seq (.if_ (.tor (.tnot (.tval (.isi (.var 0) .int))) (.tval (.isi (.var 0) .bool))) (.seq (.ret (.lit (.bl false))) .pass) .pass) (.seq (.ret (.chain .le .lt (.lit (.int 0)) (.var 0) (.var 1))) .pass))
def b11_0 : I := (.seq (.expr (.me .append (.var 2) (.cons (.op .mod (.var 3) (.var 4)) .nil))) (.seq (.asg (.gn 3) (.op .fdiv (.var 3) (.var 4))) .pass))
def b11 : I := (.seq (.if_ (.tnot (.tval (.call 10 (.cons (.var 0) (.cons (.call 12 (.cons (.var 1) .nil)) .nil))))) (.seq (.raise 0 11 .plain (.cons (.lit (.str "there is no state with this number")) .nil)) .pass) .pass) (.seq (.asg (.gn 2) (.lst true .nil)) (.seq (.asg (.gn 3) (.var 0)) (.seq (.for_ (.gn 4) (.its .rev (.cons (.var 1) .nil)) b11_0) (.seq (.frz 2) (.seq (.ret (.trev (.var 2))) .pass))))))
def b12_0 : I := (.seq (.asg (.gn 1) (.op (.mul false) (.var 1) (.var 2))) .pass)
def b12 : I := (.seq (.asg (.gn 1) (.lit (.int 1))) (.seq (.for_ (.gn 2) (.its .seq (.cons (.var 0) .nil)) b12_0) (.seq (.ret (.var 1)) .pass)))
def b13 : I := (.seq (.asg (.gn 1) (.lst false (.cons (.exi 0 [(11, false)]) (.cons (.exi 0 [(11, false)]) (.cons (.exi 0 [(11, false)]) (.cons (.exi 0 [(11, false)]) (.cons (.exi 0 [(11, false)]) (.cons (.exi 0 [(11, false)]) (.cons (.exi 0 [(11, false)]) (.cons (.exi 0 [(11, false)]) (.cons (.exi 0 [(11, false)]) (.cons (.exi 0 [(11, false)]) (.cons (.exi 0 [(11, true)]) (.cons (.exi 0 [(11, false)]) (.cons (.exi 0 [(11, false)]) (.cons (.exi 0 [(11, false)]) (.cons (.exi 0 [(11, false)]) (.cons (.exi 0 [(11, false)]) (.cons (.exi 0 [(11, false)]) (.cons (.exi 0 [(11, false)]) (.cons (.exi 0 [(11, false)]) (.cons (.exi 0 [(11, false)]) (.cons (.exi 0 [(11, false)]) (.cons (.exi 0 [(11, false)]) (.cons (.exi 0 [(11, false)]) (.cons (.exi 0 [(11, false)]) (.cons (.exi 0 [(11, false)]) (.cons (.exi 0 [(11, false)]) (.cons (.exi 0 [(11, false)]) (.cons (.exi 0 [(11, false)]) .nil)))))))))))))))))))))))))))))) (.seq (.ret (.hsum 2 (.var 1))) .pass))
def b14 : I := (.seq (.if_ (.tval (.isi (.var 0) .str)) (.seq (.ret (.bi .repr (.cons (.var 0) .nil))) .pass) .pass) (.seq (.ret (.lit (.str "the value"))) .pass))
def b15_0 : I := (.seq (.if_ (.tor (.tnot (.tval (.call 16 (.cons (.ix (.var 4) (.var 5)) .nil)))) (.tval (.op .ne (.ix (.var 4) (.var 5)) (.ix (.var 0) (.var 5))))) (.seq (.ret (.lit (.bl false))) .pass) .pass) .pass)
def b15 : I := (.seq (.asg (.gn 3) (.bi (.list false) (.cons (.var 2) .nil))) (.seq (.asg (.gn 4) (.call 11 (.cons (.var 1) (.cons (.var 3) .nil)))) (.seq (.if_ (.tor (.tnot (.tval (.isi (.var 4) .tup))) (.tor (.tval (.op .ne (.bi .len (.cons (.var 4) .nil)) (.bi .len (.cons (.var 0) .nil)))) (.tval (.op .ne (.var 3) (.var 2))))) (.seq (.ret (.lit (.bl false))) .pass) .pass) (.seq (.for_ (.gn 5) (.its .range (.cons (.bi .len (.cons (.var 0) .nil)) .nil)) b15_0) (.seq (.asg (.gn 6) (.call 9 (.cons (.var 0) (.cons (.var 3) .nil)))) (.seq (.ret (.andv (.call 16 (.cons (.var 6) .nil)) (.andv (.op .eq (.var 6) (.var 1)) (.op .eq (.var 3) (.var 2))))) .pass))))))
def b16 : I := (.seq (.ret (.andv (.isi (.var 0) .int) (.notv (.isi (.var 0) .bool)))) .pass)
def b17_0 : I := (.seq (.asg (.gn 10) (.op (.add false) (.op (.add false) (.sl false (.var 1) .nil (.cons (.var 5) .nil)) (.tup (.cons (.var 9) .nil))) (.sl false (.var 1) (.cons (.op (.add false) (.var 5) (.lit (.int 1))) .nil) .nil))) (.seq (.if_ (.tnot (.tval (.call 8 (.cons (.lit (.int 0)) (.cons (.var 10) (.cons (.var 3) .nil)))))) (.seq (.ret (.lit (.bl false))) .pass) .pass) .pass))
def b17_1 : I := (.seq (.asg (.gn 6) (.ix (.var 1) (.var 5))) (.seq (.asg (.gn 7) (.ix (.var 3) (.var 5))) (.seq (.asg (.gn 8) (.lst false (.cons (.var 7) (.cons (.op (.add false) (.var 7) (.lit (.int 1))) (.cons (.op (.add false) (.var 7) (.var 4)) (.cons (.neg (.lit (.int 1))) (.cons (.op .sub (.neg (.lit (.int 1))) (.var 4)) (.cons (.op .sub (.var 6) (.var 7)) (.cons (.lit (.bl true)) (.cons (.lit (.bl false)) (.cons (.lit (.non)) .nil))))))))))) (.seq (.for_ (.gn 9) (.its .seq (.cons (.op (.add false) (.var 8) (.lst false (.cons (.bi .str (.cons (.var 6) .nil)) (.cons (.lit (.str "")) (.cons (.tup (.cons (.var 6) .nil)) (.cons (.lst false (.cons (.var 6) .nil)) .nil)))))) .nil)) b17_0) .pass))))
def b17 : I := (.seq (.asg (.gn 4) (.call 3 (.cons (.var 0) (.cons (.op .pow (.lit (.int 10)) (.lit (.int 9))) .nil)))) (.seq (.for_ (.gn 5) (.its .seq (.cons (.var 2) .nil)) b17_1) (.seq (.ret (.lit (.bl true))) .pass)))
def b18_0 : I := (.seq (.if_ (.tnot (.tval (.call 8 (.cons (.lit (.int 0)) (.cons (.var 6) (.cons (.var 1) .nil)))))) (.seq (.ret (.lit (.bl false))) .pass) .pass) .pass)
def b18 : I := (.seq (.asg (.gn 2) (.call 19 (.cons (.var 0) (.cons (.var 1) .nil)))) (.seq (.asg (.gn 4) (.me .join (.lit (.str "")) (.cons (.comp false [3] (.gn 3) (.its .seq (.cons (.var 0) .nil)) .tyes (.bi .str (.cons (.var 3) .nil))) .nil))) (.seq (.asg (.gn 5) (.lst false (.cons (.bi (.list false) (.cons (.var 0) .nil)) (.cons (.lit (.non)) (.cons (.var 2) (.cons (.neg (.lit (.int 1))) (.cons (.lit (.bl true)) (.cons (.var 4) (.cons (.dct0 false) (.cons (.tup (.cons (.var 0) .nil)) (.cons (.lst false (.cons (.var 0) .nil)) .nil))))))))))) (.seq (.asg (.gn 5) (.op (.add false) (.var 5) (.lst false (.cons (.op (.add false) (.var 0) (.tup (.cons (.lit (.int 0)) .nil))) (.cons (.op (.add false) (.tup (.cons (.lit (.int 0)) .nil)) (.var 0)) (.cons (.op (.add false) (.var 0) (.tup (.cons (.lit (.non)) .nil))) .nil)))))) (.seq (.if_ (.tval (.op .gt (.bi .len (.cons (.var 0) .nil)) (.lit (.int 0)))) (.seq (.asg (.gn 5) (.op (.add false) (.var 5) (.lst false (.cons (.sl false (.var 0) (.cons (.lit (.int 1)) .nil) .nil) (.cons (.sl false (.var 0) .nil (.cons (.op .sub (.bi .len (.cons (.var 0) .nil)) (.lit (.int 1))) .nil)) (.cons (.tup .nil) (.cons (.op (.add false) (.var 0) (.var 0)) .nil))))))) .pass) .pass) (.seq (.for_ (.gn 6) (.its .seq (.cons (.var 5) .nil)) b18_0) (.seq (.ret (.lit (.bl true))) .pass)))))))
def b19_0 : I := (.seq (.asg (.gn 2) (.op (.add false) (.op (.mul false) (.var 2) (.ix (.var 1) (.var 3))) (.ix (.var 0) (.var 3)))) .pass)
def b19 : I := (.seq (.asg (.gn 2) (.lit (.int 0))) (.seq (.for_ (.gn 3) (.its .range (.cons (.bi .len (.cons (.var 1) .nil)) .nil)) b19_0) (.seq (.ret (.var 2)) .pass)))
def b20 : I := (.seq (.asg (.gn 1) (.bi (.list false) (.cons (.var 0) .nil))) (.seq (.asg (.gn 2) (.call 12 (.cons (.var 1) .nil))) (.seq (.ret (.andv (.call 16 (.cons (.var 2) .nil)) (.andv (.op .eq (.var 2) (.call 7 (.cons (.var 0) .nil))) (.op .eq (.var 1) (.var 0))))) .pass)))
def b21_0 : I := (.seq (.expr (.me .append (.var 9) (.cons (.call 3 (.cons (.var 0) (.cons (.bi .len (.cons (.var 1) .nil)) .nil))) .nil))) .pass)
def b21 : I := (.seq (.asg (.gn 2) (.call 22 (.cons (.var 0) (.cons (.var 1) .nil)))) (.seq (.asg (.gn 3) (.call 22 (.cons (.var 0) (.cons (.var 1) .nil)))) (.seq (.if_ (.tval (.op .eq (.call 3 (.cons (.var 0) (.cons (.lit (.int 2)) .nil))) (.lit (.int 0)))) (.seq (.asg (.gn 4) (.call 3 (.cons (.var 0) (.cons (.bi .len (.cons (.var 1) .nil)) .nil)))) (.seq (.asg (.gn 3) (.op (.add false) (.op (.add false) (.sl false (.var 2) .nil (.cons (.var 4) .nil)) (.tup (.cons (.ix (.var 3) (.var 4)) .nil))) (.sl false (.var 2) (.cons (.op (.add false) (.var 4) (.lit (.int 1))) .nil) .nil))) .pass)) .pass) (.seq (.if_ (.tnot (.tval (.call 15 (.cons (.var 2) (.cons (.call 19 (.cons (.var 2) (.cons (.var 1) .nil))) (.cons (.var 1) .nil)))))) (.seq (.ret (.lit (.bl false))) .pass) .pass) (.seq (.if_ (.tnot (.tval (.call 15 (.cons (.var 3) (.cons (.call 19 (.cons (.var 3) (.cons (.var 1) .nil))) (.cons (.var 1) .nil)))))) (.seq (.ret (.lit (.bl false))) .pass) .pass) (.seq (.asg (.gn 5) (.call 9 (.cons (.var 2) (.cons (.bi (.list false) (.cons (.var 1) .nil)) .nil)))) (.seq (.asg (.gn 6) (.call 9 (.cons (.var 3) (.cons (.bi (.list false) (.cons (.var 1) .nil)) .nil)))) (.seq (.if_ (.tor (.tval (.op .ne (.op .lt (.var 5) (.var 6)) (.call 23 (.cons (.var 2) (.cons (.var 3) .nil))))) (.tval (.op .ne (.op .lt (.var 6) (.var 5)) (.call 23 (.cons (.var 3) (.cons (.var 2) .nil)))))) (.seq (.ret (.lit (.bl false))) .pass) .pass) (.seq (.if_ (.tval (.op .lt (.op (.add false) (.var 5) (.lit (.int 1))) (.call 7 (.cons (.var 1) .nil)))) (.seq (.asg (.gn 8) (.bi .tup (.cons (.call 24 (.cons (.bi (.list false) (.cons (.var 2) .nil)) (.cons (.lit (.int 0)) (.cons (.comp false [7] (.gn 7) (.its .seq (.cons (.var 1) .nil)) .tyes (.op .sub (.var 7) (.lit (.int 1)))) .nil)))) .nil))) (.seq (.if_ (.tnot (.tval (.call 15 (.cons (.var 8) (.cons (.op (.add false) (.var 5) (.lit (.int 1))) (.cons (.var 1) .nil)))))) (.seq (.ret (.lit (.bl false))) .pass) .pass) .pass)) .pass) (.seq (.asg (.gn 9) (.lst true (.cons (.lit (.int 0)) (.cons (.op .sub (.bi .len (.cons (.var 1) .nil)) (.lit (.int 1))) .nil)))) (.seq (.for_ (.gn 10) (.its .range (.cons (.lit (.int 2)) .nil)) b21_0) (.seq (.frz 9) (.seq (.ret (.call 5 (.cons (.var 0) (.cons (.var 2) (.cons (.var 9) (.cons (.var 1) .nil)))))) .pass)))))))))))))
def b22_0 : I := (.seq (.asg (.gn 4) (.call 3 (.cons (.var 0) (.cons (.lit (.int 4)) .nil)))) (.seq (.asg (.gn 5) (.call 3 (.cons (.var 0) (.cons (.var 3) .nil)))) (.seq (.if_ (.tval (.op .eq (.var 4) (.lit (.int 0)))) (.seq (.asg (.gn 5) (.lit (.int 0))) .pass) .pass) (.seq (.if_ (.tval (.op .eq (.var 4) (.lit (.int 1)))) (.seq (.asg (.gn 5) (.op .sub (.var 3) (.lit (.int 1)))) .pass) .pass) (.seq (.expr (.me .append (.var 2) (.cons (.var 5) .nil))) .pass)))))
def b22 : I := (.seq (.asg (.gn 2) (.lst true .nil)) (.seq (.for_ (.gn 3) (.its .seq (.cons (.var 1) .nil)) b22_0) (.seq (.ret (.bi .tup (.cons (.var 2) .nil))) .pass)))
def b23_0 : I := (.seq (.if_ (.tval (.op .ne (.ix (.var 0) (.var 2)) (.ix (.var 1) (.var 2)))) (.seq (.ret (.op .lt (.ix (.var 0) (.var 2)) (.ix (.var 1) (.var 2)))) .pass) .pass) .pass)
def b23 : I := (.seq (.for_ (.gn 2) (.its .range (.cons (.bi .len (.cons (.var 0) .nil)) .nil)) b23_0) (.seq (.ret (.lit (.bl false))) .pass))
def b24_0 : I := (.seq (.asg (.gn 5) (.op .sub (.op .sub (.bi .len (.cons (.var 0) .nil)) (.lit (.int 1))) (.var 4))) (.seq (.if_ (.tval (.op .lt (.ix (.var 3) (.var 5)) (.ix (.var 2) (.var 5)))) (.seq (.seti (.var 3) (.var 5) (.op (.add false) (.ix (.var 3) (.var 5)) (.lit (.int 1)))) (.seq (.frz 3) (.seq (.ret (.var 3)) .pass))) .pass) (.seq (.seti (.var 3) (.var 5) (.var 1)) .pass)))
def b24 : I := (.seq (.asg (.gn 3) (.bi (.list true) (.cons (.var 0) .nil))) (.seq (.for_ (.gn 4) (.its .range (.cons (.bi .len (.cons (.var 0) .nil)) .nil)) b24_0) (.seq (.frz 3) (.seq (.ret (.var 3)) .pass))))
def b25_0 : I := (.seq (.if_ (.tnot (.tval (.call 15 (.cons (.bi .tup (.cons (.var 2) .nil)) (.cons (.var 4) (.cons (.var 0) .nil)))))) (.seq (.ret (.lit (.bl false))) .pass) .pass) (.seq (.asg (.gn 2) (.call 24 (.cons (.var 2) (.cons (.lit (.int 0)) (.cons (.var 3) .nil))))) .pass))
def b25 : I := (.seq (.asg (.gn 2) (.comp false [1] (.gn 1) (.its .seq (.cons (.var 0) .nil)) .tyes (.lit (.int 0)))) (.seq (.asg (.gn 3) (.comp false [1] (.gn 1) (.its .seq (.cons (.var 0) .nil)) .tyes (.op .sub (.var 1) (.lit (.int 1))))) (.seq (.for_ (.gn 4) (.its .range (.cons (.call 7 (.cons (.var 0) .nil)) .nil)) b25_0) (.seq (.ret (.lit (.bl true))) .pass))))
def b26_0 : I := (.seq (.if_ (.tval (.call 27 (.cons (.var 2) (.cons (.var 0) .nil)))) (.seq (.asg (.gn 5) (.call 9 (.cons (.bi .tup (.cons (.var 2) .nil)) (.cons (.bi (.list false) (.cons (.var 0) .nil)) .nil)))) (.seq (.if_ (.tor (.tnot (.tval (.call 16 (.cons (.var 5) .nil)))) (.tval (.op .ne (.var 5) (.var 3)))) (.seq (.ret (.lit (.bl false))) .pass) .pass) (.seq (.asg (.gn 3) (.op (.add false) (.var 3) (.lit (.int 1)))) .pass))) (.seq (.if_ (.tnot (.tval (.call 8 (.cons (.lit (.int 0)) (.cons (.bi .tup (.cons (.var 2) .nil)) (.cons (.var 0) .nil)))))) (.seq (.ret (.lit (.bl false))) .pass) .pass) .pass)) (.seq (.asg (.gn 2) (.call 24 (.cons (.var 2) (.cons (.neg (.lit (.int 1))) (.cons (.var 0) .nil))))) .pass))
def b26 : I := (.seq (.asg (.gn 2) (.comp false [1] (.gn 1) (.its .seq (.cons (.var 0) .nil)) .tyes (.neg (.lit (.int 1))))) (.seq (.asg (.gn 3) (.lit (.int 0))) (.seq (.for_ (.gn 4) (.its .range (.cons (.call 7 (.cons (.comp false [1] (.gn 1) (.its .seq (.cons (.var 0) .nil)) .tyes (.op (.add false) (.var 1) (.lit (.int 2)))) .nil)) .nil)) b26_0) (.seq (.ret (.op .eq (.var 3) (.call 7 (.cons (.var 0) .nil)))) .pass))))
def b27_0 : I := (.seq (.if_ (.tor (.tval (.op .lt (.ix (.var 0) (.var 2)) (.lit (.int 0)))) (.tval (.op .ge (.ix (.var 0) (.var 2)) (.ix (.var 1) (.var 2))))) (.seq (.ret (.lit (.bl false))) .pass) .pass) .pass)
def b27 : I := (.seq (.for_ (.gn 2) (.its .range (.cons (.bi .len (.cons (.var 1) .nil)) .nil)) b27_0) (.seq (.ret (.lit (.bl true))) .pass))
def b28_0 : I := (.seq (.if_ (.tval (.op .le (.op (.mul false) (.var 2) (.op (.add false) (.var 3) (.lit (.int 2)))) (.lit (.int 700)))) (.seq (.asg (.gn 2) (.op (.mul false) (.var 2) (.op (.add false) (.var 3) (.lit (.int 2))))) (.seq (.expr (.me .append (.var 1) (.cons (.var 3) .nil))) .pass)) .pass) .pass)
def b28 : I := (.seq (.asg (.gn 1) (.lst true .nil)) (.seq (.asg (.gn 2) (.lit (.int 1))) (.seq (.for_ (.gn 3) (.its .seq (.cons (.var 0) .nil)) b28_0) (.seq (.frz 1) (.seq (.ret (.var 1)) .pass)))))
def f0 : FnI := ⟨"law", ("law", none), ["_law_script"], ["_law_script", "_law_bag_here", "_law_sizes_here", "_law_longer"], [], b0, false, true⟩
def f1 : FnI := ⟨"_law_bag", ("_law_bag", none), ["_law_script"], ["_law_script", "_law_state", "_law_left", "_law_cell"], [], b1, false, true⟩
def f2 : FnI := ⟨"_law_sizes", ("_law_sizes", none), ["_law_bag_here"], ["_law_bag_here", "_law_sizes_here", "_law_room", "_law_k", "_law_most", "_law_size"], [], b2, false, true⟩
def f3 : FnI := ⟨"_law_draw", ("_law_draw", none), ["_law_bag_here", "_law_size"], ["_law_bag_here", "_law_size", "_law_digit", "_law_mixed"], [], b3, false, true⟩
def f4 : FnI := ⟨"_law_long_sizes", ("_law_long_sizes", none), ["_law_bag_here"], ["_law_bag_here", "_law_sizes_here", "_law_k", "_law_kind", "_law_size"], [], b4, false, true⟩
def f5 : FnI := ⟨"_law_bent", ("_law_bent", none), ["_law_bag_here", "_law_state", "_law_places", "_law_sizes_here"], ["_law_bag_here", "_law_state", "_law_places", "_law_sizes_here"], [], b5, false, true⟩
def f6 : FnI := ⟨"_law_bent_numbers", ("_law_bent_numbers", none), ["_law_bag_here", "_law_sizes_here"], ["_law_bag_here", "_law_sizes_here", "_law_count", "_law_far", "_law_bent_here", "_law_number_here"], [], b6, false, true⟩
def f7 : FnI := ⟨"_law_product", ("_law_product", none), ["_law_sizes_here"], ["_law_sizes_here", "_law_many", "_law_size"], [], b7, false, true⟩
def f8 : FnI := ⟨"_law_refused", ("_law_refused", none), ["_law_way", "_law_value", "_law_sizes_here"], ["_law_way", "_law_value", "_law_sizes_here", "_law_given", "_law_raised"], [], b8, false, true⟩
def f9 : FnI := ⟨"pack", ("pack", none), ["state", "sizes"], ["state", "sizes", "number", "mark", "size"], [], b9, false, true⟩
def f10 : FnI := ⟨"_is_below", ("_is_below", none), ["value", "limit"], ["value", "limit"], [], b10, false, true⟩
def f11 : FnI := ⟨"unpack", ("unpack", none), ["number", "sizes"], ["number", "sizes", "marks", "rest", "size"], [], b11, false, true⟩
def f12 : FnI := ⟨"state_count", ("state_count", none), ["sizes"], ["sizes", "total", "size"], [], b12, false, true⟩
def f13 : FnI := ⟨"_law_kinds", ("_law_kinds", none), ["_law_raised"], ["_law_raised", "_law_found", "_law_one"], [], b13, true, false⟩
def f14 : FnI := ⟨"_shown", ("_shown", none), ["value"], ["value"], [], b14, false, true⟩
def f15 : FnI := ⟨"_law_leads", ("_law_leads", none), ["_law_state", "_law_number_here", "_law_sizes_here"], ["_law_state", "_law_number_here", "_law_sizes_here", "_law_given", "_law_told", "_law_k", "_law_back"], [], b15, false, true⟩
def f16 : FnI := ⟨"_law_is_integer", ("_law_is_integer", none), ["_law_told"], ["_law_told"], [], b16, false, true⟩
def f17 : FnI := ⟨"_law_bent_marks", ("_law_bent_marks", none), ["_law_bag_here", "_law_state", "_law_places", "_law_sizes_here"], ["_law_bag_here", "_law_state", "_law_places", "_law_sizes_here", "_law_far", "_law_k", "_law_mark", "_law_size", "_law_odd", "_law_one", "_law_bent_here"], [], b17, false, true⟩
def f18 : FnI := ⟨"_law_bent_states", ("_law_bent_states", none), ["_law_state", "_law_sizes_here"], ["_law_state", "_law_sizes_here", "_law_number_here", "_law_mark", "_law_text", "_law_bent_here", "_law_one"], [], b18, false, true⟩
def f19 : FnI := ⟨"_law_number", ("_law_number", none), ["_law_state", "_law_sizes_here"], ["_law_state", "_law_sizes_here", "_law_number_here", "_law_k"], [], b19, false, true⟩
def f20 : FnI := ⟨"_law_counted", ("_law_counted", none), ["_law_sizes_here"], ["_law_sizes_here", "_law_given", "_law_told"], [], b20, false, true⟩
def f21 : FnI := ⟨"_law_long", ("_law_long", none), ["_law_bag_here", "_law_sizes_here"], ["_law_bag_here", "_law_sizes_here", "_law_one", "_law_two", "_law_at", "_law_first", "_law_second", "_law_size", "_law_after", "_law_places", "_law_k"], [], b21, false, true⟩
def f22 : FnI := ⟨"_law_marks", ("_law_marks", none), ["_law_bag_here", "_law_sizes_here"], ["_law_bag_here", "_law_sizes_here", "_law_row", "_law_size", "_law_kind", "_law_mark"], [], b22, false, true⟩
def f23 : FnI := ⟨"_law_before", ("_law_before", none), ["_law_one", "_law_two"], ["_law_one", "_law_two", "_law_k"], [], b23, false, true⟩
def f24 : FnI := ⟨"_law_step", ("_law_step", none), ["_law_row", "_law_least", "_law_most"], ["_law_row", "_law_least", "_law_most", "_law_after", "_law_k", "_law_at"], [], b24, false, true⟩
def f25 : FnI := ⟨"_law_all_states", ("_law_all_states", none), ["_law_sizes_here"], ["_law_sizes_here", "_law_size", "_law_row", "_law_most", "_law_number_here"], [], b25, false, true⟩
def f26 : FnI := ⟨"_law_all_tuples", ("_law_all_tuples", none), ["_law_sizes_here"], ["_law_sizes_here", "_law_size", "_law_row", "_law_number_here", "_law_k", "_law_told"], [], b26, false, true⟩
def f27 : FnI := ⟨"_law_is_state", ("_law_is_state", none), ["_law_row", "_law_sizes_here"], ["_law_row", "_law_sizes_here", "_law_k"], [], b27, false, true⟩
def f28 : FnI := ⟨"_law_shorter", ("_law_shorter", none), ["_law_sizes_here"], ["_law_sizes_here", "_law_shorter_here", "_law_many", "_law_size"], [], b28, false, true⟩
def fns : List FnI := [f0, f1, f2, f3, f4, f5, f6, f7, f8, f9, f10, f11, f12, f13, f14, f15, f16, f17, f18, f19, f20, f21, f22, f23, f24, f25, f26, f27, f28]
def S : Stc := ⟨fns, bn, cn, cls, [], xcs, exm, true⟩
theorem r0_1 (n : Nat) (x0 : Sl) (L : Hl) : run S (n + 1) 0 [x0] L = endD L.length (dS (run S n) (cnOf S) b0 [x0, .u, .u, .u] L) := rfl
theorem r1_1 (n : Nat) (x0 : Sl) (L : Hl) : run S (n + 1) 1 [x0] L = endD L.length (dS (run S n) (cnOf S) b1 [x0, .u, .u, .u] L) := rfl
theorem r2_1 (n : Nat) (x0 : Sl) (L : Hl) : run S (n + 1) 2 [x0] L = endD L.length (dS (run S n) (cnOf S) b2 [x0, .u, .u, .u, .u, .u] L) := rfl
theorem r3_2 (n : Nat) (x0 x1 : Sl) (L : Hl) : run S (n + 1) 3 [x0, x1] L = endD L.length (dS (run S n) (cnOf S) b3 [x0, x1, .u, .u] L) := rfl
theorem r4_1 (n : Nat) (x0 : Sl) (L : Hl) : run S (n + 1) 4 [x0] L = endD L.length (dS (run S n) (cnOf S) b4 [x0, .u, .u, .u, .u] L) := rfl
theorem r5_4 (n : Nat) (x0 x1 x2 x3 : Sl) (L : Hl) : run S (n + 1) 5 [x0, x1, x2, x3] L = endD L.length (dS (run S n) (cnOf S) b5 [x0, x1, x2, x3] L) := rfl
theorem r6_2 (n : Nat) (x0 x1 : Sl) (L : Hl) : run S (n + 1) 6 [x0, x1] L = endD L.length (dS (run S n) (cnOf S) b6 [x0, x1, .u, .u, .u, .u] L) := rfl
theorem r7_1 (n : Nat) (x0 : Sl) (L : Hl) : run S (n + 1) 7 [x0] L = endD L.length (dS (run S n) (cnOf S) b7 [x0, .u, .u] L) := rfl
theorem r8_3 (n : Nat) (x0 x1 x2 : Sl) (L : Hl) : run S (n + 1) 8 [x0, x1, x2] L = endD L.length (dS (run S n) (cnOf S) b8 [x0, x1, x2, .u, .u] L) := rfl
theorem r9_2 (n : Nat) (x0 x1 : Sl) (L : Hl) : run S (n + 1) 9 [x0, x1] L = endD L.length (dS (run S n) (cnOf S) b9 [x0, x1, .u, .u, .u] L) := rfl
theorem r10_2 (n : Nat) (x0 x1 : Sl) (L : Hl) : run S (n + 1) 10 [x0, x1] L = endD L.length (dS (run S n) (cnOf S) b10 [x0, x1] L) := rfl
theorem r11_2 (n : Nat) (x0 x1 : Sl) (L : Hl) : run S (n + 1) 11 [x0, x1] L = endD L.length (dS (run S n) (cnOf S) b11 [x0, x1, .u, .u, .u] L) := rfl
theorem r12_1 (n : Nat) (x0 : Sl) (L : Hl) : run S (n + 1) 12 [x0] L = endD L.length (dS (run S n) (cnOf S) b12 [x0, .u, .u] L) := rfl
theorem r13_1 (n : Nat) (x0 : Sl) (L : Hl) : run S (n + 1) 13 [x0] L = endD L.length (dS (run S n) (cnOf S) b13 [x0, .u, .u] L) := rfl
theorem r14_1 (n : Nat) (x0 : Sl) (L : Hl) : run S (n + 1) 14 [x0] L = endD L.length (dS (run S n) (cnOf S) b14 [x0] L) := rfl
theorem r15_3 (n : Nat) (x0 x1 x2 : Sl) (L : Hl) : run S (n + 1) 15 [x0, x1, x2] L = endD L.length (dS (run S n) (cnOf S) b15 [x0, x1, x2, .u, .u, .u, .u] L) := rfl
theorem r16_1 (n : Nat) (x0 : Sl) (L : Hl) : run S (n + 1) 16 [x0] L = endD L.length (dS (run S n) (cnOf S) b16 [x0] L) := rfl
theorem r17_4 (n : Nat) (x0 x1 x2 x3 : Sl) (L : Hl) : run S (n + 1) 17 [x0, x1, x2, x3] L = endD L.length (dS (run S n) (cnOf S) b17 [x0, x1, x2, x3, .u, .u, .u, .u, .u, .u, .u] L) := rfl
theorem r18_2 (n : Nat) (x0 x1 : Sl) (L : Hl) : run S (n + 1) 18 [x0, x1] L = endD L.length (dS (run S n) (cnOf S) b18 [x0, x1, .u, .u, .u, .u, .u] L) := rfl
theorem r19_2 (n : Nat) (x0 x1 : Sl) (L : Hl) : run S (n + 1) 19 [x0, x1] L = endD L.length (dS (run S n) (cnOf S) b19 [x0, x1, .u, .u] L) := rfl
theorem r20_1 (n : Nat) (x0 : Sl) (L : Hl) : run S (n + 1) 20 [x0] L = endD L.length (dS (run S n) (cnOf S) b20 [x0, .u, .u] L) := rfl
theorem r21_2 (n : Nat) (x0 x1 : Sl) (L : Hl) : run S (n + 1) 21 [x0, x1] L = endD L.length (dS (run S n) (cnOf S) b21 [x0, x1, .u, .u, .u, .u, .u, .u, .u, .u, .u] L) := rfl
theorem r22_2 (n : Nat) (x0 x1 : Sl) (L : Hl) : run S (n + 1) 22 [x0, x1] L = endD L.length (dS (run S n) (cnOf S) b22 [x0, x1, .u, .u, .u, .u] L) := rfl
theorem r23_2 (n : Nat) (x0 x1 : Sl) (L : Hl) : run S (n + 1) 23 [x0, x1] L = endD L.length (dS (run S n) (cnOf S) b23 [x0, x1, .u] L) := rfl
theorem r24_3 (n : Nat) (x0 x1 x2 : Sl) (L : Hl) : run S (n + 1) 24 [x0, x1, x2] L = endD L.length (dS (run S n) (cnOf S) b24 [x0, x1, x2, .u, .u, .u] L) := rfl
theorem r25_1 (n : Nat) (x0 : Sl) (L : Hl) : run S (n + 1) 25 [x0] L = endD L.length (dS (run S n) (cnOf S) b25 [x0, .u, .u, .u, .u] L) := rfl
theorem r26_1 (n : Nat) (x0 : Sl) (L : Hl) : run S (n + 1) 26 [x0] L = endD L.length (dS (run S n) (cnOf S) b26 [x0, .u, .u, .u, .u, .u] L) := rfl
theorem r27_2 (n : Nat) (x0 x1 : Sl) (L : Hl) : run S (n + 1) 27 [x0, x1] L = endD L.length (dS (run S n) (cnOf S) b27 [x0, x1, .u] L) := rfl
theorem r28_1 (n : Nat) (x0 : Sl) (L : Hl) : run S (n + 1) 28 [x0] L = endD L.length (dS (run S n) (cnOf S) b28 [x0, .u, .u, .u] L) := rfl
end Lw

set_option Elab.async false
set_option linter.all false
set_option autoImplicit false
set_option maxRecDepth 100000
set_option maxHeartbeats 2000000
namespace Lw
open PySem PySem.Spec PyProof.Rows L2 Fk
/-! the bag of numbers -/
def BagOk (m : Nat) (b : List P) : Prop := ∃ x y z : Int, b = [.int x, .int y, .int z] ∧ 0 ≤ x ∧ 0 ≤ y ∧ y < 2147483647 ∧ 0 ≤ z ∧ z ≤ m
theorem BagOk.le {m m' : Nat} {b : List P} (h : BagOk m b) (k : m ≤ m') : BagOk m' b := by
  obtain ⟨x, y, z, e, h1, h2, h3, h4, h5⟩ := h
  exact ⟨x, y, z, e, h1, h2, h3, h4, by omega⟩
theorem log_lt {i : Int} {k : Nat} (h : i.natAbs < 2 ^ k) (hk : 0 < k) : i.natAbs.log2 < k := by
  by_cases h0 : i.natAbs = 0
  · rw [h0]; simpa using hk
  · exact (Nat.log2_lt h0).mpr h
theorem mul_lt {i j : Int} (a b : Nat) (h : i.natAbs < 2 ^ a) (h2 : j.natAbs < 2 ^ b) (ha : 0 < a) (hb : 0 < b) (hab : a + b ≤ 1000000) : i.natAbs.log2 + j.natAbs.log2 < 1000000 := by
  have a := log_lt h ha
  have b := log_lt h2 hb
  omega
theorem draw_ok {n m : Nat} {b : List P} {s : Int} {T : Hl} (hb : BagOk m b) (hm : m < 2 ^ 60) (hs : 0 < s) (hs2 : s < 2 ^ 60) :
    ∃ (d : Int) (b' : List P), 0 ≤ d ∧ d < s ∧ BagOk (m + 1) b' ∧ run S (n + 1) 3 [.v (.ref 0), .v (.p (.int s))] (.lst b :: T) = .ok (.p (.int d)) (.lst b' :: T) := by
  obtain ⟨x, y, z, rfl, h1, h2, h3, h4, h5⟩ := hb
  rw [r3_2]
  have hl : s.natAbs.log2 < 9000 := Nat.lt_trans (log_lt (k := 60) (by omega) (by decide)) (by decide)
  by_cases hx : 0 < x
  · refine ⟨x % s, [.int (x / s), .int y, .int z], Int.emod_nonneg _ (by omega), Int.emod_lt_of_pos _ hs, ⟨_, _, _, rfl, Int.ediv_nonneg h1 (by omega), h2, h3, h4, by omega⟩, ?_⟩
    simp -implicitDefEqProofs only [b3, Fk.ev_var, Fk.ev_lit, Fk.ev_con, Fk.ek_ofO, Fk.ev_op, Fk.ek_op, Fk.ev_neg, Fk.ek_neg, Fk.ev_notv, Fk.ek_not, Fk.ek_not2, Fk.ev_andv, Fk.ek_and, Fk.ek_and1, Fk.ek_and0, Fk.ev_orv, Fk.ek_or, Fk.ek_or1, Fk.ek_or0, Fk.ev_chain, Fk.ek_ch, Fk.ek_ch2, Fk.ek_ch3t, Fk.ek_ch3f, Fk.ev_ite, Fk.ek_ite1, Fk.ek_ite0, Fk.ev_call, Fk.ev_bi, Fk.ek_bi1, Fk.ek_bi2, Fk.ev_me, Fk.ek_me, Fk.ek_meb, Fk.ek_me20, Fk.ek_me21, Fk.ek_me22, Fk.ev_tup, Fk.ek_tup, Fk.ek_tup2, Fk.ev_lst, Fk.ek_lst, Fk.ek_lst2, Fk.ev_trev, Fk.ek_trev, Fk.ev_lrng, Fk.ek_lrng, Fk.ev_hsum, Fk.ek_hsum, Fk.ek_hs2, Fk.ev_dct0, Fk.ev_ix, Fk.ek_ix, Fk.ev_sl, Fk.ek_sl, Fk.ek_sl2, Fk.ek_sl3, Fk.ev_fld, Fk.ek_fld, Fk.ev_isi, Fk.ek_isi, Fk.ek_blR, Fk.ev_exi, Fk.ek_exi, Fk.ev_exf, Fk.ek_exf, Fk.ev_comp, Fk.ek_comp, Fk.ek_comp3, Fk.ev_o0, Fk.ev_o1, Fk.ek_o1, Fk.ev_a0, Fk.ev_a1, Fk.ek_a, Fk.ek_a2, Fk.ev_a2, Fk.ek_exv, Fk.ev_its, Fk.ek_its1, Fk.ek_its2, Fk.ev_tand, Fk.ek_tand1, Fk.ek_tand0, Fk.ev_tor, Fk.ek_tor1, Fk.ek_tor0, Fk.ev_tnot, Fk.ek_tnot, Fk.ev_tval, Fk.ek_tval, Fk.ek_tv2, Fk.ev_tyes, Fk.ev_pass, Fk.ev_seq, Fk.ev_expr, Fk.ek_expr, Fk.ev_asg, Fk.ek_asg, Fk.ev_seti, Fk.ek_set, Fk.ek_set2, Fk.ek_set3, Fk.ek_set4, Fk.ev_ret, Fk.ek_ret, Fk.ev_retn, Fk.ev_if, Fk.ek_if1, Fk.ek_if0, Fk.ev_for, Fk.ek_for, Fk.ev_brk, Fk.ev_cont, Fk.ev_while, Fk.ev_frz, Fk.ek_frz, Fk.ek_frzp, Fk.ek_frz2, Fk.ev_raise, Fk.ek_raise, Fk.ek_raise2, Fk.ek_xp0, Fk.ek_xp1, Fk.ev_try, Fk.ek_try0, Fk.ek_tryx, Fk.ek_try1, Fk.ek_tryf, Fk.ek_endr, Fk.ek_endn, Fk.ek_endb, Fk.ek_endc, Fk.ev_forB, Fk.ev_forB2, Fk.ev_tB, Fk.ek_tB1, Fk.ek_tB0, Fk.ek_tB2, Fk.gv_0, Fk.gv_s, Fk.op_add, Fk.op_sub, Fk.op_mul, Fk.op_fdiv, Fk.op_fdivs, Fk.op_mod, Fk.op_pow, Fk.op_lt, Fk.op_le, Fk.op_gt, Fk.op_ge, Fk.op_eqi, Fk.op_eqb, Fk.op_eqs, Fk.op_nei, Fk.op_neb, Fk.op_nes, Fk.op_addl, Fk.op_addt, Fk.op_adds, Fk.tr_bl, Fk.tr_non, Fk.tr_int, Fk.tr_lst, Fk.tr_tup, Fk.va_nil, Fk.va_cons, Fk.pu_nil, Fk.pu_cons, Fk.bi_lenl, Fk.bi_lent, Fk.bi_lenr, Fk.bi_lenp, Fk.ek_lenr, Fk.bi_int, Fk.bi_min, Fk.bi_max, Fk.bi_listl, Fk.bi_listt, Fk.bi_tupl, Fk.bi_tupt, Fk.bi_tupp, Fk.ek_tupr, Fk.bi_lisp, Fk.ek_lisr, Fk.bi_str, Fk.new_f, Fk.new_t, Fk.newK_f, Fk.ix_t, Fk.ix_l, Fk.ix_r, Fk.ix_p, Fk.ek_ixr, Fk.at_0, Fk.at_1, Fk.at_2, Fk.set_l, Fk.ek_st, Fk.ek_st2, Fk.ixN_0, Fk.ixN_1, Fk.ixN_2, Fk.me_app, Fk.ek_app, Fk.ty_app, Fk.ek_tyl, Fk.me_joinl, Fk.ek_join, Fk.ty_join, Fk.it_seql, Fk.it_seqt, Fk.it_seqr, Fk.it_rngn, Fk.it_rng, Fk.it_rng2, Fk.it_rev, Fk.it_revt, Fk.it_ziptl, Fk.it_zipll, Fk.it_ziptt, Fk.lk_p, Fk.sl_t, Fk.sl_l, Fk.cut_to, Fk.cut_from1, Fk.cut_1, Fk.cut_from, Fk.hl_get, Fk.hl_set, Fk.op_eqL, Fk.op_neL, Fk.op_eqT, Fk.op_neT, tyP, R.bind_ok, R.bind_ex, R.st_ok, R.st_ex, RS2.seq_nx, RS2.seq_rt, RS2.seq_ex, RS2.seq_bk, RS2.seq_ct, List.set_cons_zero, List.set_cons_succ, List.getElem?_cons_zero, List.getElem?_cons_succ, Option.map_some, reduceCtorEq, imp_self, implies_true, Bool.not_true, Bool.not_false, decide_true, decide_false, Nat.reduceAdd, Nat.reduceSub, Nat.reduceLT, Nat.reduceLeDiff, Nat.reduceEqDiff, Int.reduceLT, Int.reduceLE, Int.reduceEq, Int.reduceNeg, Int.reduceToNat, Nat.reduceBEq, and_self, true_and, and_true, Nat.reducePow, Int.reducePow, Int.reduceAdd, Int.reduceSub, Int.reduceMul, List.length_cons, List.length_nil, List.cons_append, List.nil_append, List.append_nil, hx, hs, hl]
    exact en_rt rfl
  · have m1 : (y.natAbs.log2 + (48271 : Int).natAbs.log2 < 1000000) := mul_lt 64 64 (by omega) (by omega) (by decide) (by decide) (by decide)
    have m2 : ((z + 1).natAbs.log2 + (69621 : Int).natAbs.log2 < 1000000) := mul_lt 64 64 (by omega) (by omega) (by decide) (by decide) (by decide)
    have hy : 0 ≤ (y * 48271 + (z + 1) * 69621 + 7) % 2147483647 ∧ (y * 48271 + (z + 1) * 69621 + 7) % 2147483647 < 2147483647 := ⟨Int.emod_nonneg _ (by omega), Int.emod_lt_of_pos _ (by omega)⟩
    generalize hY : (y * 48271 + (z + 1) * 69621 + 7) % 2147483647 = Y at hy
    have m3 : ((Y / 32).natAbs.log2 + (16807 : Int).natAbs.log2 < 1000000) := mul_lt 64 64 (by omega) (by omega) (by decide) (by decide) (by decide)
    have m4 : (Y.natAbs.log2 + (11 : Int).natAbs.log2 < 1000000) := mul_lt 64 64 (by omega) (by omega) (by decide) (by decide) (by decide)
    refine ⟨((Y / 32 * 16807 + Y * 11 + (z + 1)) % 2147483629 / 8) % s, [.int x, .int Y, .int (z + 1)], Int.emod_nonneg _ (by omega), Int.emod_lt_of_pos _ hs, ⟨_, _, _, rfl, h1, hy.1, hy.2, by omega, by omega⟩, ?_⟩
    simp -implicitDefEqProofs only [b3, Fk.ev_var, Fk.ev_lit, Fk.ev_con, Fk.ek_ofO, Fk.ev_op, Fk.ek_op, Fk.ev_neg, Fk.ek_neg, Fk.ev_notv, Fk.ek_not, Fk.ek_not2, Fk.ev_andv, Fk.ek_and, Fk.ek_and1, Fk.ek_and0, Fk.ev_orv, Fk.ek_or, Fk.ek_or1, Fk.ek_or0, Fk.ev_chain, Fk.ek_ch, Fk.ek_ch2, Fk.ek_ch3t, Fk.ek_ch3f, Fk.ev_ite, Fk.ek_ite1, Fk.ek_ite0, Fk.ev_call, Fk.ev_bi, Fk.ek_bi1, Fk.ek_bi2, Fk.ev_me, Fk.ek_me, Fk.ek_meb, Fk.ek_me20, Fk.ek_me21, Fk.ek_me22, Fk.ev_tup, Fk.ek_tup, Fk.ek_tup2, Fk.ev_lst, Fk.ek_lst, Fk.ek_lst2, Fk.ev_trev, Fk.ek_trev, Fk.ev_lrng, Fk.ek_lrng, Fk.ev_hsum, Fk.ek_hsum, Fk.ek_hs2, Fk.ev_dct0, Fk.ev_ix, Fk.ek_ix, Fk.ev_sl, Fk.ek_sl, Fk.ek_sl2, Fk.ek_sl3, Fk.ev_fld, Fk.ek_fld, Fk.ev_isi, Fk.ek_isi, Fk.ek_blR, Fk.ev_exi, Fk.ek_exi, Fk.ev_exf, Fk.ek_exf, Fk.ev_comp, Fk.ek_comp, Fk.ek_comp3, Fk.ev_o0, Fk.ev_o1, Fk.ek_o1, Fk.ev_a0, Fk.ev_a1, Fk.ek_a, Fk.ek_a2, Fk.ev_a2, Fk.ek_exv, Fk.ev_its, Fk.ek_its1, Fk.ek_its2, Fk.ev_tand, Fk.ek_tand1, Fk.ek_tand0, Fk.ev_tor, Fk.ek_tor1, Fk.ek_tor0, Fk.ev_tnot, Fk.ek_tnot, Fk.ev_tval, Fk.ek_tval, Fk.ek_tv2, Fk.ev_tyes, Fk.ev_pass, Fk.ev_seq, Fk.ev_expr, Fk.ek_expr, Fk.ev_asg, Fk.ek_asg, Fk.ev_seti, Fk.ek_set, Fk.ek_set2, Fk.ek_set3, Fk.ek_set4, Fk.ev_ret, Fk.ek_ret, Fk.ev_retn, Fk.ev_if, Fk.ek_if1, Fk.ek_if0, Fk.ev_for, Fk.ek_for, Fk.ev_brk, Fk.ev_cont, Fk.ev_while, Fk.ev_frz, Fk.ek_frz, Fk.ek_frzp, Fk.ek_frz2, Fk.ev_raise, Fk.ek_raise, Fk.ek_raise2, Fk.ek_xp0, Fk.ek_xp1, Fk.ev_try, Fk.ek_try0, Fk.ek_tryx, Fk.ek_try1, Fk.ek_tryf, Fk.ek_endr, Fk.ek_endn, Fk.ek_endb, Fk.ek_endc, Fk.ev_forB, Fk.ev_forB2, Fk.ev_tB, Fk.ek_tB1, Fk.ek_tB0, Fk.ek_tB2, Fk.gv_0, Fk.gv_s, Fk.op_add, Fk.op_sub, Fk.op_mul, Fk.op_fdiv, Fk.op_fdivs, Fk.op_mod, Fk.op_pow, Fk.op_lt, Fk.op_le, Fk.op_gt, Fk.op_ge, Fk.op_eqi, Fk.op_eqb, Fk.op_eqs, Fk.op_nei, Fk.op_neb, Fk.op_nes, Fk.op_addl, Fk.op_addt, Fk.op_adds, Fk.tr_bl, Fk.tr_non, Fk.tr_int, Fk.tr_lst, Fk.tr_tup, Fk.va_nil, Fk.va_cons, Fk.pu_nil, Fk.pu_cons, Fk.bi_lenl, Fk.bi_lent, Fk.bi_lenr, Fk.bi_lenp, Fk.ek_lenr, Fk.bi_int, Fk.bi_min, Fk.bi_max, Fk.bi_listl, Fk.bi_listt, Fk.bi_tupl, Fk.bi_tupt, Fk.bi_tupp, Fk.ek_tupr, Fk.bi_lisp, Fk.ek_lisr, Fk.bi_str, Fk.new_f, Fk.new_t, Fk.newK_f, Fk.ix_t, Fk.ix_l, Fk.ix_r, Fk.ix_p, Fk.ek_ixr, Fk.at_0, Fk.at_1, Fk.at_2, Fk.set_l, Fk.ek_st, Fk.ek_st2, Fk.ixN_0, Fk.ixN_1, Fk.ixN_2, Fk.me_app, Fk.ek_app, Fk.ty_app, Fk.ek_tyl, Fk.me_joinl, Fk.ek_join, Fk.ty_join, Fk.it_seql, Fk.it_seqt, Fk.it_seqr, Fk.it_rngn, Fk.it_rng, Fk.it_rng2, Fk.it_rev, Fk.it_revt, Fk.it_ziptl, Fk.it_zipll, Fk.it_ziptt, Fk.lk_p, Fk.sl_t, Fk.sl_l, Fk.cut_to, Fk.cut_from1, Fk.cut_1, Fk.cut_from, Fk.hl_get, Fk.hl_set, Fk.op_eqL, Fk.op_neL, Fk.op_eqT, Fk.op_neT, tyP, R.bind_ok, R.bind_ex, R.st_ok, R.st_ex, RS2.seq_nx, RS2.seq_rt, RS2.seq_ex, RS2.seq_bk, RS2.seq_ct, List.set_cons_zero, List.set_cons_succ, List.getElem?_cons_zero, List.getElem?_cons_succ, Option.map_some, reduceCtorEq, imp_self, implies_true, Bool.not_true, Bool.not_false, decide_true, decide_false, Nat.reduceAdd, Nat.reduceSub, Nat.reduceLT, Nat.reduceLeDiff, Nat.reduceEqDiff, Int.reduceLT, Int.reduceLE, Int.reduceEq, Int.reduceNeg, Int.reduceToNat, Nat.reduceBEq, and_self, true_and, and_true, Nat.reducePow, Int.reducePow, Int.reduceAdd, Int.reduceSub, Int.reduceMul, List.length_cons, List.length_nil, List.cons_append, List.nil_append, List.append_nil, hx, hs, hl, m1, m2, m3, m4, hY]
    exact en_rt rfl
/-! products, numbers of states -/
def prd : List Int → Int
  | [] => 1
  | z :: zs => z * prd zs
theorem prd_app : ∀ xs ys : List Int, prd (xs ++ ys) = prd xs * prd ys
  | [], ys => by simp [prd]
  | x :: xs, ys => by rw [List.cons_append, prd, prd_app xs ys, prd, Int.mul_assoc]
theorem mul_abs {i j : Int} {a b : Nat} (h : i.natAbs < 2 ^ a) (h2 : j.natAbs < 2 ^ b) : (i * j).natAbs < 2 ^ (a + b) := by
  rw [Int.natAbs_mul, Nat.pow_add]
  exact Nat.mul_lt_mul'' h h2
theorem pow_le {a b : Nat} (h : a ≤ b) : 2 ^ a ≤ 2 ^ b := Nat.pow_le_pow_right (by decide) h
theorem prd_abs : ∀ {zs : List Int}, (∀ z ∈ zs, z.natAbs < 2 ^ 40) → (prd zs).natAbs < 2 ^ (40 * zs.length + 1)
  | [], _ => by simp [prd]
  | z :: zs, h => by
    rw [prd, List.length_cons, show 40 * (zs.length + 1) + 1 = 40 + (40 * zs.length + 1) by omega]
    exact mul_abs (h z List.mem_cons_self) (prd_abs fun y hy => h y (List.mem_cons_of_mem _ hy))
theorem prod_loop {cf : Nat → List Sl → Hl → Fk.R D} {cn : Nat → Option P} {s : Sl} : ∀ (zs : List Int) (a : Int) (m : Nat) (y : Sl) (L : Hl), a.natAbs < 2 ^ m → 0 < m → (∀ z ∈ zs, z.natAbs < 2 ^ 40) → m + 40 * zs.length ≤ 400000 →
    ∃ y', forL (forB cf cn (.gn 2) b7_0) (iP zs) [s, .v (.p (.int a)), y] L = .ok (.nx [s, .v (.p (.int (a * prd zs))), y']) L
  | [], a, m, y, L, _, _, _, _ => ⟨y, by simp [forL, prd]⟩
  | z :: zs, a, m, y, L, ha, hm, hz, hl => by
    have hz0 := hz z List.mem_cons_self
    rw [List.length_cons] at hl
    have g := mul_lt m 40 ha hz0 hm (by decide) (by omega)
    obtain ⟨y', e⟩ := prod_loop zs (a * z) (m + 40) (.v (.p (.int z))) L (mul_abs ha hz0) (by omega) (fun y hy => hz y (List.mem_cons_of_mem _ hy)) (by omega)
    refine ⟨y', ?_⟩
    rw [iP, List.map_cons, forL]
    simp -implicitDefEqProofs only [b7_0, Fk.ev_var, Fk.ev_lit, Fk.ev_con, Fk.ek_ofO, Fk.ev_op, Fk.ek_op, Fk.ev_neg, Fk.ek_neg, Fk.ev_notv, Fk.ek_not, Fk.ek_not2, Fk.ev_andv, Fk.ek_and, Fk.ek_and1, Fk.ek_and0, Fk.ev_orv, Fk.ek_or, Fk.ek_or1, Fk.ek_or0, Fk.ev_chain, Fk.ek_ch, Fk.ek_ch2, Fk.ek_ch3t, Fk.ek_ch3f, Fk.ev_ite, Fk.ek_ite1, Fk.ek_ite0, Fk.ev_call, Fk.ev_bi, Fk.ek_bi1, Fk.ek_bi2, Fk.ev_me, Fk.ek_me, Fk.ek_meb, Fk.ek_me20, Fk.ek_me21, Fk.ek_me22, Fk.ev_tup, Fk.ek_tup, Fk.ek_tup2, Fk.ev_lst, Fk.ek_lst, Fk.ek_lst2, Fk.ev_trev, Fk.ek_trev, Fk.ev_lrng, Fk.ek_lrng, Fk.ev_hsum, Fk.ek_hsum, Fk.ek_hs2, Fk.ev_dct0, Fk.ev_ix, Fk.ek_ix, Fk.ev_sl, Fk.ek_sl, Fk.ek_sl2, Fk.ek_sl3, Fk.ev_fld, Fk.ek_fld, Fk.ev_isi, Fk.ek_isi, Fk.ek_blR, Fk.ev_exi, Fk.ek_exi, Fk.ev_exf, Fk.ek_exf, Fk.ev_comp, Fk.ek_comp, Fk.ek_comp3, Fk.ev_o0, Fk.ev_o1, Fk.ek_o1, Fk.ev_a0, Fk.ev_a1, Fk.ek_a, Fk.ek_a2, Fk.ev_a2, Fk.ek_exv, Fk.ev_its, Fk.ek_its1, Fk.ek_its2, Fk.ev_tand, Fk.ek_tand1, Fk.ek_tand0, Fk.ev_tor, Fk.ek_tor1, Fk.ek_tor0, Fk.ev_tnot, Fk.ek_tnot, Fk.ev_tval, Fk.ek_tval, Fk.ek_tv2, Fk.ev_tyes, Fk.ev_pass, Fk.ev_seq, Fk.ev_expr, Fk.ek_expr, Fk.ev_asg, Fk.ek_asg, Fk.ev_seti, Fk.ek_set, Fk.ek_set2, Fk.ek_set3, Fk.ek_set4, Fk.ev_ret, Fk.ek_ret, Fk.ev_retn, Fk.ev_if, Fk.ek_if1, Fk.ek_if0, Fk.ev_for, Fk.ek_for, Fk.ev_brk, Fk.ev_cont, Fk.ev_while, Fk.ev_frz, Fk.ek_frz, Fk.ek_frzp, Fk.ek_frz2, Fk.ev_raise, Fk.ek_raise, Fk.ek_raise2, Fk.ek_xp0, Fk.ek_xp1, Fk.ev_try, Fk.ek_try0, Fk.ek_tryx, Fk.ek_try1, Fk.ek_tryf, Fk.ek_endr, Fk.ek_endn, Fk.ek_endb, Fk.ek_endc, Fk.ev_forB, Fk.ev_forB2, Fk.ev_tB, Fk.ek_tB1, Fk.ek_tB0, Fk.ek_tB2, Fk.gv_0, Fk.gv_s, Fk.op_add, Fk.op_sub, Fk.op_mul, Fk.op_fdiv, Fk.op_fdivs, Fk.op_mod, Fk.op_pow, Fk.op_lt, Fk.op_le, Fk.op_gt, Fk.op_ge, Fk.op_eqi, Fk.op_eqb, Fk.op_eqs, Fk.op_nei, Fk.op_neb, Fk.op_nes, Fk.op_addl, Fk.op_addt, Fk.op_adds, Fk.tr_bl, Fk.tr_non, Fk.tr_int, Fk.tr_lst, Fk.tr_tup, Fk.va_nil, Fk.va_cons, Fk.pu_nil, Fk.pu_cons, Fk.bi_lenl, Fk.bi_lent, Fk.bi_lenr, Fk.bi_lenp, Fk.ek_lenr, Fk.bi_int, Fk.bi_min, Fk.bi_max, Fk.bi_listl, Fk.bi_listt, Fk.bi_tupl, Fk.bi_tupt, Fk.bi_tupp, Fk.ek_tupr, Fk.bi_lisp, Fk.ek_lisr, Fk.bi_str, Fk.new_f, Fk.new_t, Fk.newK_f, Fk.ix_t, Fk.ix_l, Fk.ix_r, Fk.ix_p, Fk.ek_ixr, Fk.at_0, Fk.at_1, Fk.at_2, Fk.set_l, Fk.ek_st, Fk.ek_st2, Fk.ixN_0, Fk.ixN_1, Fk.ixN_2, Fk.me_app, Fk.ek_app, Fk.ty_app, Fk.ek_tyl, Fk.me_joinl, Fk.ek_join, Fk.ty_join, Fk.it_seql, Fk.it_seqt, Fk.it_seqr, Fk.it_rngn, Fk.it_rng, Fk.it_rng2, Fk.it_rev, Fk.it_revt, Fk.it_ziptl, Fk.it_zipll, Fk.it_ziptt, Fk.lk_p, Fk.sl_t, Fk.sl_l, Fk.cut_to, Fk.cut_from1, Fk.cut_1, Fk.cut_from, Fk.hl_get, Fk.hl_set, Fk.op_eqL, Fk.op_neL, Fk.op_eqT, Fk.op_neT, tyP, R.bind_ok, R.bind_ex, R.st_ok, R.st_ex, RS2.seq_nx, RS2.seq_rt, RS2.seq_ex, RS2.seq_bk, RS2.seq_ct, List.set_cons_zero, List.set_cons_succ, List.getElem?_cons_zero, List.getElem?_cons_succ, Option.map_some, reduceCtorEq, imp_self, implies_true, Bool.not_true, Bool.not_false, decide_true, decide_false, Nat.reduceAdd, Nat.reduceSub, Nat.reduceLT, Nat.reduceLeDiff, Nat.reduceEqDiff, Int.reduceLT, Int.reduceLE, Int.reduceEq, Int.reduceNeg, Int.reduceToNat, Nat.reduceBEq, and_self, true_and, and_true, Nat.reducePow, Int.reducePow, Int.reduceAdd, Int.reduceSub, Int.reduceMul, List.length_cons, List.length_nil, List.cons_append, List.nil_append, List.append_nil, g]
    rw [prd, ← Int.mul_assoc]
    exact e
def Sz (zs : List Int) : Prop := zs.length ≤ 200 ∧ ∀ z ∈ zs, 1 ≤ z ∧ z < 2 ^ 40
theorem Sz.abs {zs : List Int} (h : Sz zs) : ∀ z ∈ zs, z.natAbs < 2 ^ 40 := fun z hz => by
  have := h.2 z hz; omega
theorem product_ok {n : Nat} {zs : List Int} {L : Hl} (h : Sz zs) : run S (n + 1) 7 [.v (.p (.lst (iP zs)))] L = .ok (.p (.int (prd zs))) L := by
  rw [r7_1]
  obtain ⟨y', e⟩ := prod_loop (cf := run S n) (cn := cnOf S) (s := .v (.p (.lst (iP zs)))) zs 1 1 .u L (by decide) (by decide) h.abs (by have := h.1; omega)
  simp -implicitDefEqProofs only [b7, Fk.ev_var, Fk.ev_lit, Fk.ev_con, Fk.ek_ofO, Fk.ev_op, Fk.ek_op, Fk.ev_neg, Fk.ek_neg, Fk.ev_notv, Fk.ek_not, Fk.ek_not2, Fk.ev_andv, Fk.ek_and, Fk.ek_and1, Fk.ek_and0, Fk.ev_orv, Fk.ek_or, Fk.ek_or1, Fk.ek_or0, Fk.ev_chain, Fk.ek_ch, Fk.ek_ch2, Fk.ek_ch3t, Fk.ek_ch3f, Fk.ev_ite, Fk.ek_ite1, Fk.ek_ite0, Fk.ev_call, Fk.ev_bi, Fk.ek_bi1, Fk.ek_bi2, Fk.ev_me, Fk.ek_me, Fk.ek_meb, Fk.ek_me20, Fk.ek_me21, Fk.ek_me22, Fk.ev_tup, Fk.ek_tup, Fk.ek_tup2, Fk.ev_lst, Fk.ek_lst, Fk.ek_lst2, Fk.ev_trev, Fk.ek_trev, Fk.ev_lrng, Fk.ek_lrng, Fk.ev_hsum, Fk.ek_hsum, Fk.ek_hs2, Fk.ev_dct0, Fk.ev_ix, Fk.ek_ix, Fk.ev_sl, Fk.ek_sl, Fk.ek_sl2, Fk.ek_sl3, Fk.ev_fld, Fk.ek_fld, Fk.ev_isi, Fk.ek_isi, Fk.ek_blR, Fk.ev_exi, Fk.ek_exi, Fk.ev_exf, Fk.ek_exf, Fk.ev_comp, Fk.ek_comp, Fk.ek_comp3, Fk.ev_o0, Fk.ev_o1, Fk.ek_o1, Fk.ev_a0, Fk.ev_a1, Fk.ek_a, Fk.ek_a2, Fk.ev_a2, Fk.ek_exv, Fk.ev_its, Fk.ek_its1, Fk.ek_its2, Fk.ev_tand, Fk.ek_tand1, Fk.ek_tand0, Fk.ev_tor, Fk.ek_tor1, Fk.ek_tor0, Fk.ev_tnot, Fk.ek_tnot, Fk.ev_tval, Fk.ek_tval, Fk.ek_tv2, Fk.ev_tyes, Fk.ev_pass, Fk.ev_seq, Fk.ev_expr, Fk.ek_expr, Fk.ev_asg, Fk.ek_asg, Fk.ev_seti, Fk.ek_set, Fk.ek_set2, Fk.ek_set3, Fk.ek_set4, Fk.ev_ret, Fk.ek_ret, Fk.ev_retn, Fk.ev_if, Fk.ek_if1, Fk.ek_if0, Fk.ev_for, Fk.ek_for, Fk.ev_brk, Fk.ev_cont, Fk.ev_while, Fk.ev_frz, Fk.ek_frz, Fk.ek_frzp, Fk.ek_frz2, Fk.ev_raise, Fk.ek_raise, Fk.ek_raise2, Fk.ek_xp0, Fk.ek_xp1, Fk.ev_try, Fk.ek_try0, Fk.ek_tryx, Fk.ek_try1, Fk.ek_tryf, Fk.ek_endr, Fk.ek_endn, Fk.ek_endb, Fk.ek_endc, Fk.ev_forB, Fk.ev_forB2, Fk.ev_tB, Fk.ek_tB1, Fk.ek_tB0, Fk.ek_tB2, Fk.gv_0, Fk.gv_s, Fk.op_add, Fk.op_sub, Fk.op_mul, Fk.op_fdiv, Fk.op_fdivs, Fk.op_mod, Fk.op_pow, Fk.op_lt, Fk.op_le, Fk.op_gt, Fk.op_ge, Fk.op_eqi, Fk.op_eqb, Fk.op_eqs, Fk.op_nei, Fk.op_neb, Fk.op_nes, Fk.op_addl, Fk.op_addt, Fk.op_adds, Fk.tr_bl, Fk.tr_non, Fk.tr_int, Fk.tr_lst, Fk.tr_tup, Fk.va_nil, Fk.va_cons, Fk.pu_nil, Fk.pu_cons, Fk.bi_lenl, Fk.bi_lent, Fk.bi_lenr, Fk.bi_lenp, Fk.ek_lenr, Fk.bi_int, Fk.bi_min, Fk.bi_max, Fk.bi_listl, Fk.bi_listt, Fk.bi_tupl, Fk.bi_tupt, Fk.bi_tupp, Fk.ek_tupr, Fk.bi_lisp, Fk.ek_lisr, Fk.bi_str, Fk.new_f, Fk.new_t, Fk.newK_f, Fk.ix_t, Fk.ix_l, Fk.ix_r, Fk.ix_p, Fk.ek_ixr, Fk.at_0, Fk.at_1, Fk.at_2, Fk.set_l, Fk.ek_st, Fk.ek_st2, Fk.ixN_0, Fk.ixN_1, Fk.ixN_2, Fk.me_app, Fk.ek_app, Fk.ty_app, Fk.ek_tyl, Fk.me_joinl, Fk.ek_join, Fk.ty_join, Fk.it_seql, Fk.it_seqt, Fk.it_seqr, Fk.it_rngn, Fk.it_rng, Fk.it_rng2, Fk.it_rev, Fk.it_revt, Fk.it_ziptl, Fk.it_zipll, Fk.it_ziptt, Fk.lk_p, Fk.sl_t, Fk.sl_l, Fk.cut_to, Fk.cut_from1, Fk.cut_1, Fk.cut_from, Fk.hl_get, Fk.hl_set, Fk.op_eqL, Fk.op_neL, Fk.op_eqT, Fk.op_neT, tyP, R.bind_ok, R.bind_ex, R.st_ok, R.st_ex, RS2.seq_nx, RS2.seq_rt, RS2.seq_ex, RS2.seq_bk, RS2.seq_ct, List.set_cons_zero, List.set_cons_succ, List.getElem?_cons_zero, List.getElem?_cons_succ, Option.map_some, reduceCtorEq, imp_self, implies_true, Bool.not_true, Bool.not_false, decide_true, decide_false, Nat.reduceAdd, Nat.reduceSub, Nat.reduceLT, Nat.reduceLeDiff, Nat.reduceEqDiff, Int.reduceLT, Int.reduceLE, Int.reduceEq, Int.reduceNeg, Int.reduceToNat, Nat.reduceBEq, and_self, true_and, and_true, Nat.reducePow, Int.reducePow, Int.reduceAdd, Int.reduceSub, Int.reduceMul, List.length_cons, List.length_nil, List.cons_append, List.nil_append, List.append_nil]
  rw [e]
  simp -implicitDefEqProofs only [Fk.ev_var, Fk.ev_lit, Fk.ev_con, Fk.ek_ofO, Fk.ev_op, Fk.ek_op, Fk.ev_neg, Fk.ek_neg, Fk.ev_notv, Fk.ek_not, Fk.ek_not2, Fk.ev_andv, Fk.ek_and, Fk.ek_and1, Fk.ek_and0, Fk.ev_orv, Fk.ek_or, Fk.ek_or1, Fk.ek_or0, Fk.ev_chain, Fk.ek_ch, Fk.ek_ch2, Fk.ek_ch3t, Fk.ek_ch3f, Fk.ev_ite, Fk.ek_ite1, Fk.ek_ite0, Fk.ev_call, Fk.ev_bi, Fk.ek_bi1, Fk.ek_bi2, Fk.ev_me, Fk.ek_me, Fk.ek_meb, Fk.ek_me20, Fk.ek_me21, Fk.ek_me22, Fk.ev_tup, Fk.ek_tup, Fk.ek_tup2, Fk.ev_lst, Fk.ek_lst, Fk.ek_lst2, Fk.ev_trev, Fk.ek_trev, Fk.ev_lrng, Fk.ek_lrng, Fk.ev_hsum, Fk.ek_hsum, Fk.ek_hs2, Fk.ev_dct0, Fk.ev_ix, Fk.ek_ix, Fk.ev_sl, Fk.ek_sl, Fk.ek_sl2, Fk.ek_sl3, Fk.ev_fld, Fk.ek_fld, Fk.ev_isi, Fk.ek_isi, Fk.ek_blR, Fk.ev_exi, Fk.ek_exi, Fk.ev_exf, Fk.ek_exf, Fk.ev_comp, Fk.ek_comp, Fk.ek_comp3, Fk.ev_o0, Fk.ev_o1, Fk.ek_o1, Fk.ev_a0, Fk.ev_a1, Fk.ek_a, Fk.ek_a2, Fk.ev_a2, Fk.ek_exv, Fk.ev_its, Fk.ek_its1, Fk.ek_its2, Fk.ev_tand, Fk.ek_tand1, Fk.ek_tand0, Fk.ev_tor, Fk.ek_tor1, Fk.ek_tor0, Fk.ev_tnot, Fk.ek_tnot, Fk.ev_tval, Fk.ek_tval, Fk.ek_tv2, Fk.ev_tyes, Fk.ev_pass, Fk.ev_seq, Fk.ev_expr, Fk.ek_expr, Fk.ev_asg, Fk.ek_asg, Fk.ev_seti, Fk.ek_set, Fk.ek_set2, Fk.ek_set3, Fk.ek_set4, Fk.ev_ret, Fk.ek_ret, Fk.ev_retn, Fk.ev_if, Fk.ek_if1, Fk.ek_if0, Fk.ev_for, Fk.ek_for, Fk.ev_brk, Fk.ev_cont, Fk.ev_while, Fk.ev_frz, Fk.ek_frz, Fk.ek_frzp, Fk.ek_frz2, Fk.ev_raise, Fk.ek_raise, Fk.ek_raise2, Fk.ek_xp0, Fk.ek_xp1, Fk.ev_try, Fk.ek_try0, Fk.ek_tryx, Fk.ek_try1, Fk.ek_tryf, Fk.ek_endr, Fk.ek_endn, Fk.ek_endb, Fk.ek_endc, Fk.ev_forB, Fk.ev_forB2, Fk.ev_tB, Fk.ek_tB1, Fk.ek_tB0, Fk.ek_tB2, Fk.gv_0, Fk.gv_s, Fk.op_add, Fk.op_sub, Fk.op_mul, Fk.op_fdiv, Fk.op_fdivs, Fk.op_mod, Fk.op_pow, Fk.op_lt, Fk.op_le, Fk.op_gt, Fk.op_ge, Fk.op_eqi, Fk.op_eqb, Fk.op_eqs, Fk.op_nei, Fk.op_neb, Fk.op_nes, Fk.op_addl, Fk.op_addt, Fk.op_adds, Fk.tr_bl, Fk.tr_non, Fk.tr_int, Fk.tr_lst, Fk.tr_tup, Fk.va_nil, Fk.va_cons, Fk.pu_nil, Fk.pu_cons, Fk.bi_lenl, Fk.bi_lent, Fk.bi_lenr, Fk.bi_lenp, Fk.ek_lenr, Fk.bi_int, Fk.bi_min, Fk.bi_max, Fk.bi_listl, Fk.bi_listt, Fk.bi_tupl, Fk.bi_tupt, Fk.bi_tupp, Fk.ek_tupr, Fk.bi_lisp, Fk.ek_lisr, Fk.bi_str, Fk.new_f, Fk.new_t, Fk.newK_f, Fk.ix_t, Fk.ix_l, Fk.ix_r, Fk.ix_p, Fk.ek_ixr, Fk.at_0, Fk.at_1, Fk.at_2, Fk.set_l, Fk.ek_st, Fk.ek_st2, Fk.ixN_0, Fk.ixN_1, Fk.ixN_2, Fk.me_app, Fk.ek_app, Fk.ty_app, Fk.ek_tyl, Fk.me_joinl, Fk.ek_join, Fk.ty_join, Fk.it_seql, Fk.it_seqt, Fk.it_seqr, Fk.it_rngn, Fk.it_rng, Fk.it_rng2, Fk.it_rev, Fk.it_revt, Fk.it_ziptl, Fk.it_zipll, Fk.it_ziptt, Fk.lk_p, Fk.sl_t, Fk.sl_l, Fk.cut_to, Fk.cut_from1, Fk.cut_1, Fk.cut_from, Fk.hl_get, Fk.hl_set, Fk.op_eqL, Fk.op_neL, Fk.op_eqT, Fk.op_neT, tyP, R.bind_ok, R.bind_ex, R.st_ok, R.st_ex, RS2.seq_nx, RS2.seq_rt, RS2.seq_ex, RS2.seq_bk, RS2.seq_ct, List.set_cons_zero, List.set_cons_succ, List.getElem?_cons_zero, List.getElem?_cons_succ, Option.map_some, reduceCtorEq, imp_self, implies_true, Bool.not_true, Bool.not_false, decide_true, decide_false, Nat.reduceAdd, Nat.reduceSub, Nat.reduceLT, Nat.reduceLeDiff, Nat.reduceEqDiff, Int.reduceLT, Int.reduceLE, Int.reduceEq, Int.reduceNeg, Int.reduceToNat, Nat.reduceBEq, and_self, true_and, and_true, Nat.reducePow, Int.reducePow, Int.reduceAdd, Int.reduceSub, Int.reduceMul, List.length_cons, List.length_nil, List.cons_append, List.nil_append, List.append_nil, Int.one_mul]
  exact en_rt rfl
theorem count_ok {n : Nat} {zs : List Int} {L : Hl} (h : Sz zs) : run S (n + 1) 12 [.v (.p (.lst (iP zs)))] L = .ok (.p (.int (prd zs))) L := by
  rw [r12_1]
  obtain ⟨y', e⟩ := prod_loop (cf := run S n) (cn := cnOf S) (s := .v (.p (.lst (iP zs)))) zs 1 1 .u L (by decide) (by decide) h.abs (by have := h.1; omega)
  simp -implicitDefEqProofs only [b12, show b12_0 = b7_0 from rfl, Fk.ev_var, Fk.ev_lit, Fk.ev_con, Fk.ek_ofO, Fk.ev_op, Fk.ek_op, Fk.ev_neg, Fk.ek_neg, Fk.ev_notv, Fk.ek_not, Fk.ek_not2, Fk.ev_andv, Fk.ek_and, Fk.ek_and1, Fk.ek_and0, Fk.ev_orv, Fk.ek_or, Fk.ek_or1, Fk.ek_or0, Fk.ev_chain, Fk.ek_ch, Fk.ek_ch2, Fk.ek_ch3t, Fk.ek_ch3f, Fk.ev_ite, Fk.ek_ite1, Fk.ek_ite0, Fk.ev_call, Fk.ev_bi, Fk.ek_bi1, Fk.ek_bi2, Fk.ev_me, Fk.ek_me, Fk.ek_meb, Fk.ek_me20, Fk.ek_me21, Fk.ek_me22, Fk.ev_tup, Fk.ek_tup, Fk.ek_tup2, Fk.ev_lst, Fk.ek_lst, Fk.ek_lst2, Fk.ev_trev, Fk.ek_trev, Fk.ev_lrng, Fk.ek_lrng, Fk.ev_hsum, Fk.ek_hsum, Fk.ek_hs2, Fk.ev_dct0, Fk.ev_ix, Fk.ek_ix, Fk.ev_sl, Fk.ek_sl, Fk.ek_sl2, Fk.ek_sl3, Fk.ev_fld, Fk.ek_fld, Fk.ev_isi, Fk.ek_isi, Fk.ek_blR, Fk.ev_exi, Fk.ek_exi, Fk.ev_exf, Fk.ek_exf, Fk.ev_comp, Fk.ek_comp, Fk.ek_comp3, Fk.ev_o0, Fk.ev_o1, Fk.ek_o1, Fk.ev_a0, Fk.ev_a1, Fk.ek_a, Fk.ek_a2, Fk.ev_a2, Fk.ek_exv, Fk.ev_its, Fk.ek_its1, Fk.ek_its2, Fk.ev_tand, Fk.ek_tand1, Fk.ek_tand0, Fk.ev_tor, Fk.ek_tor1, Fk.ek_tor0, Fk.ev_tnot, Fk.ek_tnot, Fk.ev_tval, Fk.ek_tval, Fk.ek_tv2, Fk.ev_tyes, Fk.ev_pass, Fk.ev_seq, Fk.ev_expr, Fk.ek_expr, Fk.ev_asg, Fk.ek_asg, Fk.ev_seti, Fk.ek_set, Fk.ek_set2, Fk.ek_set3, Fk.ek_set4, Fk.ev_ret, Fk.ek_ret, Fk.ev_retn, Fk.ev_if, Fk.ek_if1, Fk.ek_if0, Fk.ev_for, Fk.ek_for, Fk.ev_brk, Fk.ev_cont, Fk.ev_while, Fk.ev_frz, Fk.ek_frz, Fk.ek_frzp, Fk.ek_frz2, Fk.ev_raise, Fk.ek_raise, Fk.ek_raise2, Fk.ek_xp0, Fk.ek_xp1, Fk.ev_try, Fk.ek_try0, Fk.ek_tryx, Fk.ek_try1, Fk.ek_tryf, Fk.ek_endr, Fk.ek_endn, Fk.ek_endb, Fk.ek_endc, Fk.ev_forB, Fk.ev_forB2, Fk.ev_tB, Fk.ek_tB1, Fk.ek_tB0, Fk.ek_tB2, Fk.gv_0, Fk.gv_s, Fk.op_add, Fk.op_sub, Fk.op_mul, Fk.op_fdiv, Fk.op_fdivs, Fk.op_mod, Fk.op_pow, Fk.op_lt, Fk.op_le, Fk.op_gt, Fk.op_ge, Fk.op_eqi, Fk.op_eqb, Fk.op_eqs, Fk.op_nei, Fk.op_neb, Fk.op_nes, Fk.op_addl, Fk.op_addt, Fk.op_adds, Fk.tr_bl, Fk.tr_non, Fk.tr_int, Fk.tr_lst, Fk.tr_tup, Fk.va_nil, Fk.va_cons, Fk.pu_nil, Fk.pu_cons, Fk.bi_lenl, Fk.bi_lent, Fk.bi_lenr, Fk.bi_lenp, Fk.ek_lenr, Fk.bi_int, Fk.bi_min, Fk.bi_max, Fk.bi_listl, Fk.bi_listt, Fk.bi_tupl, Fk.bi_tupt, Fk.bi_tupp, Fk.ek_tupr, Fk.bi_lisp, Fk.ek_lisr, Fk.bi_str, Fk.new_f, Fk.new_t, Fk.newK_f, Fk.ix_t, Fk.ix_l, Fk.ix_r, Fk.ix_p, Fk.ek_ixr, Fk.at_0, Fk.at_1, Fk.at_2, Fk.set_l, Fk.ek_st, Fk.ek_st2, Fk.ixN_0, Fk.ixN_1, Fk.ixN_2, Fk.me_app, Fk.ek_app, Fk.ty_app, Fk.ek_tyl, Fk.me_joinl, Fk.ek_join, Fk.ty_join, Fk.it_seql, Fk.it_seqt, Fk.it_seqr, Fk.it_rngn, Fk.it_rng, Fk.it_rng2, Fk.it_rev, Fk.it_revt, Fk.it_ziptl, Fk.it_zipll, Fk.it_ziptt, Fk.lk_p, Fk.sl_t, Fk.sl_l, Fk.cut_to, Fk.cut_from1, Fk.cut_1, Fk.cut_from, Fk.hl_get, Fk.hl_set, Fk.op_eqL, Fk.op_neL, Fk.op_eqT, Fk.op_neT, tyP, R.bind_ok, R.bind_ex, R.st_ok, R.st_ex, RS2.seq_nx, RS2.seq_rt, RS2.seq_ex, RS2.seq_bk, RS2.seq_ct, List.set_cons_zero, List.set_cons_succ, List.getElem?_cons_zero, List.getElem?_cons_succ, Option.map_some, reduceCtorEq, imp_self, implies_true, Bool.not_true, Bool.not_false, decide_true, decide_false, Nat.reduceAdd, Nat.reduceSub, Nat.reduceLT, Nat.reduceLeDiff, Nat.reduceEqDiff, Int.reduceLT, Int.reduceLE, Int.reduceEq, Int.reduceNeg, Int.reduceToNat, Nat.reduceBEq, and_self, true_and, and_true, Nat.reducePow, Int.reducePow, Int.reduceAdd, Int.reduceSub, Int.reduceMul, List.length_cons, List.length_nil, List.cons_append, List.nil_append, List.append_nil]
  rw [e]
  simp -implicitDefEqProofs only [Fk.ev_var, Fk.ev_lit, Fk.ev_con, Fk.ek_ofO, Fk.ev_op, Fk.ek_op, Fk.ev_neg, Fk.ek_neg, Fk.ev_notv, Fk.ek_not, Fk.ek_not2, Fk.ev_andv, Fk.ek_and, Fk.ek_and1, Fk.ek_and0, Fk.ev_orv, Fk.ek_or, Fk.ek_or1, Fk.ek_or0, Fk.ev_chain, Fk.ek_ch, Fk.ek_ch2, Fk.ek_ch3t, Fk.ek_ch3f, Fk.ev_ite, Fk.ek_ite1, Fk.ek_ite0, Fk.ev_call, Fk.ev_bi, Fk.ek_bi1, Fk.ek_bi2, Fk.ev_me, Fk.ek_me, Fk.ek_meb, Fk.ek_me20, Fk.ek_me21, Fk.ek_me22, Fk.ev_tup, Fk.ek_tup, Fk.ek_tup2, Fk.ev_lst, Fk.ek_lst, Fk.ek_lst2, Fk.ev_trev, Fk.ek_trev, Fk.ev_lrng, Fk.ek_lrng, Fk.ev_hsum, Fk.ek_hsum, Fk.ek_hs2, Fk.ev_dct0, Fk.ev_ix, Fk.ek_ix, Fk.ev_sl, Fk.ek_sl, Fk.ek_sl2, Fk.ek_sl3, Fk.ev_fld, Fk.ek_fld, Fk.ev_isi, Fk.ek_isi, Fk.ek_blR, Fk.ev_exi, Fk.ek_exi, Fk.ev_exf, Fk.ek_exf, Fk.ev_comp, Fk.ek_comp, Fk.ek_comp3, Fk.ev_o0, Fk.ev_o1, Fk.ek_o1, Fk.ev_a0, Fk.ev_a1, Fk.ek_a, Fk.ek_a2, Fk.ev_a2, Fk.ek_exv, Fk.ev_its, Fk.ek_its1, Fk.ek_its2, Fk.ev_tand, Fk.ek_tand1, Fk.ek_tand0, Fk.ev_tor, Fk.ek_tor1, Fk.ek_tor0, Fk.ev_tnot, Fk.ek_tnot, Fk.ev_tval, Fk.ek_tval, Fk.ek_tv2, Fk.ev_tyes, Fk.ev_pass, Fk.ev_seq, Fk.ev_expr, Fk.ek_expr, Fk.ev_asg, Fk.ek_asg, Fk.ev_seti, Fk.ek_set, Fk.ek_set2, Fk.ek_set3, Fk.ek_set4, Fk.ev_ret, Fk.ek_ret, Fk.ev_retn, Fk.ev_if, Fk.ek_if1, Fk.ek_if0, Fk.ev_for, Fk.ek_for, Fk.ev_brk, Fk.ev_cont, Fk.ev_while, Fk.ev_frz, Fk.ek_frz, Fk.ek_frzp, Fk.ek_frz2, Fk.ev_raise, Fk.ek_raise, Fk.ek_raise2, Fk.ek_xp0, Fk.ek_xp1, Fk.ev_try, Fk.ek_try0, Fk.ek_tryx, Fk.ek_try1, Fk.ek_tryf, Fk.ek_endr, Fk.ek_endn, Fk.ek_endb, Fk.ek_endc, Fk.ev_forB, Fk.ev_forB2, Fk.ev_tB, Fk.ek_tB1, Fk.ek_tB0, Fk.ek_tB2, Fk.gv_0, Fk.gv_s, Fk.op_add, Fk.op_sub, Fk.op_mul, Fk.op_fdiv, Fk.op_fdivs, Fk.op_mod, Fk.op_pow, Fk.op_lt, Fk.op_le, Fk.op_gt, Fk.op_ge, Fk.op_eqi, Fk.op_eqb, Fk.op_eqs, Fk.op_nei, Fk.op_neb, Fk.op_nes, Fk.op_addl, Fk.op_addt, Fk.op_adds, Fk.tr_bl, Fk.tr_non, Fk.tr_int, Fk.tr_lst, Fk.tr_tup, Fk.va_nil, Fk.va_cons, Fk.pu_nil, Fk.pu_cons, Fk.bi_lenl, Fk.bi_lent, Fk.bi_lenr, Fk.bi_lenp, Fk.ek_lenr, Fk.bi_int, Fk.bi_min, Fk.bi_max, Fk.bi_listl, Fk.bi_listt, Fk.bi_tupl, Fk.bi_tupt, Fk.bi_tupp, Fk.ek_tupr, Fk.bi_lisp, Fk.ek_lisr, Fk.bi_str, Fk.new_f, Fk.new_t, Fk.newK_f, Fk.ix_t, Fk.ix_l, Fk.ix_r, Fk.ix_p, Fk.ek_ixr, Fk.at_0, Fk.at_1, Fk.at_2, Fk.set_l, Fk.ek_st, Fk.ek_st2, Fk.ixN_0, Fk.ixN_1, Fk.ixN_2, Fk.me_app, Fk.ek_app, Fk.ty_app, Fk.ek_tyl, Fk.me_joinl, Fk.ek_join, Fk.ty_join, Fk.it_seql, Fk.it_seqt, Fk.it_seqr, Fk.it_rngn, Fk.it_rng, Fk.it_rng2, Fk.it_rev, Fk.it_revt, Fk.it_ziptl, Fk.it_zipll, Fk.it_ziptt, Fk.lk_p, Fk.sl_t, Fk.sl_l, Fk.cut_to, Fk.cut_from1, Fk.cut_1, Fk.cut_from, Fk.hl_get, Fk.hl_set, Fk.op_eqL, Fk.op_neL, Fk.op_eqT, Fk.op_neT, tyP, R.bind_ok, R.bind_ex, R.st_ok, R.st_ex, RS2.seq_nx, RS2.seq_rt, RS2.seq_ex, RS2.seq_bk, RS2.seq_ct, List.set_cons_zero, List.set_cons_succ, List.getElem?_cons_zero, List.getElem?_cons_succ, Option.map_some, reduceCtorEq, imp_self, implies_true, Bool.not_true, Bool.not_false, decide_true, decide_false, Nat.reduceAdd, Nat.reduceSub, Nat.reduceLT, Nat.reduceLeDiff, Nat.reduceEqDiff, Int.reduceLT, Int.reduceLE, Int.reduceEq, Int.reduceNeg, Int.reduceToNat, Nat.reduceBEq, and_self, true_and, and_true, Nat.reducePow, Int.reducePow, Int.reduceAdd, Int.reduceSub, Int.reduceMul, List.length_cons, List.length_nil, List.cons_append, List.nil_append, List.append_nil, Int.one_mul]
  exact en_rt rfl
def okm (x : P) (l : Int) : Bool := match x with
  | .int i => decide (0 ≤ i) && decide (i < l)
  | _ => false
theorem below_ok {n : Nat} {x : P} {l : Int} {L : Hl} (h : (tyP x .int).isSome = true) : run S (n + 1) 10 [.v (.p x), .v (.p (.int l))] L = .ok (.p (.bl (okm x l))) L := by
  rw [r10_2]
  cases x
  case int i =>
    by_cases h0 : 0 ≤ i <;> simp -implicitDefEqProofs only [b10, Fk.ev_var, Fk.ev_lit, Fk.ev_con, Fk.ek_ofO, Fk.ev_op, Fk.ek_op, Fk.ev_neg, Fk.ek_neg, Fk.ev_notv, Fk.ek_not, Fk.ek_not2, Fk.ev_andv, Fk.ek_and, Fk.ek_and1, Fk.ek_and0, Fk.ev_orv, Fk.ek_or, Fk.ek_or1, Fk.ek_or0, Fk.ev_chain, Fk.ek_ch, Fk.ek_ch2, Fk.ek_ch3t, Fk.ek_ch3f, Fk.ev_ite, Fk.ek_ite1, Fk.ek_ite0, Fk.ev_call, Fk.ev_bi, Fk.ek_bi1, Fk.ek_bi2, Fk.ev_me, Fk.ek_me, Fk.ek_meb, Fk.ek_me20, Fk.ek_me21, Fk.ek_me22, Fk.ev_tup, Fk.ek_tup, Fk.ek_tup2, Fk.ev_lst, Fk.ek_lst, Fk.ek_lst2, Fk.ev_trev, Fk.ek_trev, Fk.ev_lrng, Fk.ek_lrng, Fk.ev_hsum, Fk.ek_hsum, Fk.ek_hs2, Fk.ev_dct0, Fk.ev_ix, Fk.ek_ix, Fk.ev_sl, Fk.ek_sl, Fk.ek_sl2, Fk.ek_sl3, Fk.ev_fld, Fk.ek_fld, Fk.ev_isi, Fk.ek_isi, Fk.ek_blR, Fk.ev_exi, Fk.ek_exi, Fk.ev_exf, Fk.ek_exf, Fk.ev_comp, Fk.ek_comp, Fk.ek_comp3, Fk.ev_o0, Fk.ev_o1, Fk.ek_o1, Fk.ev_a0, Fk.ev_a1, Fk.ek_a, Fk.ek_a2, Fk.ev_a2, Fk.ek_exv, Fk.ev_its, Fk.ek_its1, Fk.ek_its2, Fk.ev_tand, Fk.ek_tand1, Fk.ek_tand0, Fk.ev_tor, Fk.ek_tor1, Fk.ek_tor0, Fk.ev_tnot, Fk.ek_tnot, Fk.ev_tval, Fk.ek_tval, Fk.ek_tv2, Fk.ev_tyes, Fk.ev_pass, Fk.ev_seq, Fk.ev_expr, Fk.ek_expr, Fk.ev_asg, Fk.ek_asg, Fk.ev_seti, Fk.ek_set, Fk.ek_set2, Fk.ek_set3, Fk.ek_set4, Fk.ev_ret, Fk.ek_ret, Fk.ev_retn, Fk.ev_if, Fk.ek_if1, Fk.ek_if0, Fk.ev_for, Fk.ek_for, Fk.ev_brk, Fk.ev_cont, Fk.ev_while, Fk.ev_frz, Fk.ek_frz, Fk.ek_frzp, Fk.ek_frz2, Fk.ev_raise, Fk.ek_raise, Fk.ek_raise2, Fk.ek_xp0, Fk.ek_xp1, Fk.ev_try, Fk.ek_try0, Fk.ek_tryx, Fk.ek_try1, Fk.ek_tryf, Fk.ek_endr, Fk.ek_endn, Fk.ek_endb, Fk.ek_endc, Fk.ev_forB, Fk.ev_forB2, Fk.ev_tB, Fk.ek_tB1, Fk.ek_tB0, Fk.ek_tB2, Fk.gv_0, Fk.gv_s, Fk.op_add, Fk.op_sub, Fk.op_mul, Fk.op_fdiv, Fk.op_fdivs, Fk.op_mod, Fk.op_pow, Fk.op_lt, Fk.op_le, Fk.op_gt, Fk.op_ge, Fk.op_eqi, Fk.op_eqb, Fk.op_eqs, Fk.op_nei, Fk.op_neb, Fk.op_nes, Fk.op_addl, Fk.op_addt, Fk.op_adds, Fk.tr_bl, Fk.tr_non, Fk.tr_int, Fk.tr_lst, Fk.tr_tup, Fk.va_nil, Fk.va_cons, Fk.pu_nil, Fk.pu_cons, Fk.bi_lenl, Fk.bi_lent, Fk.bi_lenr, Fk.bi_lenp, Fk.ek_lenr, Fk.bi_int, Fk.bi_min, Fk.bi_max, Fk.bi_listl, Fk.bi_listt, Fk.bi_tupl, Fk.bi_tupt, Fk.bi_tupp, Fk.ek_tupr, Fk.bi_lisp, Fk.ek_lisr, Fk.bi_str, Fk.new_f, Fk.new_t, Fk.newK_f, Fk.ix_t, Fk.ix_l, Fk.ix_r, Fk.ix_p, Fk.ek_ixr, Fk.at_0, Fk.at_1, Fk.at_2, Fk.set_l, Fk.ek_st, Fk.ek_st2, Fk.ixN_0, Fk.ixN_1, Fk.ixN_2, Fk.me_app, Fk.ek_app, Fk.ty_app, Fk.ek_tyl, Fk.me_joinl, Fk.ek_join, Fk.ty_join, Fk.it_seql, Fk.it_seqt, Fk.it_seqr, Fk.it_rngn, Fk.it_rng, Fk.it_rng2, Fk.it_rev, Fk.it_revt, Fk.it_ziptl, Fk.it_zipll, Fk.it_ziptt, Fk.lk_p, Fk.sl_t, Fk.sl_l, Fk.cut_to, Fk.cut_from1, Fk.cut_1, Fk.cut_from, Fk.hl_get, Fk.hl_set, Fk.op_eqL, Fk.op_neL, Fk.op_eqT, Fk.op_neT, tyP, R.bind_ok, R.bind_ex, R.st_ok, R.st_ex, RS2.seq_nx, RS2.seq_rt, RS2.seq_ex, RS2.seq_bk, RS2.seq_ct, List.set_cons_zero, List.set_cons_succ, List.getElem?_cons_zero, List.getElem?_cons_succ, Option.map_some, reduceCtorEq, imp_self, implies_true, Bool.not_true, Bool.not_false, decide_true, decide_false, Nat.reduceAdd, Nat.reduceSub, Nat.reduceLT, Nat.reduceLeDiff, Nat.reduceEqDiff, Int.reduceLT, Int.reduceLE, Int.reduceEq, Int.reduceNeg, Int.reduceToNat, Nat.reduceBEq, and_self, true_and, and_true, Nat.reducePow, Int.reducePow, Int.reduceAdd, Int.reduceSub, Int.reduceMul, List.length_cons, List.length_nil, List.cons_append, List.nil_append, List.append_nil, h0, okm, Bool.false_and, Bool.true_and] <;> exact en_rt rfl
  case obj => cases h
  case cls => cases h
  case ty => cases h
  all_goals
    simp -implicitDefEqProofs only [b10, Fk.ev_var, Fk.ev_lit, Fk.ev_con, Fk.ek_ofO, Fk.ev_op, Fk.ek_op, Fk.ev_neg, Fk.ek_neg, Fk.ev_notv, Fk.ek_not, Fk.ek_not2, Fk.ev_andv, Fk.ek_and, Fk.ek_and1, Fk.ek_and0, Fk.ev_orv, Fk.ek_or, Fk.ek_or1, Fk.ek_or0, Fk.ev_chain, Fk.ek_ch, Fk.ek_ch2, Fk.ek_ch3t, Fk.ek_ch3f, Fk.ev_ite, Fk.ek_ite1, Fk.ek_ite0, Fk.ev_call, Fk.ev_bi, Fk.ek_bi1, Fk.ek_bi2, Fk.ev_me, Fk.ek_me, Fk.ek_meb, Fk.ek_me20, Fk.ek_me21, Fk.ek_me22, Fk.ev_tup, Fk.ek_tup, Fk.ek_tup2, Fk.ev_lst, Fk.ek_lst, Fk.ek_lst2, Fk.ev_trev, Fk.ek_trev, Fk.ev_lrng, Fk.ek_lrng, Fk.ev_hsum, Fk.ek_hsum, Fk.ek_hs2, Fk.ev_dct0, Fk.ev_ix, Fk.ek_ix, Fk.ev_sl, Fk.ek_sl, Fk.ek_sl2, Fk.ek_sl3, Fk.ev_fld, Fk.ek_fld, Fk.ev_isi, Fk.ek_isi, Fk.ek_blR, Fk.ev_exi, Fk.ek_exi, Fk.ev_exf, Fk.ek_exf, Fk.ev_comp, Fk.ek_comp, Fk.ek_comp3, Fk.ev_o0, Fk.ev_o1, Fk.ek_o1, Fk.ev_a0, Fk.ev_a1, Fk.ek_a, Fk.ek_a2, Fk.ev_a2, Fk.ek_exv, Fk.ev_its, Fk.ek_its1, Fk.ek_its2, Fk.ev_tand, Fk.ek_tand1, Fk.ek_tand0, Fk.ev_tor, Fk.ek_tor1, Fk.ek_tor0, Fk.ev_tnot, Fk.ek_tnot, Fk.ev_tval, Fk.ek_tval, Fk.ek_tv2, Fk.ev_tyes, Fk.ev_pass, Fk.ev_seq, Fk.ev_expr, Fk.ek_expr, Fk.ev_asg, Fk.ek_asg, Fk.ev_seti, Fk.ek_set, Fk.ek_set2, Fk.ek_set3, Fk.ek_set4, Fk.ev_ret, Fk.ek_ret, Fk.ev_retn, Fk.ev_if, Fk.ek_if1, Fk.ek_if0, Fk.ev_for, Fk.ek_for, Fk.ev_brk, Fk.ev_cont, Fk.ev_while, Fk.ev_frz, Fk.ek_frz, Fk.ek_frzp, Fk.ek_frz2, Fk.ev_raise, Fk.ek_raise, Fk.ek_raise2, Fk.ek_xp0, Fk.ek_xp1, Fk.ev_try, Fk.ek_try0, Fk.ek_tryx, Fk.ek_try1, Fk.ek_tryf, Fk.ek_endr, Fk.ek_endn, Fk.ek_endb, Fk.ek_endc, Fk.ev_forB, Fk.ev_forB2, Fk.ev_tB, Fk.ek_tB1, Fk.ek_tB0, Fk.ek_tB2, Fk.gv_0, Fk.gv_s, Fk.op_add, Fk.op_sub, Fk.op_mul, Fk.op_fdiv, Fk.op_fdivs, Fk.op_mod, Fk.op_pow, Fk.op_lt, Fk.op_le, Fk.op_gt, Fk.op_ge, Fk.op_eqi, Fk.op_eqb, Fk.op_eqs, Fk.op_nei, Fk.op_neb, Fk.op_nes, Fk.op_addl, Fk.op_addt, Fk.op_adds, Fk.tr_bl, Fk.tr_non, Fk.tr_int, Fk.tr_lst, Fk.tr_tup, Fk.va_nil, Fk.va_cons, Fk.pu_nil, Fk.pu_cons, Fk.bi_lenl, Fk.bi_lent, Fk.bi_lenr, Fk.bi_lenp, Fk.ek_lenr, Fk.bi_int, Fk.bi_min, Fk.bi_max, Fk.bi_listl, Fk.bi_listt, Fk.bi_tupl, Fk.bi_tupt, Fk.bi_tupp, Fk.ek_tupr, Fk.bi_lisp, Fk.ek_lisr, Fk.bi_str, Fk.new_f, Fk.new_t, Fk.newK_f, Fk.ix_t, Fk.ix_l, Fk.ix_r, Fk.ix_p, Fk.ek_ixr, Fk.at_0, Fk.at_1, Fk.at_2, Fk.set_l, Fk.ek_st, Fk.ek_st2, Fk.ixN_0, Fk.ixN_1, Fk.ixN_2, Fk.me_app, Fk.ek_app, Fk.ty_app, Fk.ek_tyl, Fk.me_joinl, Fk.ek_join, Fk.ty_join, Fk.it_seql, Fk.it_seqt, Fk.it_seqr, Fk.it_rngn, Fk.it_rng, Fk.it_rng2, Fk.it_rev, Fk.it_revt, Fk.it_ziptl, Fk.it_zipll, Fk.it_ziptt, Fk.lk_p, Fk.sl_t, Fk.sl_l, Fk.cut_to, Fk.cut_from1, Fk.cut_1, Fk.cut_from, Fk.hl_get, Fk.hl_set, Fk.op_eqL, Fk.op_neL, Fk.op_eqT, Fk.op_neT, tyP, R.bind_ok, R.bind_ex, R.st_ok, R.st_ex, RS2.seq_nx, RS2.seq_rt, RS2.seq_ex, RS2.seq_bk, RS2.seq_ct, List.set_cons_zero, List.set_cons_succ, List.getElem?_cons_zero, List.getElem?_cons_succ, Option.map_some, reduceCtorEq, imp_self, implies_true, Bool.not_true, Bool.not_false, decide_true, decide_false, Nat.reduceAdd, Nat.reduceSub, Nat.reduceLT, Nat.reduceLeDiff, Nat.reduceEqDiff, Int.reduceLT, Int.reduceLE, Int.reduceEq, Int.reduceNeg, Int.reduceToNat, Nat.reduceBEq, and_self, true_and, and_true, Nat.reducePow, Int.reducePow, Int.reduceAdd, Int.reduceSub, Int.reduceMul, List.length_cons, List.length_nil, List.cons_append, List.nil_append, List.append_nil]
    exact en_rt rfl
end Lw

set_option Elab.async false
set_option linter.all false
set_option autoImplicit false
set_option maxRecDepth 100000
set_option maxHeartbeats 2000000
namespace Lw
open PySem PySem.Spec PyProof.Rows L2 Fk
/-! the number of a state -/
def hn : List Int → List Int → Int → Int
  | m :: ms, z :: zs, a => hn ms zs (a * z + m)
  | _, _, a => a
def val : List Int → List Int → Int
  | m :: ms, _ :: zs => m * prd zs + val ms zs
  | _, _ => 0
def Vs : List Int → List Int → Prop
  | [], [] => True
  | m :: ms, z :: zs => 0 ≤ m ∧ m < z ∧ Vs ms zs
  | _, _ => False
theorem Vs.len : ∀ {ms zs : List Int}, Vs ms zs → ms.length = zs.length
  | [], [], _ => rfl
  | _ :: _, _ :: _, h => congrArg (· + 1) (Vs.len h.2.2)
  | [], _ :: _, h => h.elim
  | _ :: _, [], h => h.elim
theorem hn_val : ∀ {ms zs : List Int} (a : Int), ms.length = zs.length → hn ms zs a = a * prd zs + val ms zs
  | [], [], a, _ => by simp [hn, prd, val]
  | m :: ms, z :: zs, a, h => by
    rw [hn, hn_val _ (by simpa using h), val, prd, Int.add_mul, Int.mul_assoc, Int.add_assoc]
  | [], _ :: _, _, h => by simp at h
  | _ :: _, [], _, h => by simp at h
theorem prd_pos : ∀ {zs : List Int}, (∀ z ∈ zs, 1 ≤ z) → 1 ≤ prd zs
  | [], _ => by simp [prd]
  | z :: zs, h => by
    rw [prd]
    have h1 := h z List.mem_cons_self
    have h2 := prd_pos fun y hy => h y (List.mem_cons_of_mem _ hy)
    have := Int.mul_le_mul h1 h2 (by decide) (by omega)
    simpa using this
theorem Vs.pos : ∀ {ms zs : List Int}, Vs ms zs → ∀ z ∈ zs, 1 ≤ z
  | [], [], _ => by simp
  | m :: ms, z :: zs, h => fun y hy => by
    rcases List.mem_cons.mp hy with rfl | hy
    · have := h.1; have := h.2.1; omega
    · exact Vs.pos h.2.2 y hy
  | [], _ :: _, h => h.elim
  | _ :: _, [], h => h.elim
theorem val_lt : ∀ {ms zs : List Int}, Vs ms zs → 0 ≤ val ms zs ∧ val ms zs < prd zs
  | [], [], _ => by simp [val, prd]
  | m :: ms, z :: zs, h => by
    obtain ⟨h1, h2, h3⟩ := h
    obtain ⟨v1, v2⟩ := val_lt h3
    have hp := prd_pos h3.pos
    rw [val, prd]
    have a1 : 0 ≤ m * prd zs := Int.mul_nonneg h1 (by omega)
    have a2 : (m + 1) * prd zs ≤ z * prd zs := Int.mul_le_mul_of_nonneg_right (by omega) (by omega)
    rw [Int.add_mul, Int.one_mul] at a2
    omega
  | [], _ :: _, h => h.elim
  | _ :: _, [], h => h.elim
theorem val_app : ∀ {ms zs : List Int} {m' z' : List Int}, ms.length = zs.length → val (ms ++ m') (zs ++ z') = val ms zs * prd z' + val m' z'
  | [], [], _, _, _ => by simp [val]
  | m :: ms, z :: zs, m', z', h => by
    rw [List.cons_append, List.cons_append, val, val_app (by simpa using h), val, prd_app, Int.add_mul, Int.mul_assoc, Int.add_assoc]
  | [], _ :: _, _, _, h => by simp at h
  | _ :: _, [], _, _, h => by simp at h
theorem Vs.app : ∀ {ms zs m' z' : List Int}, Vs ms zs → Vs m' z' → Vs (ms ++ m') (zs ++ z')
  | [], [], _, _, _, h => h
  | m :: ms, z :: zs, _, _, h, h' => ⟨h.1, h.2.1, Vs.app h.2.2 h'⟩
  | [], _ :: _, _, _, h, _ => h.elim
  | _ :: _, [], _, _, h, _ => h.elim
/-! pack -/
def pk : List P → List Int → Int → Option Int
  | .int m :: ms, z :: zs, a => if 0 ≤ m ∧ m < z then pk ms zs (a * z + m) else none
  | _ :: _, _ :: _, _ => none
  | _, _, a => some a
def Typ (ms : List P) : Prop := ∀ m ∈ ms, (tyP m .int).isSome = true
theorem pk_step {m : P} {ms : List P} {z : Int} {zs : List Int} {a : Int} : pk (m :: ms) (z :: zs) a = match m with
    | .int i => if okm (.int i) z then pk ms zs (a * z + i) else none
    | _ => none := by
  cases m <;> first | rfl | skip
  rename_i i
  simp only [pk, okm, Bool.and_eq_true, decide_eq_true_eq]
theorem pk_val : ∀ {ms zs : List Int} (a : Int), Vs ms zs → pk (iP ms) zs a = some (hn ms zs a)
  | [], [], a, _ => rfl
  | m :: ms, z :: zs, a, h => by
    rw [iP, List.map_cons, pk, if_pos ⟨h.1, h.2.1⟩, hn]
    exact pk_val _ h.2.2
  | [], _ :: _, _, h => h.elim
  | _ :: _, [], _, h => h.elim
def prs (ms zs : List P) : List P := (ms.zip zs).map fun q => .tup [q.1, q.2]
theorem pack_loop {n : Nat} {s1 s2 : Sl} : ∀ (ms : List P) (zs : List Int) (a : Int) (m : Nat) (y1 y2 : Sl) (L : Hl), Typ ms → a.natAbs < 2 ^ m → 0 < m → (∀ z ∈ zs, z.natAbs < 2 ^ 40) → m + 41 * zs.length ≤ 400000 →
    match pk ms zs a with
    | some r => ∃ y1' y2', forL (forB (run S (n + 1)) (cnOf S) (.gt (.cons (.gn 3) (.cons (.gn 4) .nil))) b9_0) (prs ms (iP zs)) [s1, s2, .v (.p (.int a)), y1, y2] L = .ok (.nx [s1, s2, .v (.p (.int r)), y1', y2']) L
    | none => ∃ t, forL (forB (run S (n + 1)) (cnOf S) (.gt (.cons (.gn 3) (.cons (.gn 4) .nil))) b9_0) (prs ms (iP zs)) [s1, s2, .v (.p (.int a)), y1, y2] L = .ex 11 [] t L
  | [], zs, a, m, y1, y2, L, _, _, _, _, _ => by
    simp only [pk, prs, List.zip_nil_left, List.map_nil, forL]
    exact ⟨y1, y2, rfl⟩
  | p :: ms, [], a, m, y1, y2, L, _, _, _, _, _ => by
    have : pk (p :: ms) [] a = some a := by cases p <;> rfl
    rw [this]
    simp only [prs, iP, List.map_nil, List.zip_nil_right, forL]
    exact ⟨y1, y2, rfl⟩
  | p :: ms, z :: zs, a, m, y1, y2, L, ht, ha, hm, hz, hl => by
    have hp := ht p List.mem_cons_self
    have hz0 := hz z List.mem_cons_self
    rw [List.length_cons] at hl
    have g := mul_lt m 40 ha hz0 hm (by decide) (by omega)
    rw [pk_step, show prs (p :: ms) (iP (z :: zs)) = .tup [p, .int z] :: prs ms (iP zs) from rfl, forL]
    have bl := below_ok (n := n) (l := z) (L := L) hp
    cases p
    case int i =>
      dsimp only
      cases hk : okm (.int i) z with
      | false =>
        rw [hk] at bl
        rw [if_neg (by decide)]
        refine ⟨[s1, s2, .v (.p (.int a)), .v (.p (.int i)), .v (.p (.int z))], ?_⟩
        simp -implicitDefEqProofs only [b9_0, Fk.ev_var, Fk.ev_lit, Fk.ev_con, Fk.ek_ofO, Fk.ev_op, Fk.ek_op, Fk.ev_neg, Fk.ek_neg, Fk.ev_notv, Fk.ek_not, Fk.ek_not2, Fk.ev_andv, Fk.ek_and, Fk.ek_and1, Fk.ek_and0, Fk.ev_orv, Fk.ek_or, Fk.ek_or1, Fk.ek_or0, Fk.ev_chain, Fk.ek_ch, Fk.ek_ch2, Fk.ek_ch3t, Fk.ek_ch3f, Fk.ev_ite, Fk.ek_ite1, Fk.ek_ite0, Fk.ev_call, Fk.ev_bi, Fk.ek_bi1, Fk.ek_bi2, Fk.ev_me, Fk.ek_me, Fk.ek_meb, Fk.ek_me20, Fk.ek_me21, Fk.ek_me22, Fk.ev_tup, Fk.ek_tup, Fk.ek_tup2, Fk.ev_lst, Fk.ek_lst, Fk.ek_lst2, Fk.ev_trev, Fk.ek_trev, Fk.ev_lrng, Fk.ek_lrng, Fk.ev_hsum, Fk.ek_hsum, Fk.ek_hs2, Fk.ev_dct0, Fk.ev_ix, Fk.ek_ix, Fk.ev_sl, Fk.ek_sl, Fk.ek_sl2, Fk.ek_sl3, Fk.ev_fld, Fk.ek_fld, Fk.ev_isi, Fk.ek_isi, Fk.ek_blR, Fk.ev_exi, Fk.ek_exi, Fk.ev_exf, Fk.ek_exf, Fk.ev_comp, Fk.ek_comp, Fk.ek_comp3, Fk.ev_o0, Fk.ev_o1, Fk.ek_o1, Fk.ev_a0, Fk.ev_a1, Fk.ek_a, Fk.ek_a2, Fk.ev_a2, Fk.ek_exv, Fk.ev_its, Fk.ek_its1, Fk.ek_its2, Fk.ev_tand, Fk.ek_tand1, Fk.ek_tand0, Fk.ev_tor, Fk.ek_tor1, Fk.ek_tor0, Fk.ev_tnot, Fk.ek_tnot, Fk.ev_tval, Fk.ek_tval, Fk.ek_tv2, Fk.ev_tyes, Fk.ev_pass, Fk.ev_seq, Fk.ev_expr, Fk.ek_expr, Fk.ev_asg, Fk.ek_asg, Fk.ev_seti, Fk.ek_set, Fk.ek_set2, Fk.ek_set3, Fk.ek_set4, Fk.ev_ret, Fk.ek_ret, Fk.ev_retn, Fk.ev_if, Fk.ek_if1, Fk.ek_if0, Fk.ev_for, Fk.ek_for, Fk.ev_brk, Fk.ev_cont, Fk.ev_while, Fk.ev_frz, Fk.ek_frz, Fk.ek_frzp, Fk.ek_frz2, Fk.ev_raise, Fk.ek_raise, Fk.ek_raise2, Fk.ek_xp0, Fk.ek_xp1, Fk.ev_try, Fk.ek_try0, Fk.ek_tryx, Fk.ek_try1, Fk.ek_tryf, Fk.ek_endr, Fk.ek_endn, Fk.ek_endb, Fk.ek_endc, Fk.ev_forB, Fk.ev_forB2, Fk.ev_tB, Fk.ek_tB1, Fk.ek_tB0, Fk.ek_tB2, Fk.gv_0, Fk.gv_s, Fk.op_add, Fk.op_sub, Fk.op_mul, Fk.op_fdiv, Fk.op_fdivs, Fk.op_mod, Fk.op_pow, Fk.op_lt, Fk.op_le, Fk.op_gt, Fk.op_ge, Fk.op_eqi, Fk.op_eqb, Fk.op_eqs, Fk.op_nei, Fk.op_neb, Fk.op_nes, Fk.op_addl, Fk.op_addt, Fk.op_adds, Fk.tr_bl, Fk.tr_non, Fk.tr_int, Fk.tr_lst, Fk.tr_tup, Fk.va_nil, Fk.va_cons, Fk.pu_nil, Fk.pu_cons, Fk.bi_lenl, Fk.bi_lent, Fk.bi_lenr, Fk.bi_lenp, Fk.ek_lenr, Fk.bi_int, Fk.bi_min, Fk.bi_max, Fk.bi_listl, Fk.bi_listt, Fk.bi_tupl, Fk.bi_tupt, Fk.bi_tupp, Fk.ek_tupr, Fk.bi_lisp, Fk.ek_lisr, Fk.bi_str, Fk.new_f, Fk.new_t, Fk.newK_f, Fk.ix_t, Fk.ix_l, Fk.ix_r, Fk.ix_p, Fk.ek_ixr, Fk.at_0, Fk.at_1, Fk.at_2, Fk.set_l, Fk.ek_st, Fk.ek_st2, Fk.ixN_0, Fk.ixN_1, Fk.ixN_2, Fk.me_app, Fk.ek_app, Fk.ty_app, Fk.ek_tyl, Fk.me_joinl, Fk.ek_join, Fk.ty_join, Fk.it_seql, Fk.it_seqt, Fk.it_seqr, Fk.it_rngn, Fk.it_rng, Fk.it_rng2, Fk.it_rev, Fk.it_revt, Fk.it_ziptl, Fk.it_zipll, Fk.it_ziptt, Fk.lk_p, Fk.sl_t, Fk.sl_l, Fk.cut_to, Fk.cut_from1, Fk.cut_1, Fk.cut_from, Fk.hl_get, Fk.hl_set, Fk.op_eqL, Fk.op_neL, Fk.op_eqT, Fk.op_neT, tyP, R.bind_ok, R.bind_ex, R.st_ok, R.st_ex, RS2.seq_nx, RS2.seq_rt, RS2.seq_ex, RS2.seq_bk, RS2.seq_ct, List.set_cons_zero, List.set_cons_succ, List.getElem?_cons_zero, List.getElem?_cons_succ, Option.map_some, reduceCtorEq, imp_self, implies_true, Bool.not_true, Bool.not_false, decide_true, decide_false, Nat.reduceAdd, Nat.reduceSub, Nat.reduceLT, Nat.reduceLeDiff, Nat.reduceEqDiff, Int.reduceLT, Int.reduceLE, Int.reduceEq, Int.reduceNeg, Int.reduceToNat, Nat.reduceBEq, and_self, true_and, and_true, Nat.reducePow, Int.reducePow, Int.reduceAdd, Int.reduceSub, Int.reduceMul, List.length_cons, List.length_nil, List.cons_append, List.nil_append, List.append_nil, g, bl]
      | true =>
        rw [hk] at bl
        rw [if_pos rfl]
        have hi : 0 ≤ i ∧ i < z := by simpa [okm] using hk
        have hb : (a * z + i).natAbs < 2 ^ (m + 41) := by
          have h1 := mul_abs ha hz0
          have h2 : i.natAbs < 2 ^ (m + 40) := Nat.lt_of_lt_of_le (show i.natAbs < 2 ^ 40 by omega) (pow_le (by omega))
          have h3 : (2 : Nat) ^ (m + 41) = 2 ^ (m + 40) + 2 ^ (m + 40) := by rw [show m + 41 = (m + 40) + 1 by omega, Nat.pow_succ]; omega
          have := Int.natAbs_add_le (a * z) i
          omega
        have ih := pack_loop (n := n) (s1 := s1) (s2 := s2) ms zs (a * z + i) (m + 41) (.v (.p (.int i))) (.v (.p (.int z))) L (fun q hq => ht q (List.mem_cons_of_mem _ hq)) hb (by omega) (fun y hy => hz y (List.mem_cons_of_mem _ hy)) (by omega)
        simp -implicitDefEqProofs only [b9_0, Fk.ev_var, Fk.ev_lit, Fk.ev_con, Fk.ek_ofO, Fk.ev_op, Fk.ek_op, Fk.ev_neg, Fk.ek_neg, Fk.ev_notv, Fk.ek_not, Fk.ek_not2, Fk.ev_andv, Fk.ek_and, Fk.ek_and1, Fk.ek_and0, Fk.ev_orv, Fk.ek_or, Fk.ek_or1, Fk.ek_or0, Fk.ev_chain, Fk.ek_ch, Fk.ek_ch2, Fk.ek_ch3t, Fk.ek_ch3f, Fk.ev_ite, Fk.ek_ite1, Fk.ek_ite0, Fk.ev_call, Fk.ev_bi, Fk.ek_bi1, Fk.ek_bi2, Fk.ev_me, Fk.ek_me, Fk.ek_meb, Fk.ek_me20, Fk.ek_me21, Fk.ek_me22, Fk.ev_tup, Fk.ek_tup, Fk.ek_tup2, Fk.ev_lst, Fk.ek_lst, Fk.ek_lst2, Fk.ev_trev, Fk.ek_trev, Fk.ev_lrng, Fk.ek_lrng, Fk.ev_hsum, Fk.ek_hsum, Fk.ek_hs2, Fk.ev_dct0, Fk.ev_ix, Fk.ek_ix, Fk.ev_sl, Fk.ek_sl, Fk.ek_sl2, Fk.ek_sl3, Fk.ev_fld, Fk.ek_fld, Fk.ev_isi, Fk.ek_isi, Fk.ek_blR, Fk.ev_exi, Fk.ek_exi, Fk.ev_exf, Fk.ek_exf, Fk.ev_comp, Fk.ek_comp, Fk.ek_comp3, Fk.ev_o0, Fk.ev_o1, Fk.ek_o1, Fk.ev_a0, Fk.ev_a1, Fk.ek_a, Fk.ek_a2, Fk.ev_a2, Fk.ek_exv, Fk.ev_its, Fk.ek_its1, Fk.ek_its2, Fk.ev_tand, Fk.ek_tand1, Fk.ek_tand0, Fk.ev_tor, Fk.ek_tor1, Fk.ek_tor0, Fk.ev_tnot, Fk.ek_tnot, Fk.ev_tval, Fk.ek_tval, Fk.ek_tv2, Fk.ev_tyes, Fk.ev_pass, Fk.ev_seq, Fk.ev_expr, Fk.ek_expr, Fk.ev_asg, Fk.ek_asg, Fk.ev_seti, Fk.ek_set, Fk.ek_set2, Fk.ek_set3, Fk.ek_set4, Fk.ev_ret, Fk.ek_ret, Fk.ev_retn, Fk.ev_if, Fk.ek_if1, Fk.ek_if0, Fk.ev_for, Fk.ek_for, Fk.ev_brk, Fk.ev_cont, Fk.ev_while, Fk.ev_frz, Fk.ek_frz, Fk.ek_frzp, Fk.ek_frz2, Fk.ev_raise, Fk.ek_raise, Fk.ek_raise2, Fk.ek_xp0, Fk.ek_xp1, Fk.ev_try, Fk.ek_try0, Fk.ek_tryx, Fk.ek_try1, Fk.ek_tryf, Fk.ek_endr, Fk.ek_endn, Fk.ek_endb, Fk.ek_endc, Fk.ev_forB, Fk.ev_forB2, Fk.ev_tB, Fk.ek_tB1, Fk.ek_tB0, Fk.ek_tB2, Fk.gv_0, Fk.gv_s, Fk.op_add, Fk.op_sub, Fk.op_mul, Fk.op_fdiv, Fk.op_fdivs, Fk.op_mod, Fk.op_pow, Fk.op_lt, Fk.op_le, Fk.op_gt, Fk.op_ge, Fk.op_eqi, Fk.op_eqb, Fk.op_eqs, Fk.op_nei, Fk.op_neb, Fk.op_nes, Fk.op_addl, Fk.op_addt, Fk.op_adds, Fk.tr_bl, Fk.tr_non, Fk.tr_int, Fk.tr_lst, Fk.tr_tup, Fk.va_nil, Fk.va_cons, Fk.pu_nil, Fk.pu_cons, Fk.bi_lenl, Fk.bi_lent, Fk.bi_lenr, Fk.bi_lenp, Fk.ek_lenr, Fk.bi_int, Fk.bi_min, Fk.bi_max, Fk.bi_listl, Fk.bi_listt, Fk.bi_tupl, Fk.bi_tupt, Fk.bi_tupp, Fk.ek_tupr, Fk.bi_lisp, Fk.ek_lisr, Fk.bi_str, Fk.new_f, Fk.new_t, Fk.newK_f, Fk.ix_t, Fk.ix_l, Fk.ix_r, Fk.ix_p, Fk.ek_ixr, Fk.at_0, Fk.at_1, Fk.at_2, Fk.set_l, Fk.ek_st, Fk.ek_st2, Fk.ixN_0, Fk.ixN_1, Fk.ixN_2, Fk.me_app, Fk.ek_app, Fk.ty_app, Fk.ek_tyl, Fk.me_joinl, Fk.ek_join, Fk.ty_join, Fk.it_seql, Fk.it_seqt, Fk.it_seqr, Fk.it_rngn, Fk.it_rng, Fk.it_rng2, Fk.it_rev, Fk.it_revt, Fk.it_ziptl, Fk.it_zipll, Fk.it_ziptt, Fk.lk_p, Fk.sl_t, Fk.sl_l, Fk.cut_to, Fk.cut_from1, Fk.cut_1, Fk.cut_from, Fk.hl_get, Fk.hl_set, Fk.op_eqL, Fk.op_neL, Fk.op_eqT, Fk.op_neT, tyP, R.bind_ok, R.bind_ex, R.st_ok, R.st_ex, RS2.seq_nx, RS2.seq_rt, RS2.seq_ex, RS2.seq_bk, RS2.seq_ct, List.set_cons_zero, List.set_cons_succ, List.getElem?_cons_zero, List.getElem?_cons_succ, Option.map_some, reduceCtorEq, imp_self, implies_true, Bool.not_true, Bool.not_false, decide_true, decide_false, Nat.reduceAdd, Nat.reduceSub, Nat.reduceLT, Nat.reduceLeDiff, Nat.reduceEqDiff, Int.reduceLT, Int.reduceLE, Int.reduceEq, Int.reduceNeg, Int.reduceToNat, Nat.reduceBEq, and_self, true_and, and_true, Nat.reducePow, Int.reducePow, Int.reduceAdd, Int.reduceSub, Int.reduceMul, List.length_cons, List.length_nil, List.cons_append, List.nil_append, List.append_nil, g, bl]
        exact ih
    all_goals
      have bl' : run S (n + 1) 10 [.v (.p _), .v (.p (.int z))] L = .ok (.p (.bl false)) L := bl
      exact ⟨[s1, s2, .v (.p (.int a)), .v (.p _), .v (.p (.int z))], by simp -implicitDefEqProofs only [b9_0, Fk.ev_var, Fk.ev_lit, Fk.ev_con, Fk.ek_ofO, Fk.ev_op, Fk.ek_op, Fk.ev_neg, Fk.ek_neg, Fk.ev_notv, Fk.ek_not, Fk.ek_not2, Fk.ev_andv, Fk.ek_and, Fk.ek_and1, Fk.ek_and0, Fk.ev_orv, Fk.ek_or, Fk.ek_or1, Fk.ek_or0, Fk.ev_chain, Fk.ek_ch, Fk.ek_ch2, Fk.ek_ch3t, Fk.ek_ch3f, Fk.ev_ite, Fk.ek_ite1, Fk.ek_ite0, Fk.ev_call, Fk.ev_bi, Fk.ek_bi1, Fk.ek_bi2, Fk.ev_me, Fk.ek_me, Fk.ek_meb, Fk.ek_me20, Fk.ek_me21, Fk.ek_me22, Fk.ev_tup, Fk.ek_tup, Fk.ek_tup2, Fk.ev_lst, Fk.ek_lst, Fk.ek_lst2, Fk.ev_trev, Fk.ek_trev, Fk.ev_lrng, Fk.ek_lrng, Fk.ev_hsum, Fk.ek_hsum, Fk.ek_hs2, Fk.ev_dct0, Fk.ev_ix, Fk.ek_ix, Fk.ev_sl, Fk.ek_sl, Fk.ek_sl2, Fk.ek_sl3, Fk.ev_fld, Fk.ek_fld, Fk.ev_isi, Fk.ek_isi, Fk.ek_blR, Fk.ev_exi, Fk.ek_exi, Fk.ev_exf, Fk.ek_exf, Fk.ev_comp, Fk.ek_comp, Fk.ek_comp3, Fk.ev_o0, Fk.ev_o1, Fk.ek_o1, Fk.ev_a0, Fk.ev_a1, Fk.ek_a, Fk.ek_a2, Fk.ev_a2, Fk.ek_exv, Fk.ev_its, Fk.ek_its1, Fk.ek_its2, Fk.ev_tand, Fk.ek_tand1, Fk.ek_tand0, Fk.ev_tor, Fk.ek_tor1, Fk.ek_tor0, Fk.ev_tnot, Fk.ek_tnot, Fk.ev_tval, Fk.ek_tval, Fk.ek_tv2, Fk.ev_tyes, Fk.ev_pass, Fk.ev_seq, Fk.ev_expr, Fk.ek_expr, Fk.ev_asg, Fk.ek_asg, Fk.ev_seti, Fk.ek_set, Fk.ek_set2, Fk.ek_set3, Fk.ek_set4, Fk.ev_ret, Fk.ek_ret, Fk.ev_retn, Fk.ev_if, Fk.ek_if1, Fk.ek_if0, Fk.ev_for, Fk.ek_for, Fk.ev_brk, Fk.ev_cont, Fk.ev_while, Fk.ev_frz, Fk.ek_frz, Fk.ek_frzp, Fk.ek_frz2, Fk.ev_raise, Fk.ek_raise, Fk.ek_raise2, Fk.ek_xp0, Fk.ek_xp1, Fk.ev_try, Fk.ek_try0, Fk.ek_tryx, Fk.ek_try1, Fk.ek_tryf, Fk.ek_endr, Fk.ek_endn, Fk.ek_endb, Fk.ek_endc, Fk.ev_forB, Fk.ev_forB2, Fk.ev_tB, Fk.ek_tB1, Fk.ek_tB0, Fk.ek_tB2, Fk.gv_0, Fk.gv_s, Fk.op_add, Fk.op_sub, Fk.op_mul, Fk.op_fdiv, Fk.op_fdivs, Fk.op_mod, Fk.op_pow, Fk.op_lt, Fk.op_le, Fk.op_gt, Fk.op_ge, Fk.op_eqi, Fk.op_eqb, Fk.op_eqs, Fk.op_nei, Fk.op_neb, Fk.op_nes, Fk.op_addl, Fk.op_addt, Fk.op_adds, Fk.tr_bl, Fk.tr_non, Fk.tr_int, Fk.tr_lst, Fk.tr_tup, Fk.va_nil, Fk.va_cons, Fk.pu_nil, Fk.pu_cons, Fk.bi_lenl, Fk.bi_lent, Fk.bi_lenr, Fk.bi_lenp, Fk.ek_lenr, Fk.bi_int, Fk.bi_min, Fk.bi_max, Fk.bi_listl, Fk.bi_listt, Fk.bi_tupl, Fk.bi_tupt, Fk.bi_tupp, Fk.ek_tupr, Fk.bi_lisp, Fk.ek_lisr, Fk.bi_str, Fk.new_f, Fk.new_t, Fk.newK_f, Fk.ix_t, Fk.ix_l, Fk.ix_r, Fk.ix_p, Fk.ek_ixr, Fk.at_0, Fk.at_1, Fk.at_2, Fk.set_l, Fk.ek_st, Fk.ek_st2, Fk.ixN_0, Fk.ixN_1, Fk.ixN_2, Fk.me_app, Fk.ek_app, Fk.ty_app, Fk.ek_tyl, Fk.me_joinl, Fk.ek_join, Fk.ty_join, Fk.it_seql, Fk.it_seqt, Fk.it_seqr, Fk.it_rngn, Fk.it_rng, Fk.it_rng2, Fk.it_rev, Fk.it_revt, Fk.it_ziptl, Fk.it_zipll, Fk.it_ziptt, Fk.lk_p, Fk.sl_t, Fk.sl_l, Fk.cut_to, Fk.cut_from1, Fk.cut_1, Fk.cut_from, Fk.hl_get, Fk.hl_set, Fk.op_eqL, Fk.op_neL, Fk.op_eqT, Fk.op_neT, tyP, R.bind_ok, R.bind_ex, R.st_ok, R.st_ex, RS2.seq_nx, RS2.seq_rt, RS2.seq_ex, RS2.seq_bk, RS2.seq_ct, List.set_cons_zero, List.set_cons_succ, List.getElem?_cons_zero, List.getElem?_cons_succ, Option.map_some, reduceCtorEq, imp_self, implies_true, Bool.not_true, Bool.not_false, decide_true, decide_false, Nat.reduceAdd, Nat.reduceSub, Nat.reduceLT, Nat.reduceLeDiff, Nat.reduceEqDiff, Int.reduceLT, Int.reduceLE, Int.reduceEq, Int.reduceNeg, Int.reduceToNat, Nat.reduceBEq, and_self, true_and, and_true, Nat.reducePow, Int.reducePow, Int.reduceAdd, Int.reduceSub, Int.reduceMul, List.length_cons, List.length_nil, List.cons_append, List.nil_append, List.append_nil, bl'] <;> rfl⟩
theorem pack_tup {n : Nat} {ms : List P} {zs : List Int} {L : Hl} (hz : Sz zs) (ht : Typ ms) (hl : ms.length = zs.length) :
    run S (n + 2) 9 [.v (.p (.tup ms)), .v (.p (.lst (iP zs)))] L = match pk ms zs 0 with
      | some r => .ok (.p (.int r)) L
      | none => .ex 11 [] L := by
  rw [r9_2]
  have lp := pack_loop (n := n) (s1 := .v (.p (.tup ms))) (s2 := .v (.p (.lst (iP zs)))) ms zs 0 1 .u .u L ht (by decide) (by decide) hz.abs (by have := hz.1; omega)
  cases hk : pk ms zs 0 with
  | none =>
    rw [hk] at lp
    obtain ⟨t, e⟩ := lp
    simp -implicitDefEqProofs only [b9, Fk.ev_var, Fk.ev_lit, Fk.ev_con, Fk.ek_ofO, Fk.ev_op, Fk.ek_op, Fk.ev_neg, Fk.ek_neg, Fk.ev_notv, Fk.ek_not, Fk.ek_not2, Fk.ev_andv, Fk.ek_and, Fk.ek_and1, Fk.ek_and0, Fk.ev_orv, Fk.ek_or, Fk.ek_or1, Fk.ek_or0, Fk.ev_chain, Fk.ek_ch, Fk.ek_ch2, Fk.ek_ch3t, Fk.ek_ch3f, Fk.ev_ite, Fk.ek_ite1, Fk.ek_ite0, Fk.ev_call, Fk.ev_bi, Fk.ek_bi1, Fk.ek_bi2, Fk.ev_me, Fk.ek_me, Fk.ek_meb, Fk.ek_me20, Fk.ek_me21, Fk.ek_me22, Fk.ev_tup, Fk.ek_tup, Fk.ek_tup2, Fk.ev_lst, Fk.ek_lst, Fk.ek_lst2, Fk.ev_trev, Fk.ek_trev, Fk.ev_lrng, Fk.ek_lrng, Fk.ev_hsum, Fk.ek_hsum, Fk.ek_hs2, Fk.ev_dct0, Fk.ev_ix, Fk.ek_ix, Fk.ev_sl, Fk.ek_sl, Fk.ek_sl2, Fk.ek_sl3, Fk.ev_fld, Fk.ek_fld, Fk.ev_isi, Fk.ek_isi, Fk.ek_blR, Fk.ev_exi, Fk.ek_exi, Fk.ev_exf, Fk.ek_exf, Fk.ev_comp, Fk.ek_comp, Fk.ek_comp3, Fk.ev_o0, Fk.ev_o1, Fk.ek_o1, Fk.ev_a0, Fk.ev_a1, Fk.ek_a, Fk.ek_a2, Fk.ev_a2, Fk.ek_exv, Fk.ev_its, Fk.ek_its1, Fk.ek_its2, Fk.ev_tand, Fk.ek_tand1, Fk.ek_tand0, Fk.ev_tor, Fk.ek_tor1, Fk.ek_tor0, Fk.ev_tnot, Fk.ek_tnot, Fk.ev_tval, Fk.ek_tval, Fk.ek_tv2, Fk.ev_tyes, Fk.ev_pass, Fk.ev_seq, Fk.ev_expr, Fk.ek_expr, Fk.ev_asg, Fk.ek_asg, Fk.ev_seti, Fk.ek_set, Fk.ek_set2, Fk.ek_set3, Fk.ek_set4, Fk.ev_ret, Fk.ek_ret, Fk.ev_retn, Fk.ev_if, Fk.ek_if1, Fk.ek_if0, Fk.ev_for, Fk.ek_for, Fk.ev_brk, Fk.ev_cont, Fk.ev_while, Fk.ev_frz, Fk.ek_frz, Fk.ek_frzp, Fk.ek_frz2, Fk.ev_raise, Fk.ek_raise, Fk.ek_raise2, Fk.ek_xp0, Fk.ek_xp1, Fk.ev_try, Fk.ek_try0, Fk.ek_tryx, Fk.ek_try1, Fk.ek_tryf, Fk.ek_endr, Fk.ek_endn, Fk.ek_endb, Fk.ek_endc, Fk.ev_forB, Fk.ev_forB2, Fk.ev_tB, Fk.ek_tB1, Fk.ek_tB0, Fk.ek_tB2, Fk.gv_0, Fk.gv_s, Fk.op_add, Fk.op_sub, Fk.op_mul, Fk.op_fdiv, Fk.op_fdivs, Fk.op_mod, Fk.op_pow, Fk.op_lt, Fk.op_le, Fk.op_gt, Fk.op_ge, Fk.op_eqi, Fk.op_eqb, Fk.op_eqs, Fk.op_nei, Fk.op_neb, Fk.op_nes, Fk.op_addl, Fk.op_addt, Fk.op_adds, Fk.tr_bl, Fk.tr_non, Fk.tr_int, Fk.tr_lst, Fk.tr_tup, Fk.va_nil, Fk.va_cons, Fk.pu_nil, Fk.pu_cons, Fk.bi_lenl, Fk.bi_lent, Fk.bi_lenr, Fk.bi_lenp, Fk.ek_lenr, Fk.bi_int, Fk.bi_min, Fk.bi_max, Fk.bi_listl, Fk.bi_listt, Fk.bi_tupl, Fk.bi_tupt, Fk.bi_tupp, Fk.ek_tupr, Fk.bi_lisp, Fk.ek_lisr, Fk.bi_str, Fk.new_f, Fk.new_t, Fk.newK_f, Fk.ix_t, Fk.ix_l, Fk.ix_r, Fk.ix_p, Fk.ek_ixr, Fk.at_0, Fk.at_1, Fk.at_2, Fk.set_l, Fk.ek_st, Fk.ek_st2, Fk.ixN_0, Fk.ixN_1, Fk.ixN_2, Fk.me_app, Fk.ek_app, Fk.ty_app, Fk.ek_tyl, Fk.me_joinl, Fk.ek_join, Fk.ty_join, Fk.it_seql, Fk.it_seqt, Fk.it_seqr, Fk.it_rngn, Fk.it_rng, Fk.it_rng2, Fk.it_rev, Fk.it_revt, Fk.it_ziptl, Fk.it_zipll, Fk.it_ziptt, Fk.lk_p, Fk.sl_t, Fk.sl_l, Fk.cut_to, Fk.cut_from1, Fk.cut_1, Fk.cut_from, Fk.hl_get, Fk.hl_set, Fk.op_eqL, Fk.op_neL, Fk.op_eqT, Fk.op_neT, tyP, R.bind_ok, R.bind_ex, R.st_ok, R.st_ex, RS2.seq_nx, RS2.seq_rt, RS2.seq_ex, RS2.seq_bk, RS2.seq_ct, List.set_cons_zero, List.set_cons_succ, List.getElem?_cons_zero, List.getElem?_cons_succ, Option.map_some, reduceCtorEq, imp_self, implies_true, Bool.not_true, Bool.not_false, decide_true, decide_false, Nat.reduceAdd, Nat.reduceSub, Nat.reduceLT, Nat.reduceLeDiff, Nat.reduceEqDiff, Int.reduceLT, Int.reduceLE, Int.reduceEq, Int.reduceNeg, Int.reduceToNat, Nat.reduceBEq, and_self, true_and, and_true, Nat.reducePow, Int.reducePow, Int.reduceAdd, Int.reduceSub, Int.reduceMul, List.length_cons, List.length_nil, List.cons_append, List.nil_append, List.append_nil, hl, List.length_map, prs] at e ⊢
    rw [e]
    exact en_ex rfl
  | some r =>
    rw [hk] at lp
    obtain ⟨y1, y2, e⟩ := lp
    simp -implicitDefEqProofs only [b9, Fk.ev_var, Fk.ev_lit, Fk.ev_con, Fk.ek_ofO, Fk.ev_op, Fk.ek_op, Fk.ev_neg, Fk.ek_neg, Fk.ev_notv, Fk.ek_not, Fk.ek_not2, Fk.ev_andv, Fk.ek_and, Fk.ek_and1, Fk.ek_and0, Fk.ev_orv, Fk.ek_or, Fk.ek_or1, Fk.ek_or0, Fk.ev_chain, Fk.ek_ch, Fk.ek_ch2, Fk.ek_ch3t, Fk.ek_ch3f, Fk.ev_ite, Fk.ek_ite1, Fk.ek_ite0, Fk.ev_call, Fk.ev_bi, Fk.ek_bi1, Fk.ek_bi2, Fk.ev_me, Fk.ek_me, Fk.ek_meb, Fk.ek_me20, Fk.ek_me21, Fk.ek_me22, Fk.ev_tup, Fk.ek_tup, Fk.ek_tup2, Fk.ev_lst, Fk.ek_lst, Fk.ek_lst2, Fk.ev_trev, Fk.ek_trev, Fk.ev_lrng, Fk.ek_lrng, Fk.ev_hsum, Fk.ek_hsum, Fk.ek_hs2, Fk.ev_dct0, Fk.ev_ix, Fk.ek_ix, Fk.ev_sl, Fk.ek_sl, Fk.ek_sl2, Fk.ek_sl3, Fk.ev_fld, Fk.ek_fld, Fk.ev_isi, Fk.ek_isi, Fk.ek_blR, Fk.ev_exi, Fk.ek_exi, Fk.ev_exf, Fk.ek_exf, Fk.ev_comp, Fk.ek_comp, Fk.ek_comp3, Fk.ev_o0, Fk.ev_o1, Fk.ek_o1, Fk.ev_a0, Fk.ev_a1, Fk.ek_a, Fk.ek_a2, Fk.ev_a2, Fk.ek_exv, Fk.ev_its, Fk.ek_its1, Fk.ek_its2, Fk.ev_tand, Fk.ek_tand1, Fk.ek_tand0, Fk.ev_tor, Fk.ek_tor1, Fk.ek_tor0, Fk.ev_tnot, Fk.ek_tnot, Fk.ev_tval, Fk.ek_tval, Fk.ek_tv2, Fk.ev_tyes, Fk.ev_pass, Fk.ev_seq, Fk.ev_expr, Fk.ek_expr, Fk.ev_asg, Fk.ek_asg, Fk.ev_seti, Fk.ek_set, Fk.ek_set2, Fk.ek_set3, Fk.ek_set4, Fk.ev_ret, Fk.ek_ret, Fk.ev_retn, Fk.ev_if, Fk.ek_if1, Fk.ek_if0, Fk.ev_for, Fk.ek_for, Fk.ev_brk, Fk.ev_cont, Fk.ev_while, Fk.ev_frz, Fk.ek_frz, Fk.ek_frzp, Fk.ek_frz2, Fk.ev_raise, Fk.ek_raise, Fk.ek_raise2, Fk.ek_xp0, Fk.ek_xp1, Fk.ev_try, Fk.ek_try0, Fk.ek_tryx, Fk.ek_try1, Fk.ek_tryf, Fk.ek_endr, Fk.ek_endn, Fk.ek_endb, Fk.ek_endc, Fk.ev_forB, Fk.ev_forB2, Fk.ev_tB, Fk.ek_tB1, Fk.ek_tB0, Fk.ek_tB2, Fk.gv_0, Fk.gv_s, Fk.op_add, Fk.op_sub, Fk.op_mul, Fk.op_fdiv, Fk.op_fdivs, Fk.op_mod, Fk.op_pow, Fk.op_lt, Fk.op_le, Fk.op_gt, Fk.op_ge, Fk.op_eqi, Fk.op_eqb, Fk.op_eqs, Fk.op_nei, Fk.op_neb, Fk.op_nes, Fk.op_addl, Fk.op_addt, Fk.op_adds, Fk.tr_bl, Fk.tr_non, Fk.tr_int, Fk.tr_lst, Fk.tr_tup, Fk.va_nil, Fk.va_cons, Fk.pu_nil, Fk.pu_cons, Fk.bi_lenl, Fk.bi_lent, Fk.bi_lenr, Fk.bi_lenp, Fk.ek_lenr, Fk.bi_int, Fk.bi_min, Fk.bi_max, Fk.bi_listl, Fk.bi_listt, Fk.bi_tupl, Fk.bi_tupt, Fk.bi_tupp, Fk.ek_tupr, Fk.bi_lisp, Fk.ek_lisr, Fk.bi_str, Fk.new_f, Fk.new_t, Fk.newK_f, Fk.ix_t, Fk.ix_l, Fk.ix_r, Fk.ix_p, Fk.ek_ixr, Fk.at_0, Fk.at_1, Fk.at_2, Fk.set_l, Fk.ek_st, Fk.ek_st2, Fk.ixN_0, Fk.ixN_1, Fk.ixN_2, Fk.me_app, Fk.ek_app, Fk.ty_app, Fk.ek_tyl, Fk.me_joinl, Fk.ek_join, Fk.ty_join, Fk.it_seql, Fk.it_seqt, Fk.it_seqr, Fk.it_rngn, Fk.it_rng, Fk.it_rng2, Fk.it_rev, Fk.it_revt, Fk.it_ziptl, Fk.it_zipll, Fk.it_ziptt, Fk.lk_p, Fk.sl_t, Fk.sl_l, Fk.cut_to, Fk.cut_from1, Fk.cut_1, Fk.cut_from, Fk.hl_get, Fk.hl_set, Fk.op_eqL, Fk.op_neL, Fk.op_eqT, Fk.op_neT, tyP, R.bind_ok, R.bind_ex, R.st_ok, R.st_ex, RS2.seq_nx, RS2.seq_rt, RS2.seq_ex, RS2.seq_bk, RS2.seq_ct, List.set_cons_zero, List.set_cons_succ, List.getElem?_cons_zero, List.getElem?_cons_succ, Option.map_some, reduceCtorEq, imp_self, implies_true, Bool.not_true, Bool.not_false, decide_true, decide_false, Nat.reduceAdd, Nat.reduceSub, Nat.reduceLT, Nat.reduceLeDiff, Nat.reduceEqDiff, Int.reduceLT, Int.reduceLE, Int.reduceEq, Int.reduceNeg, Int.reduceToNat, Nat.reduceBEq, and_self, true_and, and_true, Nat.reducePow, Int.reducePow, Int.reduceAdd, Int.reduceSub, Int.reduceMul, List.length_cons, List.length_nil, List.cons_append, List.nil_append, List.append_nil, hl, List.length_map, prs] at e ⊢
    rw [e]
    simp -implicitDefEqProofs only [Fk.ev_var, Fk.ev_lit, Fk.ev_con, Fk.ek_ofO, Fk.ev_op, Fk.ek_op, Fk.ev_neg, Fk.ek_neg, Fk.ev_notv, Fk.ek_not, Fk.ek_not2, Fk.ev_andv, Fk.ek_and, Fk.ek_and1, Fk.ek_and0, Fk.ev_orv, Fk.ek_or, Fk.ek_or1, Fk.ek_or0, Fk.ev_chain, Fk.ek_ch, Fk.ek_ch2, Fk.ek_ch3t, Fk.ek_ch3f, Fk.ev_ite, Fk.ek_ite1, Fk.ek_ite0, Fk.ev_call, Fk.ev_bi, Fk.ek_bi1, Fk.ek_bi2, Fk.ev_me, Fk.ek_me, Fk.ek_meb, Fk.ek_me20, Fk.ek_me21, Fk.ek_me22, Fk.ev_tup, Fk.ek_tup, Fk.ek_tup2, Fk.ev_lst, Fk.ek_lst, Fk.ek_lst2, Fk.ev_trev, Fk.ek_trev, Fk.ev_lrng, Fk.ek_lrng, Fk.ev_hsum, Fk.ek_hsum, Fk.ek_hs2, Fk.ev_dct0, Fk.ev_ix, Fk.ek_ix, Fk.ev_sl, Fk.ek_sl, Fk.ek_sl2, Fk.ek_sl3, Fk.ev_fld, Fk.ek_fld, Fk.ev_isi, Fk.ek_isi, Fk.ek_blR, Fk.ev_exi, Fk.ek_exi, Fk.ev_exf, Fk.ek_exf, Fk.ev_comp, Fk.ek_comp, Fk.ek_comp3, Fk.ev_o0, Fk.ev_o1, Fk.ek_o1, Fk.ev_a0, Fk.ev_a1, Fk.ek_a, Fk.ek_a2, Fk.ev_a2, Fk.ek_exv, Fk.ev_its, Fk.ek_its1, Fk.ek_its2, Fk.ev_tand, Fk.ek_tand1, Fk.ek_tand0, Fk.ev_tor, Fk.ek_tor1, Fk.ek_tor0, Fk.ev_tnot, Fk.ek_tnot, Fk.ev_tval, Fk.ek_tval, Fk.ek_tv2, Fk.ev_tyes, Fk.ev_pass, Fk.ev_seq, Fk.ev_expr, Fk.ek_expr, Fk.ev_asg, Fk.ek_asg, Fk.ev_seti, Fk.ek_set, Fk.ek_set2, Fk.ek_set3, Fk.ek_set4, Fk.ev_ret, Fk.ek_ret, Fk.ev_retn, Fk.ev_if, Fk.ek_if1, Fk.ek_if0, Fk.ev_for, Fk.ek_for, Fk.ev_brk, Fk.ev_cont, Fk.ev_while, Fk.ev_frz, Fk.ek_frz, Fk.ek_frzp, Fk.ek_frz2, Fk.ev_raise, Fk.ek_raise, Fk.ek_raise2, Fk.ek_xp0, Fk.ek_xp1, Fk.ev_try, Fk.ek_try0, Fk.ek_tryx, Fk.ek_try1, Fk.ek_tryf, Fk.ek_endr, Fk.ek_endn, Fk.ek_endb, Fk.ek_endc, Fk.ev_forB, Fk.ev_forB2, Fk.ev_tB, Fk.ek_tB1, Fk.ek_tB0, Fk.ek_tB2, Fk.gv_0, Fk.gv_s, Fk.op_add, Fk.op_sub, Fk.op_mul, Fk.op_fdiv, Fk.op_fdivs, Fk.op_mod, Fk.op_pow, Fk.op_lt, Fk.op_le, Fk.op_gt, Fk.op_ge, Fk.op_eqi, Fk.op_eqb, Fk.op_eqs, Fk.op_nei, Fk.op_neb, Fk.op_nes, Fk.op_addl, Fk.op_addt, Fk.op_adds, Fk.tr_bl, Fk.tr_non, Fk.tr_int, Fk.tr_lst, Fk.tr_tup, Fk.va_nil, Fk.va_cons, Fk.pu_nil, Fk.pu_cons, Fk.bi_lenl, Fk.bi_lent, Fk.bi_lenr, Fk.bi_lenp, Fk.ek_lenr, Fk.bi_int, Fk.bi_min, Fk.bi_max, Fk.bi_listl, Fk.bi_listt, Fk.bi_tupl, Fk.bi_tupt, Fk.bi_tupp, Fk.ek_tupr, Fk.bi_lisp, Fk.ek_lisr, Fk.bi_str, Fk.new_f, Fk.new_t, Fk.newK_f, Fk.ix_t, Fk.ix_l, Fk.ix_r, Fk.ix_p, Fk.ek_ixr, Fk.at_0, Fk.at_1, Fk.at_2, Fk.set_l, Fk.ek_st, Fk.ek_st2, Fk.ixN_0, Fk.ixN_1, Fk.ixN_2, Fk.me_app, Fk.ek_app, Fk.ty_app, Fk.ek_tyl, Fk.me_joinl, Fk.ek_join, Fk.ty_join, Fk.it_seql, Fk.it_seqt, Fk.it_seqr, Fk.it_rngn, Fk.it_rng, Fk.it_rng2, Fk.it_rev, Fk.it_revt, Fk.it_ziptl, Fk.it_zipll, Fk.it_ziptt, Fk.lk_p, Fk.sl_t, Fk.sl_l, Fk.cut_to, Fk.cut_from1, Fk.cut_1, Fk.cut_from, Fk.hl_get, Fk.hl_set, Fk.op_eqL, Fk.op_neL, Fk.op_eqT, Fk.op_neT, tyP, R.bind_ok, R.bind_ex, R.st_ok, R.st_ex, RS2.seq_nx, RS2.seq_rt, RS2.seq_ex, RS2.seq_bk, RS2.seq_ct, List.set_cons_zero, List.set_cons_succ, List.getElem?_cons_zero, List.getElem?_cons_succ, Option.map_some, reduceCtorEq, imp_self, implies_true, Bool.not_true, Bool.not_false, decide_true, decide_false, Nat.reduceAdd, Nat.reduceSub, Nat.reduceLT, Nat.reduceLeDiff, Nat.reduceEqDiff, Int.reduceLT, Int.reduceLE, Int.reduceEq, Int.reduceNeg, Int.reduceToNat, Nat.reduceBEq, and_self, true_and, and_true, Nat.reducePow, Int.reducePow, Int.reduceAdd, Int.reduceSub, Int.reduceMul, List.length_cons, List.length_nil, List.cons_append, List.nil_append, List.append_nil]
    exact en_rt rfl
theorem pack_len {n : Nat} {ms : List P} {zs : List Int} {L : Hl} (hl : ms.length ≠ zs.length) :
    run S (n + 2) 9 [.v (.p (.tup ms)), .v (.p (.lst (iP zs)))] L = .ex 11 [] L := by
  rw [r9_2]
  have h : ((ms.length : Int) = (zs.length : Int)) = False := by simp; omega
  simp -implicitDefEqProofs only [b9, Fk.ev_var, Fk.ev_lit, Fk.ev_con, Fk.ek_ofO, Fk.ev_op, Fk.ek_op, Fk.ev_neg, Fk.ek_neg, Fk.ev_notv, Fk.ek_not, Fk.ek_not2, Fk.ev_andv, Fk.ek_and, Fk.ek_and1, Fk.ek_and0, Fk.ev_orv, Fk.ek_or, Fk.ek_or1, Fk.ek_or0, Fk.ev_chain, Fk.ek_ch, Fk.ek_ch2, Fk.ek_ch3t, Fk.ek_ch3f, Fk.ev_ite, Fk.ek_ite1, Fk.ek_ite0, Fk.ev_call, Fk.ev_bi, Fk.ek_bi1, Fk.ek_bi2, Fk.ev_me, Fk.ek_me, Fk.ek_meb, Fk.ek_me20, Fk.ek_me21, Fk.ek_me22, Fk.ev_tup, Fk.ek_tup, Fk.ek_tup2, Fk.ev_lst, Fk.ek_lst, Fk.ek_lst2, Fk.ev_trev, Fk.ek_trev, Fk.ev_lrng, Fk.ek_lrng, Fk.ev_hsum, Fk.ek_hsum, Fk.ek_hs2, Fk.ev_dct0, Fk.ev_ix, Fk.ek_ix, Fk.ev_sl, Fk.ek_sl, Fk.ek_sl2, Fk.ek_sl3, Fk.ev_fld, Fk.ek_fld, Fk.ev_isi, Fk.ek_isi, Fk.ek_blR, Fk.ev_exi, Fk.ek_exi, Fk.ev_exf, Fk.ek_exf, Fk.ev_comp, Fk.ek_comp, Fk.ek_comp3, Fk.ev_o0, Fk.ev_o1, Fk.ek_o1, Fk.ev_a0, Fk.ev_a1, Fk.ek_a, Fk.ek_a2, Fk.ev_a2, Fk.ek_exv, Fk.ev_its, Fk.ek_its1, Fk.ek_its2, Fk.ev_tand, Fk.ek_tand1, Fk.ek_tand0, Fk.ev_tor, Fk.ek_tor1, Fk.ek_tor0, Fk.ev_tnot, Fk.ek_tnot, Fk.ev_tval, Fk.ek_tval, Fk.ek_tv2, Fk.ev_tyes, Fk.ev_pass, Fk.ev_seq, Fk.ev_expr, Fk.ek_expr, Fk.ev_asg, Fk.ek_asg, Fk.ev_seti, Fk.ek_set, Fk.ek_set2, Fk.ek_set3, Fk.ek_set4, Fk.ev_ret, Fk.ek_ret, Fk.ev_retn, Fk.ev_if, Fk.ek_if1, Fk.ek_if0, Fk.ev_for, Fk.ek_for, Fk.ev_brk, Fk.ev_cont, Fk.ev_while, Fk.ev_frz, Fk.ek_frz, Fk.ek_frzp, Fk.ek_frz2, Fk.ev_raise, Fk.ek_raise, Fk.ek_raise2, Fk.ek_xp0, Fk.ek_xp1, Fk.ev_try, Fk.ek_try0, Fk.ek_tryx, Fk.ek_try1, Fk.ek_tryf, Fk.ek_endr, Fk.ek_endn, Fk.ek_endb, Fk.ek_endc, Fk.ev_forB, Fk.ev_forB2, Fk.ev_tB, Fk.ek_tB1, Fk.ek_tB0, Fk.ek_tB2, Fk.gv_0, Fk.gv_s, Fk.op_add, Fk.op_sub, Fk.op_mul, Fk.op_fdiv, Fk.op_fdivs, Fk.op_mod, Fk.op_pow, Fk.op_lt, Fk.op_le, Fk.op_gt, Fk.op_ge, Fk.op_eqi, Fk.op_eqb, Fk.op_eqs, Fk.op_nei, Fk.op_neb, Fk.op_nes, Fk.op_addl, Fk.op_addt, Fk.op_adds, Fk.tr_bl, Fk.tr_non, Fk.tr_int, Fk.tr_lst, Fk.tr_tup, Fk.va_nil, Fk.va_cons, Fk.pu_nil, Fk.pu_cons, Fk.bi_lenl, Fk.bi_lent, Fk.bi_lenr, Fk.bi_lenp, Fk.ek_lenr, Fk.bi_int, Fk.bi_min, Fk.bi_max, Fk.bi_listl, Fk.bi_listt, Fk.bi_tupl, Fk.bi_tupt, Fk.bi_tupp, Fk.ek_tupr, Fk.bi_lisp, Fk.ek_lisr, Fk.bi_str, Fk.new_f, Fk.new_t, Fk.newK_f, Fk.ix_t, Fk.ix_l, Fk.ix_r, Fk.ix_p, Fk.ek_ixr, Fk.at_0, Fk.at_1, Fk.at_2, Fk.set_l, Fk.ek_st, Fk.ek_st2, Fk.ixN_0, Fk.ixN_1, Fk.ixN_2, Fk.me_app, Fk.ek_app, Fk.ty_app, Fk.ek_tyl, Fk.me_joinl, Fk.ek_join, Fk.ty_join, Fk.it_seql, Fk.it_seqt, Fk.it_seqr, Fk.it_rngn, Fk.it_rng, Fk.it_rng2, Fk.it_rev, Fk.it_revt, Fk.it_ziptl, Fk.it_zipll, Fk.it_ziptt, Fk.lk_p, Fk.sl_t, Fk.sl_l, Fk.cut_to, Fk.cut_from1, Fk.cut_1, Fk.cut_from, Fk.hl_get, Fk.hl_set, Fk.op_eqL, Fk.op_neL, Fk.op_eqT, Fk.op_neT, tyP, R.bind_ok, R.bind_ex, R.st_ok, R.st_ex, RS2.seq_nx, RS2.seq_rt, RS2.seq_ex, RS2.seq_bk, RS2.seq_ct, List.set_cons_zero, List.set_cons_succ, List.getElem?_cons_zero, List.getElem?_cons_succ, Option.map_some, reduceCtorEq, imp_self, implies_true, Bool.not_true, Bool.not_false, decide_true, decide_false, Nat.reduceAdd, Nat.reduceSub, Nat.reduceLT, Nat.reduceLeDiff, Nat.reduceEqDiff, Int.reduceLT, Int.reduceLE, Int.reduceEq, Int.reduceNeg, Int.reduceToNat, Nat.reduceBEq, and_self, true_and, and_true, Nat.reducePow, Int.reducePow, Int.reduceAdd, Int.reduceSub, Int.reduceMul, List.length_cons, List.length_nil, List.cons_append, List.nil_append, List.append_nil, List.length_map, h]
  exact en_ex rfl
theorem pack_not {n : Nat} {x : P} {zs : List Int} {L : Hl} (h : tyP x .tup = some false) :
    run S (n + 2) 9 [.v (.p x), .v (.p (.lst (iP zs)))] L = .ex 11 [] L := by
  rw [r9_2]
  cases x
  case tup => cases h
  case obj => cases h
  case cls => cases h
  case ty => cases h
  all_goals
    simp -implicitDefEqProofs only [b9, Fk.ev_var, Fk.ev_lit, Fk.ev_con, Fk.ek_ofO, Fk.ev_op, Fk.ek_op, Fk.ev_neg, Fk.ek_neg, Fk.ev_notv, Fk.ek_not, Fk.ek_not2, Fk.ev_andv, Fk.ek_and, Fk.ek_and1, Fk.ek_and0, Fk.ev_orv, Fk.ek_or, Fk.ek_or1, Fk.ek_or0, Fk.ev_chain, Fk.ek_ch, Fk.ek_ch2, Fk.ek_ch3t, Fk.ek_ch3f, Fk.ev_ite, Fk.ek_ite1, Fk.ek_ite0, Fk.ev_call, Fk.ev_bi, Fk.ek_bi1, Fk.ek_bi2, Fk.ev_me, Fk.ek_me, Fk.ek_meb, Fk.ek_me20, Fk.ek_me21, Fk.ek_me22, Fk.ev_tup, Fk.ek_tup, Fk.ek_tup2, Fk.ev_lst, Fk.ek_lst, Fk.ek_lst2, Fk.ev_trev, Fk.ek_trev, Fk.ev_lrng, Fk.ek_lrng, Fk.ev_hsum, Fk.ek_hsum, Fk.ek_hs2, Fk.ev_dct0, Fk.ev_ix, Fk.ek_ix, Fk.ev_sl, Fk.ek_sl, Fk.ek_sl2, Fk.ek_sl3, Fk.ev_fld, Fk.ek_fld, Fk.ev_isi, Fk.ek_isi, Fk.ek_blR, Fk.ev_exi, Fk.ek_exi, Fk.ev_exf, Fk.ek_exf, Fk.ev_comp, Fk.ek_comp, Fk.ek_comp3, Fk.ev_o0, Fk.ev_o1, Fk.ek_o1, Fk.ev_a0, Fk.ev_a1, Fk.ek_a, Fk.ek_a2, Fk.ev_a2, Fk.ek_exv, Fk.ev_its, Fk.ek_its1, Fk.ek_its2, Fk.ev_tand, Fk.ek_tand1, Fk.ek_tand0, Fk.ev_tor, Fk.ek_tor1, Fk.ek_tor0, Fk.ev_tnot, Fk.ek_tnot, Fk.ev_tval, Fk.ek_tval, Fk.ek_tv2, Fk.ev_tyes, Fk.ev_pass, Fk.ev_seq, Fk.ev_expr, Fk.ek_expr, Fk.ev_asg, Fk.ek_asg, Fk.ev_seti, Fk.ek_set, Fk.ek_set2, Fk.ek_set3, Fk.ek_set4, Fk.ev_ret, Fk.ek_ret, Fk.ev_retn, Fk.ev_if, Fk.ek_if1, Fk.ek_if0, Fk.ev_for, Fk.ek_for, Fk.ev_brk, Fk.ev_cont, Fk.ev_while, Fk.ev_frz, Fk.ek_frz, Fk.ek_frzp, Fk.ek_frz2, Fk.ev_raise, Fk.ek_raise, Fk.ek_raise2, Fk.ek_xp0, Fk.ek_xp1, Fk.ev_try, Fk.ek_try0, Fk.ek_tryx, Fk.ek_try1, Fk.ek_tryf, Fk.ek_endr, Fk.ek_endn, Fk.ek_endb, Fk.ek_endc, Fk.ev_forB, Fk.ev_forB2, Fk.ev_tB, Fk.ek_tB1, Fk.ek_tB0, Fk.ek_tB2, Fk.gv_0, Fk.gv_s, Fk.op_add, Fk.op_sub, Fk.op_mul, Fk.op_fdiv, Fk.op_fdivs, Fk.op_mod, Fk.op_pow, Fk.op_lt, Fk.op_le, Fk.op_gt, Fk.op_ge, Fk.op_eqi, Fk.op_eqb, Fk.op_eqs, Fk.op_nei, Fk.op_neb, Fk.op_nes, Fk.op_addl, Fk.op_addt, Fk.op_adds, Fk.tr_bl, Fk.tr_non, Fk.tr_int, Fk.tr_lst, Fk.tr_tup, Fk.va_nil, Fk.va_cons, Fk.pu_nil, Fk.pu_cons, Fk.bi_lenl, Fk.bi_lent, Fk.bi_lenr, Fk.bi_lenp, Fk.ek_lenr, Fk.bi_int, Fk.bi_min, Fk.bi_max, Fk.bi_listl, Fk.bi_listt, Fk.bi_tupl, Fk.bi_tupt, Fk.bi_tupp, Fk.ek_tupr, Fk.bi_lisp, Fk.ek_lisr, Fk.bi_str, Fk.new_f, Fk.new_t, Fk.newK_f, Fk.ix_t, Fk.ix_l, Fk.ix_r, Fk.ix_p, Fk.ek_ixr, Fk.at_0, Fk.at_1, Fk.at_2, Fk.set_l, Fk.ek_st, Fk.ek_st2, Fk.ixN_0, Fk.ixN_1, Fk.ixN_2, Fk.me_app, Fk.ek_app, Fk.ty_app, Fk.ek_tyl, Fk.me_joinl, Fk.ek_join, Fk.ty_join, Fk.it_seql, Fk.it_seqt, Fk.it_seqr, Fk.it_rngn, Fk.it_rng, Fk.it_rng2, Fk.it_rev, Fk.it_revt, Fk.it_ziptl, Fk.it_zipll, Fk.it_ziptt, Fk.lk_p, Fk.sl_t, Fk.sl_l, Fk.cut_to, Fk.cut_from1, Fk.cut_1, Fk.cut_from, Fk.hl_get, Fk.hl_set, Fk.op_eqL, Fk.op_neL, Fk.op_eqT, Fk.op_neT, tyP, R.bind_ok, R.bind_ex, R.st_ok, R.st_ex, RS2.seq_nx, RS2.seq_rt, RS2.seq_ex, RS2.seq_bk, RS2.seq_ct, List.set_cons_zero, List.set_cons_succ, List.getElem?_cons_zero, List.getElem?_cons_succ, Option.map_some, reduceCtorEq, imp_self, implies_true, Bool.not_true, Bool.not_false, decide_true, decide_false, Nat.reduceAdd, Nat.reduceSub, Nat.reduceLT, Nat.reduceLeDiff, Nat.reduceEqDiff, Int.reduceLT, Int.reduceLE, Int.reduceEq, Int.reduceNeg, Int.reduceToNat, Nat.reduceBEq, and_self, true_and, and_true, Nat.reducePow, Int.reducePow, Int.reduceAdd, Int.reduceSub, Int.reduceMul, List.length_cons, List.length_nil, List.cons_append, List.nil_append, List.append_nil]
    exact en_ex rfl
/-! unpack -/
def rv : List Int → List Int → Int
  | m :: ms, z :: zs => m + z * rv ms zs
  | _, _ => 0
theorem rv_val : ∀ {ms zs : List Int}, ms.length = zs.length → rv ms zs = val ms.reverse zs.reverse
  | [], [], _ => rfl
  | m :: ms, z :: zs, h => by
    have h' : ms.length = zs.length := by simpa using h
    rw [rv, rv_val h', List.reverse_cons, List.reverse_cons, val_app (by simpa using h')]
    simp only [val, prd, Int.mul_one, Int.add_zero]
    rw [Int.mul_comm z, Int.add_comm]
  | [], _ :: _, h => by simp at h
  | _ :: _, [], h => by simp at h
theorem Vs.rev : ∀ {ms zs : List Int}, Vs ms zs → Vs ms.reverse zs.reverse
  | [], [], _ => trivial
  | m :: ms, z :: zs, h => by
    rw [List.reverse_cons, List.reverse_cons]
    exact Vs.app h.2.2.rev ⟨h.1, h.2.1, trivial⟩
  | [], _ :: _, h => h.elim
  | _ :: _, [], h => h.elim
theorem unpack_loop {cf : Nat → List Sl → Hl → Fk.R D} {cn : Nat → Option P} {s1 s2 : Sl} {L : Hl} : ∀ (ms zs acc : List Int) (y : Sl), Vs ms zs → (∀ z ∈ zs, z < 2 ^ 40) → acc.length + ms.length ≤ 10000 →
    ∃ r y', forL (forB cf cn (.gn 4) b11_0) (iP zs) [s1, s2, .v (.ref L.length), .v (.p (.int (rv ms zs))), y] (L ++ [.lst (iP acc)]) = .ok (.nx [s1, s2, .v (.ref L.length), r, y']) (L ++ [.lst (iP (acc ++ ms))])
  | [], [], acc, y, _, _, _ => ⟨.v (.p (.int 0)), y, by simp [forL, rv]⟩
  | m :: ms, z :: zs, acc, y, h, hz, hl => by
    obtain ⟨h1, h2, h3⟩ := h
    have hz0 := hz z List.mem_cons_self
    have z0 : 0 < z := by omega
    have zl : z < 1152921504606846976 := by omega
    have e1 : (m + z * rv ms zs) % z = m := by rw [Int.add_mul_emod_self_left, Int.emod_eq_of_lt h1 h2]
    have e2 : (m + z * rv ms zs) / z = rv ms zs := by rw [Int.add_mul_ediv_left _ _ (by omega), Int.ediv_eq_zero_of_lt h1 h2, Int.zero_add]
    rw [List.length_cons] at hl
    have al : (iP acc).length < sizeLine := Nat.lt_of_lt_of_le (show (iP acc).length < 10000 by rw [iP, List.length_map]; omega) (by decide)
    obtain ⟨r, y', e⟩ := unpack_loop (cf := cf) (cn := cn) (s1 := s1) (s2 := s2) (L := L) ms zs (acc ++ [m]) (.v (.p (.int z))) h3 (fun y hy => hz y (List.mem_cons_of_mem _ hy)) (by simp; omega)
    refine ⟨r, y', ?_⟩
    rw [iP, List.map_cons, forL, rv]
    simp -implicitDefEqProofs only [b11_0, Fk.ev_var, Fk.ev_lit, Fk.ev_con, Fk.ek_ofO, Fk.ev_op, Fk.ek_op, Fk.ev_neg, Fk.ek_neg, Fk.ev_notv, Fk.ek_not, Fk.ek_not2, Fk.ev_andv, Fk.ek_and, Fk.ek_and1, Fk.ek_and0, Fk.ev_orv, Fk.ek_or, Fk.ek_or1, Fk.ek_or0, Fk.ev_chain, Fk.ek_ch, Fk.ek_ch2, Fk.ek_ch3t, Fk.ek_ch3f, Fk.ev_ite, Fk.ek_ite1, Fk.ek_ite0, Fk.ev_call, Fk.ev_bi, Fk.ek_bi1, Fk.ek_bi2, Fk.ev_me, Fk.ek_me, Fk.ek_meb, Fk.ek_me20, Fk.ek_me21, Fk.ek_me22, Fk.ev_tup, Fk.ek_tup, Fk.ek_tup2, Fk.ev_lst, Fk.ek_lst, Fk.ek_lst2, Fk.ev_trev, Fk.ek_trev, Fk.ev_lrng, Fk.ek_lrng, Fk.ev_hsum, Fk.ek_hsum, Fk.ek_hs2, Fk.ev_dct0, Fk.ev_ix, Fk.ek_ix, Fk.ev_sl, Fk.ek_sl, Fk.ek_sl2, Fk.ek_sl3, Fk.ev_fld, Fk.ek_fld, Fk.ev_isi, Fk.ek_isi, Fk.ek_blR, Fk.ev_exi, Fk.ek_exi, Fk.ev_exf, Fk.ek_exf, Fk.ev_comp, Fk.ek_comp, Fk.ek_comp3, Fk.ev_o0, Fk.ev_o1, Fk.ek_o1, Fk.ev_a0, Fk.ev_a1, Fk.ek_a, Fk.ek_a2, Fk.ev_a2, Fk.ek_exv, Fk.ev_its, Fk.ek_its1, Fk.ek_its2, Fk.ev_tand, Fk.ek_tand1, Fk.ek_tand0, Fk.ev_tor, Fk.ek_tor1, Fk.ek_tor0, Fk.ev_tnot, Fk.ek_tnot, Fk.ev_tval, Fk.ek_tval, Fk.ek_tv2, Fk.ev_tyes, Fk.ev_pass, Fk.ev_seq, Fk.ev_expr, Fk.ek_expr, Fk.ev_asg, Fk.ek_asg, Fk.ev_seti, Fk.ek_set, Fk.ek_set2, Fk.ek_set3, Fk.ek_set4, Fk.ev_ret, Fk.ek_ret, Fk.ev_retn, Fk.ev_if, Fk.ek_if1, Fk.ek_if0, Fk.ev_for, Fk.ek_for, Fk.ev_brk, Fk.ev_cont, Fk.ev_while, Fk.ev_frz, Fk.ek_frz, Fk.ek_frzp, Fk.ek_frz2, Fk.ev_raise, Fk.ek_raise, Fk.ek_raise2, Fk.ek_xp0, Fk.ek_xp1, Fk.ev_try, Fk.ek_try0, Fk.ek_tryx, Fk.ek_try1, Fk.ek_tryf, Fk.ek_endr, Fk.ek_endn, Fk.ek_endb, Fk.ek_endc, Fk.ev_forB, Fk.ev_forB2, Fk.ev_tB, Fk.ek_tB1, Fk.ek_tB0, Fk.ek_tB2, Fk.gv_0, Fk.gv_s, Fk.op_add, Fk.op_sub, Fk.op_mul, Fk.op_fdiv, Fk.op_fdivs, Fk.op_mod, Fk.op_pow, Fk.op_lt, Fk.op_le, Fk.op_gt, Fk.op_ge, Fk.op_eqi, Fk.op_eqb, Fk.op_eqs, Fk.op_nei, Fk.op_neb, Fk.op_nes, Fk.op_addl, Fk.op_addt, Fk.op_adds, Fk.tr_bl, Fk.tr_non, Fk.tr_int, Fk.tr_lst, Fk.tr_tup, Fk.va_nil, Fk.va_cons, Fk.pu_nil, Fk.pu_cons, Fk.bi_lenl, Fk.bi_lent, Fk.bi_lenr, Fk.bi_lenp, Fk.ek_lenr, Fk.bi_int, Fk.bi_min, Fk.bi_max, Fk.bi_listl, Fk.bi_listt, Fk.bi_tupl, Fk.bi_tupt, Fk.bi_tupp, Fk.ek_tupr, Fk.bi_lisp, Fk.ek_lisr, Fk.bi_str, Fk.new_f, Fk.new_t, Fk.newK_f, Fk.ix_t, Fk.ix_l, Fk.ix_r, Fk.ix_p, Fk.ek_ixr, Fk.at_0, Fk.at_1, Fk.at_2, Fk.set_l, Fk.ek_st, Fk.ek_st2, Fk.ixN_0, Fk.ixN_1, Fk.ixN_2, Fk.me_app, Fk.ek_app, Fk.ty_app, Fk.ek_tyl, Fk.me_joinl, Fk.ek_join, Fk.ty_join, Fk.it_seql, Fk.it_seqt, Fk.it_seqr, Fk.it_rngn, Fk.it_rng, Fk.it_rng2, Fk.it_rev, Fk.it_revt, Fk.it_ziptl, Fk.it_zipll, Fk.it_ziptt, Fk.lk_p, Fk.sl_t, Fk.sl_l, Fk.cut_to, Fk.cut_from1, Fk.cut_1, Fk.cut_from, Fk.hl_get, Fk.hl_set, Fk.op_eqL, Fk.op_neL, Fk.op_eqT, Fk.op_neT, tyP, R.bind_ok, R.bind_ex, R.st_ok, R.st_ex, RS2.seq_nx, RS2.seq_rt, RS2.seq_ex, RS2.seq_bk, RS2.seq_ct, List.set_cons_zero, List.set_cons_succ, List.getElem?_cons_zero, List.getElem?_cons_succ, Option.map_some, reduceCtorEq, imp_self, implies_true, Bool.not_true, Bool.not_false, decide_true, decide_false, Nat.reduceAdd, Nat.reduceSub, Nat.reduceLT, Nat.reduceLeDiff, Nat.reduceEqDiff, Int.reduceLT, Int.reduceLE, Int.reduceEq, Int.reduceNeg, Int.reduceToNat, Nat.reduceBEq, and_self, true_and, and_true, Nat.reducePow, Int.reducePow, Int.reduceAdd, Int.reduceSub, Int.reduceMul, List.length_cons, List.length_nil, List.cons_append, List.nil_append, List.append_nil, z0, zl, e1, e2, al]
    simp only [iP, List.map_append, List.map_cons, List.map_nil, List.append_assoc, List.cons_append, List.nil_append] at e ⊢
    exact e
  | [], _ :: _, _, _, h, _, _ => h.elim
  | _ :: _, [], _, _, h, _, _ => h.elim
theorem unpack_ok {n : Nat} {ms zs : List Int} {L : Hl} (hz : Sz zs) (hv : Vs ms zs) (hc : Clo L) :
    run S (n + 2) 11 [.v (.p (.int (val ms zs))), .v (.p (.lst (iP zs)))] L = .ok (.p (.tup (iP ms))) L := by
  rw [r11_2]
  have hl := hv.len
  have vl := val_lt hv
  have ok : okm (.int (val ms zs)) (prd zs) = true := by simp [okm, vl.1, vl.2]
  have bl := below_ok (n := n) (x := .int (val ms zs)) (l := prd zs) (L := L) rfl
  rw [ok] at bl
  have ct := count_ok (n := n) (L := L) hz
  have er : rv ms.reverse zs.reverse = val ms zs := by rw [rv_val (by simpa using hl), List.reverse_reverse, List.reverse_reverse]
  obtain ⟨r, y', e⟩ := unpack_loop (cf := run S (n + 1)) (cn := cnOf S) (s1 := .v (.p (.int (val ms zs)))) (s2 := .v (.p (.lst (iP zs)))) (L := L) ms.reverse zs.reverse [] .u hv.rev (fun z hz' => (hz.2 z (by simpa using hz')).2) (by have := hz.1; simp; omega)
  rw [er] at e
  have e' : (iP zs).reverse = iP zs.reverse := by simp [iP]
  simp -implicitDefEqProofs only [b11, Fk.ev_var, Fk.ev_lit, Fk.ev_con, Fk.ek_ofO, Fk.ev_op, Fk.ek_op, Fk.ev_neg, Fk.ek_neg, Fk.ev_notv, Fk.ek_not, Fk.ek_not2, Fk.ev_andv, Fk.ek_and, Fk.ek_and1, Fk.ek_and0, Fk.ev_orv, Fk.ek_or, Fk.ek_or1, Fk.ek_or0, Fk.ev_chain, Fk.ek_ch, Fk.ek_ch2, Fk.ek_ch3t, Fk.ek_ch3f, Fk.ev_ite, Fk.ek_ite1, Fk.ek_ite0, Fk.ev_call, Fk.ev_bi, Fk.ek_bi1, Fk.ek_bi2, Fk.ev_me, Fk.ek_me, Fk.ek_meb, Fk.ek_me20, Fk.ek_me21, Fk.ek_me22, Fk.ev_tup, Fk.ek_tup, Fk.ek_tup2, Fk.ev_lst, Fk.ek_lst, Fk.ek_lst2, Fk.ev_trev, Fk.ek_trev, Fk.ev_lrng, Fk.ek_lrng, Fk.ev_hsum, Fk.ek_hsum, Fk.ek_hs2, Fk.ev_dct0, Fk.ev_ix, Fk.ek_ix, Fk.ev_sl, Fk.ek_sl, Fk.ek_sl2, Fk.ek_sl3, Fk.ev_fld, Fk.ek_fld, Fk.ev_isi, Fk.ek_isi, Fk.ek_blR, Fk.ev_exi, Fk.ek_exi, Fk.ev_exf, Fk.ek_exf, Fk.ev_comp, Fk.ek_comp, Fk.ek_comp3, Fk.ev_o0, Fk.ev_o1, Fk.ek_o1, Fk.ev_a0, Fk.ev_a1, Fk.ek_a, Fk.ek_a2, Fk.ev_a2, Fk.ek_exv, Fk.ev_its, Fk.ek_its1, Fk.ek_its2, Fk.ev_tand, Fk.ek_tand1, Fk.ek_tand0, Fk.ev_tor, Fk.ek_tor1, Fk.ek_tor0, Fk.ev_tnot, Fk.ek_tnot, Fk.ev_tval, Fk.ek_tval, Fk.ek_tv2, Fk.ev_tyes, Fk.ev_pass, Fk.ev_seq, Fk.ev_expr, Fk.ek_expr, Fk.ev_asg, Fk.ek_asg, Fk.ev_seti, Fk.ek_set, Fk.ek_set2, Fk.ek_set3, Fk.ek_set4, Fk.ev_ret, Fk.ek_ret, Fk.ev_retn, Fk.ev_if, Fk.ek_if1, Fk.ek_if0, Fk.ev_for, Fk.ek_for, Fk.ev_brk, Fk.ev_cont, Fk.ev_while, Fk.ev_frz, Fk.ek_frz, Fk.ek_frzp, Fk.ek_frz2, Fk.ev_raise, Fk.ek_raise, Fk.ek_raise2, Fk.ek_xp0, Fk.ek_xp1, Fk.ev_try, Fk.ek_try0, Fk.ek_tryx, Fk.ek_try1, Fk.ek_tryf, Fk.ek_endr, Fk.ek_endn, Fk.ek_endb, Fk.ek_endc, Fk.ev_forB, Fk.ev_forB2, Fk.ev_tB, Fk.ek_tB1, Fk.ek_tB0, Fk.ek_tB2, Fk.gv_0, Fk.gv_s, Fk.op_add, Fk.op_sub, Fk.op_mul, Fk.op_fdiv, Fk.op_fdivs, Fk.op_mod, Fk.op_pow, Fk.op_lt, Fk.op_le, Fk.op_gt, Fk.op_ge, Fk.op_eqi, Fk.op_eqb, Fk.op_eqs, Fk.op_nei, Fk.op_neb, Fk.op_nes, Fk.op_addl, Fk.op_addt, Fk.op_adds, Fk.tr_bl, Fk.tr_non, Fk.tr_int, Fk.tr_lst, Fk.tr_tup, Fk.va_nil, Fk.va_cons, Fk.pu_nil, Fk.pu_cons, Fk.bi_lenl, Fk.bi_lent, Fk.bi_lenr, Fk.bi_lenp, Fk.ek_lenr, Fk.bi_int, Fk.bi_min, Fk.bi_max, Fk.bi_listl, Fk.bi_listt, Fk.bi_tupl, Fk.bi_tupt, Fk.bi_tupp, Fk.ek_tupr, Fk.bi_lisp, Fk.ek_lisr, Fk.bi_str, Fk.new_f, Fk.new_t, Fk.newK_f, Fk.ix_t, Fk.ix_l, Fk.ix_r, Fk.ix_p, Fk.ek_ixr, Fk.at_0, Fk.at_1, Fk.at_2, Fk.set_l, Fk.ek_st, Fk.ek_st2, Fk.ixN_0, Fk.ixN_1, Fk.ixN_2, Fk.me_app, Fk.ek_app, Fk.ty_app, Fk.ek_tyl, Fk.me_joinl, Fk.ek_join, Fk.ty_join, Fk.it_seql, Fk.it_seqt, Fk.it_seqr, Fk.it_rngn, Fk.it_rng, Fk.it_rng2, Fk.it_rev, Fk.it_revt, Fk.it_ziptl, Fk.it_zipll, Fk.it_ziptt, Fk.lk_p, Fk.sl_t, Fk.sl_l, Fk.cut_to, Fk.cut_from1, Fk.cut_1, Fk.cut_from, Fk.hl_get, Fk.hl_set, Fk.op_eqL, Fk.op_neL, Fk.op_eqT, Fk.op_neT, tyP, R.bind_ok, R.bind_ex, R.st_ok, R.st_ex, RS2.seq_nx, RS2.seq_rt, RS2.seq_ex, RS2.seq_bk, RS2.seq_ct, List.set_cons_zero, List.set_cons_succ, List.getElem?_cons_zero, List.getElem?_cons_succ, Option.map_some, reduceCtorEq, imp_self, implies_true, Bool.not_true, Bool.not_false, decide_true, decide_false, Nat.reduceAdd, Nat.reduceSub, Nat.reduceLT, Nat.reduceLeDiff, Nat.reduceEqDiff, Int.reduceLT, Int.reduceLE, Int.reduceEq, Int.reduceNeg, Int.reduceToNat, Nat.reduceBEq, and_self, true_and, and_true, Nat.reducePow, Int.reducePow, Int.reduceAdd, Int.reduceSub, Int.reduceMul, List.length_cons, List.length_nil, List.cons_append, List.nil_append, List.append_nil, ct, bl, Nat.zero_le, e']
  rw [show iP ([] : List Int) = [] from rfl] at e
  rw [e]
  simp -implicitDefEqProofs only [Fk.ev_var, Fk.ev_lit, Fk.ev_con, Fk.ek_ofO, Fk.ev_op, Fk.ek_op, Fk.ev_neg, Fk.ek_neg, Fk.ev_notv, Fk.ek_not, Fk.ek_not2, Fk.ev_andv, Fk.ek_and, Fk.ek_and1, Fk.ek_and0, Fk.ev_orv, Fk.ek_or, Fk.ek_or1, Fk.ek_or0, Fk.ev_chain, Fk.ek_ch, Fk.ek_ch2, Fk.ek_ch3t, Fk.ek_ch3f, Fk.ev_ite, Fk.ek_ite1, Fk.ek_ite0, Fk.ev_call, Fk.ev_bi, Fk.ek_bi1, Fk.ek_bi2, Fk.ev_me, Fk.ek_me, Fk.ek_meb, Fk.ek_me20, Fk.ek_me21, Fk.ek_me22, Fk.ev_tup, Fk.ek_tup, Fk.ek_tup2, Fk.ev_lst, Fk.ek_lst, Fk.ek_lst2, Fk.ev_trev, Fk.ek_trev, Fk.ev_lrng, Fk.ek_lrng, Fk.ev_hsum, Fk.ek_hsum, Fk.ek_hs2, Fk.ev_dct0, Fk.ev_ix, Fk.ek_ix, Fk.ev_sl, Fk.ek_sl, Fk.ek_sl2, Fk.ek_sl3, Fk.ev_fld, Fk.ek_fld, Fk.ev_isi, Fk.ek_isi, Fk.ek_blR, Fk.ev_exi, Fk.ek_exi, Fk.ev_exf, Fk.ek_exf, Fk.ev_comp, Fk.ek_comp, Fk.ek_comp3, Fk.ev_o0, Fk.ev_o1, Fk.ek_o1, Fk.ev_a0, Fk.ev_a1, Fk.ek_a, Fk.ek_a2, Fk.ev_a2, Fk.ek_exv, Fk.ev_its, Fk.ek_its1, Fk.ek_its2, Fk.ev_tand, Fk.ek_tand1, Fk.ek_tand0, Fk.ev_tor, Fk.ek_tor1, Fk.ek_tor0, Fk.ev_tnot, Fk.ek_tnot, Fk.ev_tval, Fk.ek_tval, Fk.ek_tv2, Fk.ev_tyes, Fk.ev_pass, Fk.ev_seq, Fk.ev_expr, Fk.ek_expr, Fk.ev_asg, Fk.ek_asg, Fk.ev_seti, Fk.ek_set, Fk.ek_set2, Fk.ek_set3, Fk.ek_set4, Fk.ev_ret, Fk.ek_ret, Fk.ev_retn, Fk.ev_if, Fk.ek_if1, Fk.ek_if0, Fk.ev_for, Fk.ek_for, Fk.ev_brk, Fk.ev_cont, Fk.ev_while, Fk.ev_frz, Fk.ek_frz, Fk.ek_frzp, Fk.ek_frz2, Fk.ev_raise, Fk.ek_raise, Fk.ek_raise2, Fk.ek_xp0, Fk.ek_xp1, Fk.ev_try, Fk.ek_try0, Fk.ek_tryx, Fk.ek_try1, Fk.ek_tryf, Fk.ek_endr, Fk.ek_endn, Fk.ek_endb, Fk.ek_endc, Fk.ev_forB, Fk.ev_forB2, Fk.ev_tB, Fk.ek_tB1, Fk.ek_tB0, Fk.ek_tB2, Fk.gv_0, Fk.gv_s, Fk.op_add, Fk.op_sub, Fk.op_mul, Fk.op_fdiv, Fk.op_fdivs, Fk.op_mod, Fk.op_pow, Fk.op_lt, Fk.op_le, Fk.op_gt, Fk.op_ge, Fk.op_eqi, Fk.op_eqb, Fk.op_eqs, Fk.op_nei, Fk.op_neb, Fk.op_nes, Fk.op_addl, Fk.op_addt, Fk.op_adds, Fk.tr_bl, Fk.tr_non, Fk.tr_int, Fk.tr_lst, Fk.tr_tup, Fk.va_nil, Fk.va_cons, Fk.pu_nil, Fk.pu_cons, Fk.bi_lenl, Fk.bi_lent, Fk.bi_lenr, Fk.bi_lenp, Fk.ek_lenr, Fk.bi_int, Fk.bi_min, Fk.bi_max, Fk.bi_listl, Fk.bi_listt, Fk.bi_tupl, Fk.bi_tupt, Fk.bi_tupp, Fk.ek_tupr, Fk.bi_lisp, Fk.ek_lisr, Fk.bi_str, Fk.new_f, Fk.new_t, Fk.newK_f, Fk.ix_t, Fk.ix_l, Fk.ix_r, Fk.ix_p, Fk.ek_ixr, Fk.at_0, Fk.at_1, Fk.at_2, Fk.set_l, Fk.ek_st, Fk.ek_st2, Fk.ixN_0, Fk.ixN_1, Fk.ixN_2, Fk.me_app, Fk.ek_app, Fk.ty_app, Fk.ek_tyl, Fk.me_joinl, Fk.ek_join, Fk.ty_join, Fk.it_seql, Fk.it_seqt, Fk.it_seqr, Fk.it_rngn, Fk.it_rng, Fk.it_rng2, Fk.it_rev, Fk.it_revt, Fk.it_ziptl, Fk.it_zipll, Fk.it_ziptt, Fk.lk_p, Fk.sl_t, Fk.sl_l, Fk.cut_to, Fk.cut_from1, Fk.cut_1, Fk.cut_from, Fk.hl_get, Fk.hl_set, Fk.op_eqL, Fk.op_neL, Fk.op_eqT, Fk.op_neT, tyP, R.bind_ok, R.bind_ex, R.st_ok, R.st_ex, RS2.seq_nx, RS2.seq_rt, RS2.seq_ex, RS2.seq_bk, RS2.seq_ct, List.set_cons_zero, List.set_cons_succ, List.getElem?_cons_zero, List.getElem?_cons_succ, Option.map_some, reduceCtorEq, imp_self, implies_true, Bool.not_true, Bool.not_false, decide_true, decide_false, Nat.reduceAdd, Nat.reduceSub, Nat.reduceLT, Nat.reduceLeDiff, Nat.reduceEqDiff, Int.reduceLT, Int.reduceLE, Int.reduceEq, Int.reduceNeg, Int.reduceToNat, Nat.reduceBEq, and_self, true_and, and_true, Nat.reducePow, Int.reducePow, Int.reduceAdd, Int.reduceSub, Int.reduceMul, List.length_cons, List.length_nil, List.cons_append, List.nil_append, List.append_nil, iP, ← List.map_reverse, List.reverse_reverse]
  exact en_rtN hc
theorem unpack_not {n : Nat} {x : P} {zs : List Int} {L : Hl} (hz : Sz zs) (ht : (tyP x .int).isSome = true) (h : okm x (prd zs) = false) :
    run S (n + 2) 11 [.v (.p x), .v (.p (.lst (iP zs)))] L = .ex 11 [] L := by
  rw [r11_2]
  have bl := below_ok (n := n) (x := x) (l := prd zs) (L := L) ht
  rw [h] at bl
  have ct := count_ok (n := n) (L := L) hz
  simp -implicitDefEqProofs only [b11, Fk.ev_var, Fk.ev_lit, Fk.ev_con, Fk.ek_ofO, Fk.ev_op, Fk.ek_op, Fk.ev_neg, Fk.ek_neg, Fk.ev_notv, Fk.ek_not, Fk.ek_not2, Fk.ev_andv, Fk.ek_and, Fk.ek_and1, Fk.ek_and0, Fk.ev_orv, Fk.ek_or, Fk.ek_or1, Fk.ek_or0, Fk.ev_chain, Fk.ek_ch, Fk.ek_ch2, Fk.ek_ch3t, Fk.ek_ch3f, Fk.ev_ite, Fk.ek_ite1, Fk.ek_ite0, Fk.ev_call, Fk.ev_bi, Fk.ek_bi1, Fk.ek_bi2, Fk.ev_me, Fk.ek_me, Fk.ek_meb, Fk.ek_me20, Fk.ek_me21, Fk.ek_me22, Fk.ev_tup, Fk.ek_tup, Fk.ek_tup2, Fk.ev_lst, Fk.ek_lst, Fk.ek_lst2, Fk.ev_trev, Fk.ek_trev, Fk.ev_lrng, Fk.ek_lrng, Fk.ev_hsum, Fk.ek_hsum, Fk.ek_hs2, Fk.ev_dct0, Fk.ev_ix, Fk.ek_ix, Fk.ev_sl, Fk.ek_sl, Fk.ek_sl2, Fk.ek_sl3, Fk.ev_fld, Fk.ek_fld, Fk.ev_isi, Fk.ek_isi, Fk.ek_blR, Fk.ev_exi, Fk.ek_exi, Fk.ev_exf, Fk.ek_exf, Fk.ev_comp, Fk.ek_comp, Fk.ek_comp3, Fk.ev_o0, Fk.ev_o1, Fk.ek_o1, Fk.ev_a0, Fk.ev_a1, Fk.ek_a, Fk.ek_a2, Fk.ev_a2, Fk.ek_exv, Fk.ev_its, Fk.ek_its1, Fk.ek_its2, Fk.ev_tand, Fk.ek_tand1, Fk.ek_tand0, Fk.ev_tor, Fk.ek_tor1, Fk.ek_tor0, Fk.ev_tnot, Fk.ek_tnot, Fk.ev_tval, Fk.ek_tval, Fk.ek_tv2, Fk.ev_tyes, Fk.ev_pass, Fk.ev_seq, Fk.ev_expr, Fk.ek_expr, Fk.ev_asg, Fk.ek_asg, Fk.ev_seti, Fk.ek_set, Fk.ek_set2, Fk.ek_set3, Fk.ek_set4, Fk.ev_ret, Fk.ek_ret, Fk.ev_retn, Fk.ev_if, Fk.ek_if1, Fk.ek_if0, Fk.ev_for, Fk.ek_for, Fk.ev_brk, Fk.ev_cont, Fk.ev_while, Fk.ev_frz, Fk.ek_frz, Fk.ek_frzp, Fk.ek_frz2, Fk.ev_raise, Fk.ek_raise, Fk.ek_raise2, Fk.ek_xp0, Fk.ek_xp1, Fk.ev_try, Fk.ek_try0, Fk.ek_tryx, Fk.ek_try1, Fk.ek_tryf, Fk.ek_endr, Fk.ek_endn, Fk.ek_endb, Fk.ek_endc, Fk.ev_forB, Fk.ev_forB2, Fk.ev_tB, Fk.ek_tB1, Fk.ek_tB0, Fk.ek_tB2, Fk.gv_0, Fk.gv_s, Fk.op_add, Fk.op_sub, Fk.op_mul, Fk.op_fdiv, Fk.op_fdivs, Fk.op_mod, Fk.op_pow, Fk.op_lt, Fk.op_le, Fk.op_gt, Fk.op_ge, Fk.op_eqi, Fk.op_eqb, Fk.op_eqs, Fk.op_nei, Fk.op_neb, Fk.op_nes, Fk.op_addl, Fk.op_addt, Fk.op_adds, Fk.tr_bl, Fk.tr_non, Fk.tr_int, Fk.tr_lst, Fk.tr_tup, Fk.va_nil, Fk.va_cons, Fk.pu_nil, Fk.pu_cons, Fk.bi_lenl, Fk.bi_lent, Fk.bi_lenr, Fk.bi_lenp, Fk.ek_lenr, Fk.bi_int, Fk.bi_min, Fk.bi_max, Fk.bi_listl, Fk.bi_listt, Fk.bi_tupl, Fk.bi_tupt, Fk.bi_tupp, Fk.ek_tupr, Fk.bi_lisp, Fk.ek_lisr, Fk.bi_str, Fk.new_f, Fk.new_t, Fk.newK_f, Fk.ix_t, Fk.ix_l, Fk.ix_r, Fk.ix_p, Fk.ek_ixr, Fk.at_0, Fk.at_1, Fk.at_2, Fk.set_l, Fk.ek_st, Fk.ek_st2, Fk.ixN_0, Fk.ixN_1, Fk.ixN_2, Fk.me_app, Fk.ek_app, Fk.ty_app, Fk.ek_tyl, Fk.me_joinl, Fk.ek_join, Fk.ty_join, Fk.it_seql, Fk.it_seqt, Fk.it_seqr, Fk.it_rngn, Fk.it_rng, Fk.it_rng2, Fk.it_rev, Fk.it_revt, Fk.it_ziptl, Fk.it_zipll, Fk.it_ziptt, Fk.lk_p, Fk.sl_t, Fk.sl_l, Fk.cut_to, Fk.cut_from1, Fk.cut_1, Fk.cut_from, Fk.hl_get, Fk.hl_set, Fk.op_eqL, Fk.op_neL, Fk.op_eqT, Fk.op_neT, tyP, R.bind_ok, R.bind_ex, R.st_ok, R.st_ex, RS2.seq_nx, RS2.seq_rt, RS2.seq_ex, RS2.seq_bk, RS2.seq_ct, List.set_cons_zero, List.set_cons_succ, List.getElem?_cons_zero, List.getElem?_cons_succ, Option.map_some, reduceCtorEq, imp_self, implies_true, Bool.not_true, Bool.not_false, decide_true, decide_false, Nat.reduceAdd, Nat.reduceSub, Nat.reduceLT, Nat.reduceLeDiff, Nat.reduceEqDiff, Int.reduceLT, Int.reduceLE, Int.reduceEq, Int.reduceNeg, Int.reduceToNat, Nat.reduceBEq, and_self, true_and, and_true, Nat.reducePow, Int.reducePow, Int.reduceAdd, Int.reduceSub, Int.reduceMul, List.length_cons, List.length_nil, List.cons_append, List.nil_append, List.append_nil, ct, bl]
  exact en_ex rfl
end Lw

set_option Elab.async false
set_option linter.all false
set_option autoImplicit false
set_option maxRecDepth 100000
set_option maxHeartbeats 2000000
namespace Lw
open PySem PySem.Spec PyProof.Rows L2 Fk
theorem rng_get {n i : Nat} {x : P} (h : (rangeP 0 n)[i]? = some x) : x = .int (i : Int) ∧ i < n := by
  unfold rangeP at h
  rw [List.getElem?_map] at h
  by_cases hi : i < n
  · rw [List.getElem?_range hi] at h
    simp at h
    exact ⟨h.symm, hi⟩
  · rw [List.getElem?_eq_none (by simpa using hi)] at h
    simp at h
theorem rng_len (n : Nat) : (rangeP 0 n).length = n := by simp [rangeP]
theorem at_ip {xs : List Int} {i : Nat} {x : Int} (h : xs[i]? = some x) : atP (iP xs) (i : Int) = some (.int x) := by
  rw [at_n, iP, List.getElem?_map, h]; rfl
theorem at_ipk {xs : List Int} {k : Int} {i : Nat} {x : Int} (hk : k = i) (h : xs[i]? = some x) : atP (iP xs) k = some (.int x) := by
  rw [hk]; exact at_ip h
theorem vs_iff : ∀ {ms zs : List Int}, Vs ms zs ↔ ms.length = zs.length ∧ ∀ (i : Nat) (m z : Int), ms[i]? = some m → zs[i]? = some z → 0 ≤ m ∧ m < z
  | [], [] => by simp [Vs]
  | [], _ :: _ => by simp [Vs]
  | _ :: _, [] => by simp [Vs]
  | m :: ms, z :: zs => by
    rw [Vs, vs_iff (ms := ms) (zs := zs)]
    constructor
    · rintro ⟨h1, h2, h3, h4⟩
      refine ⟨by simpa using h3, fun i a b ha hb => ?_⟩
      cases i with
      | zero => simp at ha hb; subst ha; subst hb; exact ⟨h1, h2⟩
      | succ i => exact h4 i a b (by simpa using ha) (by simpa using hb)
    · rintro ⟨h3, h4⟩
      have h0 := h4 0 m z rfl rfl
      exact ⟨h0.1, h0.2, by simpa using h3, fun i a b ha hb => h4 (i + 1) a b (by simpa using ha) (by simpa using hb)⟩
theorem isint_ok {n : Nat} {i : Int} {L : Hl} : run S (n + 1) 16 [.v (.p (.int i))] L = .ok (.p (.bl true)) L := by
  rw [r16_1]
  simp -implicitDefEqProofs only [b16, Fk.ev_var, Fk.ev_lit, Fk.ev_con, Fk.ek_ofO, Fk.ev_op, Fk.ek_op, Fk.ev_neg, Fk.ek_neg, Fk.ev_notv, Fk.ek_not, Fk.ek_not2, Fk.ev_andv, Fk.ek_and, Fk.ek_and1, Fk.ek_and0, Fk.ev_orv, Fk.ek_or, Fk.ek_or1, Fk.ek_or0, Fk.ev_chain, Fk.ek_ch, Fk.ek_ch2, Fk.ek_ch3t, Fk.ek_ch3f, Fk.ev_ite, Fk.ek_ite1, Fk.ek_ite0, Fk.ev_call, Fk.ev_bi, Fk.ek_bi1, Fk.ek_bi2, Fk.ev_me, Fk.ek_me, Fk.ek_meb, Fk.ek_me20, Fk.ek_me21, Fk.ek_me22, Fk.ev_tup, Fk.ek_tup, Fk.ek_tup2, Fk.ev_lst, Fk.ek_lst, Fk.ek_lst2, Fk.ev_trev, Fk.ek_trev, Fk.ev_lrng, Fk.ek_lrng, Fk.ev_hsum, Fk.ek_hsum, Fk.ek_hs2, Fk.ev_dct0, Fk.ev_ix, Fk.ek_ix, Fk.ev_sl, Fk.ek_sl, Fk.ek_sl2, Fk.ek_sl3, Fk.ev_fld, Fk.ek_fld, Fk.ev_isi, Fk.ek_isi, Fk.ek_blR, Fk.ev_exi, Fk.ek_exi, Fk.ev_exf, Fk.ek_exf, Fk.ev_comp, Fk.ek_comp, Fk.ek_comp3, Fk.ev_o0, Fk.ev_o1, Fk.ek_o1, Fk.ev_a0, Fk.ev_a1, Fk.ek_a, Fk.ek_a2, Fk.ev_a2, Fk.ek_exv, Fk.ev_its, Fk.ek_its1, Fk.ek_its2, Fk.ev_tand, Fk.ek_tand1, Fk.ek_tand0, Fk.ev_tor, Fk.ek_tor1, Fk.ek_tor0, Fk.ev_tnot, Fk.ek_tnot, Fk.ev_tval, Fk.ek_tval, Fk.ek_tv2, Fk.ev_tyes, Fk.ev_pass, Fk.ev_seq, Fk.ev_expr, Fk.ek_expr, Fk.ev_asg, Fk.ek_asg, Fk.ev_seti, Fk.ek_set, Fk.ek_set2, Fk.ek_set3, Fk.ek_set4, Fk.ev_ret, Fk.ek_ret, Fk.ev_retn, Fk.ev_if, Fk.ek_if1, Fk.ek_if0, Fk.ev_for, Fk.ek_for, Fk.ev_brk, Fk.ev_cont, Fk.ev_while, Fk.ev_frz, Fk.ek_frz, Fk.ek_frzp, Fk.ek_frz2, Fk.ev_raise, Fk.ek_raise, Fk.ek_raise2, Fk.ek_xp0, Fk.ek_xp1, Fk.ev_try, Fk.ek_try0, Fk.ek_tryx, Fk.ek_try1, Fk.ek_tryf, Fk.ek_endr, Fk.ek_endn, Fk.ek_endb, Fk.ek_endc, Fk.ev_forB, Fk.ev_forB2, Fk.ev_tB, Fk.ek_tB1, Fk.ek_tB0, Fk.ek_tB2, Fk.gv_0, Fk.gv_s, Fk.op_add, Fk.op_sub, Fk.op_mul, Fk.op_fdiv, Fk.op_fdivs, Fk.op_mod, Fk.op_pow, Fk.op_lt, Fk.op_le, Fk.op_gt, Fk.op_ge, Fk.op_eqi, Fk.op_eqb, Fk.op_eqs, Fk.op_nei, Fk.op_neb, Fk.op_nes, Fk.op_addl, Fk.op_addt, Fk.op_adds, Fk.tr_bl, Fk.tr_non, Fk.tr_int, Fk.tr_lst, Fk.tr_tup, Fk.va_nil, Fk.va_cons, Fk.pu_nil, Fk.pu_cons, Fk.bi_lenl, Fk.bi_lent, Fk.bi_lenr, Fk.bi_lenp, Fk.ek_lenr, Fk.bi_int, Fk.bi_min, Fk.bi_max, Fk.bi_listl, Fk.bi_listt, Fk.bi_tupl, Fk.bi_tupt, Fk.bi_tupp, Fk.ek_tupr, Fk.bi_lisp, Fk.ek_lisr, Fk.bi_str, Fk.new_f, Fk.new_t, Fk.newK_f, Fk.ix_t, Fk.ix_l, Fk.ix_r, Fk.ix_p, Fk.ek_ixr, Fk.at_0, Fk.at_1, Fk.at_2, Fk.set_l, Fk.ek_st, Fk.ek_st2, Fk.ixN_0, Fk.ixN_1, Fk.ixN_2, Fk.me_app, Fk.ek_app, Fk.ty_app, Fk.ek_tyl, Fk.me_joinl, Fk.ek_join, Fk.ty_join, Fk.it_seql, Fk.it_seqt, Fk.it_seqr, Fk.it_rngn, Fk.it_rng, Fk.it_rng2, Fk.it_rev, Fk.it_revt, Fk.it_ziptl, Fk.it_zipll, Fk.it_ziptt, Fk.lk_p, Fk.sl_t, Fk.sl_l, Fk.cut_to, Fk.cut_from1, Fk.cut_1, Fk.cut_from, Fk.hl_get, Fk.hl_set, Fk.op_eqL, Fk.op_neL, Fk.op_eqT, Fk.op_neT, tyP, R.bind_ok, R.bind_ex, R.st_ok, R.st_ex, RS2.seq_nx, RS2.seq_rt, RS2.seq_ex, RS2.seq_bk, RS2.seq_ct, List.set_cons_zero, List.set_cons_succ, List.getElem?_cons_zero, List.getElem?_cons_succ, Option.map_some, reduceCtorEq, imp_self, implies_true, Bool.not_true, Bool.not_false, decide_true, decide_false, Nat.reduceAdd, Nat.reduceSub, Nat.reduceLT, Nat.reduceLeDiff, Nat.reduceEqDiff, Int.reduceLT, Int.reduceLE, Int.reduceEq, Int.reduceNeg, Int.reduceToNat, Nat.reduceBEq, and_self, true_and, and_true, Nat.reducePow, Int.reducePow, Int.reduceAdd, Int.reduceSub, Int.reduceMul, List.length_cons, List.length_nil, List.cons_append, List.nil_append, List.append_nil]
  exact en_rt rfl
theorem counted_ok {n : Nat} {zs : List Int} {L : Hl} (h : Sz zs) : run S (n + 2) 20 [.v (.p (.lst (iP zs)))] L = .ok (.p (.bl true)) L := by
  rw [r20_1]
  have c1 := count_ok (n := n) (L := L) h
  have c2 := product_ok (n := n) (L := L) h
  have c3 := isint_ok (n := n) (i := prd zs) (L := L)
  simp -implicitDefEqProofs only [b20, Fk.ev_var, Fk.ev_lit, Fk.ev_con, Fk.ek_ofO, Fk.ev_op, Fk.ek_op, Fk.ev_neg, Fk.ek_neg, Fk.ev_notv, Fk.ek_not, Fk.ek_not2, Fk.ev_andv, Fk.ek_and, Fk.ek_and1, Fk.ek_and0, Fk.ev_orv, Fk.ek_or, Fk.ek_or1, Fk.ek_or0, Fk.ev_chain, Fk.ek_ch, Fk.ek_ch2, Fk.ek_ch3t, Fk.ek_ch3f, Fk.ev_ite, Fk.ek_ite1, Fk.ek_ite0, Fk.ev_call, Fk.ev_bi, Fk.ek_bi1, Fk.ek_bi2, Fk.ev_me, Fk.ek_me, Fk.ek_meb, Fk.ek_me20, Fk.ek_me21, Fk.ek_me22, Fk.ev_tup, Fk.ek_tup, Fk.ek_tup2, Fk.ev_lst, Fk.ek_lst, Fk.ek_lst2, Fk.ev_trev, Fk.ek_trev, Fk.ev_lrng, Fk.ek_lrng, Fk.ev_hsum, Fk.ek_hsum, Fk.ek_hs2, Fk.ev_dct0, Fk.ev_ix, Fk.ek_ix, Fk.ev_sl, Fk.ek_sl, Fk.ek_sl2, Fk.ek_sl3, Fk.ev_fld, Fk.ek_fld, Fk.ev_isi, Fk.ek_isi, Fk.ek_blR, Fk.ev_exi, Fk.ek_exi, Fk.ev_exf, Fk.ek_exf, Fk.ev_comp, Fk.ek_comp, Fk.ek_comp3, Fk.ev_o0, Fk.ev_o1, Fk.ek_o1, Fk.ev_a0, Fk.ev_a1, Fk.ek_a, Fk.ek_a2, Fk.ev_a2, Fk.ek_exv, Fk.ev_its, Fk.ek_its1, Fk.ek_its2, Fk.ev_tand, Fk.ek_tand1, Fk.ek_tand0, Fk.ev_tor, Fk.ek_tor1, Fk.ek_tor0, Fk.ev_tnot, Fk.ek_tnot, Fk.ev_tval, Fk.ek_tval, Fk.ek_tv2, Fk.ev_tyes, Fk.ev_pass, Fk.ev_seq, Fk.ev_expr, Fk.ek_expr, Fk.ev_asg, Fk.ek_asg, Fk.ev_seti, Fk.ek_set, Fk.ek_set2, Fk.ek_set3, Fk.ek_set4, Fk.ev_ret, Fk.ek_ret, Fk.ev_retn, Fk.ev_if, Fk.ek_if1, Fk.ek_if0, Fk.ev_for, Fk.ek_for, Fk.ev_brk, Fk.ev_cont, Fk.ev_while, Fk.ev_frz, Fk.ek_frz, Fk.ek_frzp, Fk.ek_frz2, Fk.ev_raise, Fk.ek_raise, Fk.ek_raise2, Fk.ek_xp0, Fk.ek_xp1, Fk.ev_try, Fk.ek_try0, Fk.ek_tryx, Fk.ek_try1, Fk.ek_tryf, Fk.ek_endr, Fk.ek_endn, Fk.ek_endb, Fk.ek_endc, Fk.ev_forB, Fk.ev_forB2, Fk.ev_tB, Fk.ek_tB1, Fk.ek_tB0, Fk.ek_tB2, Fk.gv_0, Fk.gv_s, Fk.op_add, Fk.op_sub, Fk.op_mul, Fk.op_fdiv, Fk.op_fdivs, Fk.op_mod, Fk.op_pow, Fk.op_lt, Fk.op_le, Fk.op_gt, Fk.op_ge, Fk.op_eqi, Fk.op_eqb, Fk.op_eqs, Fk.op_nei, Fk.op_neb, Fk.op_nes, Fk.op_addl, Fk.op_addt, Fk.op_adds, Fk.tr_bl, Fk.tr_non, Fk.tr_int, Fk.tr_lst, Fk.tr_tup, Fk.va_nil, Fk.va_cons, Fk.pu_nil, Fk.pu_cons, Fk.bi_lenl, Fk.bi_lent, Fk.bi_lenr, Fk.bi_lenp, Fk.ek_lenr, Fk.bi_int, Fk.bi_min, Fk.bi_max, Fk.bi_listl, Fk.bi_listt, Fk.bi_tupl, Fk.bi_tupt, Fk.bi_tupp, Fk.ek_tupr, Fk.bi_lisp, Fk.ek_lisr, Fk.bi_str, Fk.new_f, Fk.new_t, Fk.newK_f, Fk.ix_t, Fk.ix_l, Fk.ix_r, Fk.ix_p, Fk.ek_ixr, Fk.at_0, Fk.at_1, Fk.at_2, Fk.set_l, Fk.ek_st, Fk.ek_st2, Fk.ixN_0, Fk.ixN_1, Fk.ixN_2, Fk.me_app, Fk.ek_app, Fk.ty_app, Fk.ek_tyl, Fk.me_joinl, Fk.ek_join, Fk.ty_join, Fk.it_seql, Fk.it_seqt, Fk.it_seqr, Fk.it_rngn, Fk.it_rng, Fk.it_rng2, Fk.it_rev, Fk.it_revt, Fk.it_ziptl, Fk.it_zipll, Fk.it_ziptt, Fk.lk_p, Fk.sl_t, Fk.sl_l, Fk.cut_to, Fk.cut_from1, Fk.cut_1, Fk.cut_from, Fk.hl_get, Fk.hl_set, Fk.op_eqL, Fk.op_neL, Fk.op_eqT, Fk.op_neT, tyP, R.bind_ok, R.bind_ex, R.st_ok, R.st_ex, RS2.seq_nx, RS2.seq_rt, RS2.seq_ex, RS2.seq_bk, RS2.seq_ct, List.set_cons_zero, List.set_cons_succ, List.getElem?_cons_zero, List.getElem?_cons_succ, Option.map_some, reduceCtorEq, imp_self, implies_true, Bool.not_true, Bool.not_false, decide_true, decide_false, Nat.reduceAdd, Nat.reduceSub, Nat.reduceLT, Nat.reduceLeDiff, Nat.reduceEqDiff, Int.reduceLT, Int.reduceLE, Int.reduceEq, Int.reduceNeg, Int.reduceToNat, Nat.reduceBEq, and_self, true_and, and_true, Nat.reducePow, Int.reducePow, Int.reduceAdd, Int.reduceSub, Int.reduceMul, List.length_cons, List.length_nil, List.cons_append, List.nil_append, List.append_nil, c1, c2, c3]
  exact en_rt rfl
theorem lk11 {b : Bool} : List.lookup 11 [(11, b)] = some b := rfl
theorem bo_nil : boolsP [] = some [] := rfl
theorem bo_cons {b : Bool} {r : List P} : boolsP (.bl b :: r) = (boolsP r).map ((if b then 1 else 0) :: ·) := rfl
theorem kinds_ok {n : Nat} {L : Hl} : run S (n + 1) 13 [.e 11 []] L = .ok (.p (.int 1)) L := by
  rw [r13_1]
  have h28 : (28 : Nat) ≤ sizeLine := by decide
  simp -implicitDefEqProofs only [b13, Fk.ev_var, Fk.ev_lit, Fk.ev_con, Fk.ek_ofO, Fk.ev_op, Fk.ek_op, Fk.ev_neg, Fk.ek_neg, Fk.ev_notv, Fk.ek_not, Fk.ek_not2, Fk.ev_andv, Fk.ek_and, Fk.ek_and1, Fk.ek_and0, Fk.ev_orv, Fk.ek_or, Fk.ek_or1, Fk.ek_or0, Fk.ev_chain, Fk.ek_ch, Fk.ek_ch2, Fk.ek_ch3t, Fk.ek_ch3f, Fk.ev_ite, Fk.ek_ite1, Fk.ek_ite0, Fk.ev_call, Fk.ev_bi, Fk.ek_bi1, Fk.ek_bi2, Fk.ev_me, Fk.ek_me, Fk.ek_meb, Fk.ek_me20, Fk.ek_me21, Fk.ek_me22, Fk.ev_tup, Fk.ek_tup, Fk.ek_tup2, Fk.ev_lst, Fk.ek_lst, Fk.ek_lst2, Fk.ev_trev, Fk.ek_trev, Fk.ev_lrng, Fk.ek_lrng, Fk.ev_hsum, Fk.ek_hsum, Fk.ek_hs2, Fk.ev_dct0, Fk.ev_ix, Fk.ek_ix, Fk.ev_sl, Fk.ek_sl, Fk.ek_sl2, Fk.ek_sl3, Fk.ev_fld, Fk.ek_fld, Fk.ev_isi, Fk.ek_isi, Fk.ek_blR, Fk.ev_exi, Fk.ek_exi, Fk.ev_exf, Fk.ek_exf, Fk.ev_comp, Fk.ek_comp, Fk.ek_comp3, Fk.ev_o0, Fk.ev_o1, Fk.ek_o1, Fk.ev_a0, Fk.ev_a1, Fk.ek_a, Fk.ek_a2, Fk.ev_a2, Fk.ek_exv, Fk.ev_its, Fk.ek_its1, Fk.ek_its2, Fk.ev_tand, Fk.ek_tand1, Fk.ek_tand0, Fk.ev_tor, Fk.ek_tor1, Fk.ek_tor0, Fk.ev_tnot, Fk.ek_tnot, Fk.ev_tval, Fk.ek_tval, Fk.ek_tv2, Fk.ev_tyes, Fk.ev_pass, Fk.ev_seq, Fk.ev_expr, Fk.ek_expr, Fk.ev_asg, Fk.ek_asg, Fk.ev_seti, Fk.ek_set, Fk.ek_set2, Fk.ek_set3, Fk.ek_set4, Fk.ev_ret, Fk.ek_ret, Fk.ev_retn, Fk.ev_if, Fk.ek_if1, Fk.ek_if0, Fk.ev_for, Fk.ek_for, Fk.ev_brk, Fk.ev_cont, Fk.ev_while, Fk.ev_frz, Fk.ek_frz, Fk.ek_frzp, Fk.ek_frz2, Fk.ev_raise, Fk.ek_raise, Fk.ek_raise2, Fk.ek_xp0, Fk.ek_xp1, Fk.ev_try, Fk.ek_try0, Fk.ek_tryx, Fk.ek_try1, Fk.ek_tryf, Fk.ek_endr, Fk.ek_endn, Fk.ek_endb, Fk.ek_endc, Fk.ev_forB, Fk.ev_forB2, Fk.ev_tB, Fk.ek_tB1, Fk.ek_tB0, Fk.ek_tB2, Fk.gv_0, Fk.gv_s, Fk.op_add, Fk.op_sub, Fk.op_mul, Fk.op_fdiv, Fk.op_fdivs, Fk.op_mod, Fk.op_pow, Fk.op_lt, Fk.op_le, Fk.op_gt, Fk.op_ge, Fk.op_eqi, Fk.op_eqb, Fk.op_eqs, Fk.op_nei, Fk.op_neb, Fk.op_nes, Fk.op_addl, Fk.op_addt, Fk.op_adds, Fk.tr_bl, Fk.tr_non, Fk.tr_int, Fk.tr_lst, Fk.tr_tup, Fk.va_nil, Fk.va_cons, Fk.pu_nil, Fk.pu_cons, Fk.bi_lenl, Fk.bi_lent, Fk.bi_lenr, Fk.bi_lenp, Fk.ek_lenr, Fk.bi_int, Fk.bi_min, Fk.bi_max, Fk.bi_listl, Fk.bi_listt, Fk.bi_tupl, Fk.bi_tupt, Fk.bi_tupp, Fk.ek_tupr, Fk.bi_lisp, Fk.ek_lisr, Fk.bi_str, Fk.new_f, Fk.new_t, Fk.newK_f, Fk.ix_t, Fk.ix_l, Fk.ix_r, Fk.ix_p, Fk.ek_ixr, Fk.at_0, Fk.at_1, Fk.at_2, Fk.set_l, Fk.ek_st, Fk.ek_st2, Fk.ixN_0, Fk.ixN_1, Fk.ixN_2, Fk.me_app, Fk.ek_app, Fk.ty_app, Fk.ek_tyl, Fk.me_joinl, Fk.ek_join, Fk.ty_join, Fk.it_seql, Fk.it_seqt, Fk.it_seqr, Fk.it_rngn, Fk.it_rng, Fk.it_rng2, Fk.it_rev, Fk.it_revt, Fk.it_ziptl, Fk.it_zipll, Fk.it_ziptt, Fk.lk_p, Fk.sl_t, Fk.sl_l, Fk.cut_to, Fk.cut_from1, Fk.cut_1, Fk.cut_from, Fk.hl_get, Fk.hl_set, Fk.op_eqL, Fk.op_neL, Fk.op_eqT, Fk.op_neT, tyP, R.bind_ok, R.bind_ex, R.st_ok, R.st_ex, RS2.seq_nx, RS2.seq_rt, RS2.seq_ex, RS2.seq_bk, RS2.seq_ct, List.set_cons_zero, List.set_cons_succ, List.getElem?_cons_zero, List.getElem?_cons_succ, Option.map_some, reduceCtorEq, imp_self, implies_true, Bool.not_true, Bool.not_false, decide_true, decide_false, Nat.reduceAdd, Nat.reduceSub, Nat.reduceLT, Nat.reduceLeDiff, Nat.reduceEqDiff, Int.reduceLT, Int.reduceLE, Int.reduceEq, Int.reduceNeg, Int.reduceToNat, Nat.reduceBEq, and_self, true_and, and_true, Nat.reducePow, Int.reducePow, Int.reduceAdd, Int.reduceSub, Int.reduceMul, List.length_cons, List.length_nil, List.cons_append, List.nil_append, List.append_nil, lk11, bo_nil, bo_cons, h28]
  exact en_rt rfl
theorem refused_0 {n : Nat} {x : P} {zs : List Int} {L : Hl} (h : run S (n + 2) 9 [.v (.p x), .v (.p (.lst (iP zs)))] L = .ex 11 [] L) :
    run S (n + 3) 8 [.v (.p (.int 0)), .v (.p x), .v (.p (.lst (iP zs)))] L = .ok (.p (.bl true)) L := by
  rw [r8_3]
  have k := kinds_ok (n := n + 1) (L := L)
  simp -implicitDefEqProofs only [b8, Fk.ev_var, Fk.ev_lit, Fk.ev_con, Fk.ek_ofO, Fk.ev_op, Fk.ek_op, Fk.ev_neg, Fk.ek_neg, Fk.ev_notv, Fk.ek_not, Fk.ek_not2, Fk.ev_andv, Fk.ek_and, Fk.ek_and1, Fk.ek_and0, Fk.ev_orv, Fk.ek_or, Fk.ek_or1, Fk.ek_or0, Fk.ev_chain, Fk.ek_ch, Fk.ek_ch2, Fk.ek_ch3t, Fk.ek_ch3f, Fk.ev_ite, Fk.ek_ite1, Fk.ek_ite0, Fk.ev_call, Fk.ev_bi, Fk.ek_bi1, Fk.ek_bi2, Fk.ev_me, Fk.ek_me, Fk.ek_meb, Fk.ek_me20, Fk.ek_me21, Fk.ek_me22, Fk.ev_tup, Fk.ek_tup, Fk.ek_tup2, Fk.ev_lst, Fk.ek_lst, Fk.ek_lst2, Fk.ev_trev, Fk.ek_trev, Fk.ev_lrng, Fk.ek_lrng, Fk.ev_hsum, Fk.ek_hsum, Fk.ek_hs2, Fk.ev_dct0, Fk.ev_ix, Fk.ek_ix, Fk.ev_sl, Fk.ek_sl, Fk.ek_sl2, Fk.ek_sl3, Fk.ev_fld, Fk.ek_fld, Fk.ev_isi, Fk.ek_isi, Fk.ek_blR, Fk.ev_exi, Fk.ek_exi, Fk.ev_exf, Fk.ek_exf, Fk.ev_comp, Fk.ek_comp, Fk.ek_comp3, Fk.ev_o0, Fk.ev_o1, Fk.ek_o1, Fk.ev_a0, Fk.ev_a1, Fk.ek_a, Fk.ek_a2, Fk.ev_a2, Fk.ek_exv, Fk.ev_its, Fk.ek_its1, Fk.ek_its2, Fk.ev_tand, Fk.ek_tand1, Fk.ek_tand0, Fk.ev_tor, Fk.ek_tor1, Fk.ek_tor0, Fk.ev_tnot, Fk.ek_tnot, Fk.ev_tval, Fk.ek_tval, Fk.ek_tv2, Fk.ev_tyes, Fk.ev_pass, Fk.ev_seq, Fk.ev_expr, Fk.ek_expr, Fk.ev_asg, Fk.ek_asg, Fk.ev_seti, Fk.ek_set, Fk.ek_set2, Fk.ek_set3, Fk.ek_set4, Fk.ev_ret, Fk.ek_ret, Fk.ev_retn, Fk.ev_if, Fk.ek_if1, Fk.ek_if0, Fk.ev_for, Fk.ek_for, Fk.ev_brk, Fk.ev_cont, Fk.ev_while, Fk.ev_frz, Fk.ek_frz, Fk.ek_frzp, Fk.ek_frz2, Fk.ev_raise, Fk.ek_raise, Fk.ek_raise2, Fk.ek_xp0, Fk.ek_xp1, Fk.ev_try, Fk.ek_try0, Fk.ek_tryx, Fk.ek_try1, Fk.ek_tryf, Fk.ek_endr, Fk.ek_endn, Fk.ek_endb, Fk.ek_endc, Fk.ev_forB, Fk.ev_forB2, Fk.ev_tB, Fk.ek_tB1, Fk.ek_tB0, Fk.ek_tB2, Fk.gv_0, Fk.gv_s, Fk.op_add, Fk.op_sub, Fk.op_mul, Fk.op_fdiv, Fk.op_fdivs, Fk.op_mod, Fk.op_pow, Fk.op_lt, Fk.op_le, Fk.op_gt, Fk.op_ge, Fk.op_eqi, Fk.op_eqb, Fk.op_eqs, Fk.op_nei, Fk.op_neb, Fk.op_nes, Fk.op_addl, Fk.op_addt, Fk.op_adds, Fk.tr_bl, Fk.tr_non, Fk.tr_int, Fk.tr_lst, Fk.tr_tup, Fk.va_nil, Fk.va_cons, Fk.pu_nil, Fk.pu_cons, Fk.bi_lenl, Fk.bi_lent, Fk.bi_lenr, Fk.bi_lenp, Fk.ek_lenr, Fk.bi_int, Fk.bi_min, Fk.bi_max, Fk.bi_listl, Fk.bi_listt, Fk.bi_tupl, Fk.bi_tupt, Fk.bi_tupp, Fk.ek_tupr, Fk.bi_lisp, Fk.ek_lisr, Fk.bi_str, Fk.new_f, Fk.new_t, Fk.newK_f, Fk.ix_t, Fk.ix_l, Fk.ix_r, Fk.ix_p, Fk.ek_ixr, Fk.at_0, Fk.at_1, Fk.at_2, Fk.set_l, Fk.ek_st, Fk.ek_st2, Fk.ixN_0, Fk.ixN_1, Fk.ixN_2, Fk.me_app, Fk.ek_app, Fk.ty_app, Fk.ek_tyl, Fk.me_joinl, Fk.ek_join, Fk.ty_join, Fk.it_seql, Fk.it_seqt, Fk.it_seqr, Fk.it_rngn, Fk.it_rng, Fk.it_rng2, Fk.it_rev, Fk.it_revt, Fk.it_ziptl, Fk.it_zipll, Fk.it_ziptt, Fk.lk_p, Fk.sl_t, Fk.sl_l, Fk.cut_to, Fk.cut_from1, Fk.cut_1, Fk.cut_from, Fk.hl_get, Fk.hl_set, Fk.op_eqL, Fk.op_neL, Fk.op_eqT, Fk.op_neT, tyP, R.bind_ok, R.bind_ex, R.st_ok, R.st_ex, RS2.seq_nx, RS2.seq_rt, RS2.seq_ex, RS2.seq_bk, RS2.seq_ct, List.set_cons_zero, List.set_cons_succ, List.getElem?_cons_zero, List.getElem?_cons_succ, Option.map_some, reduceCtorEq, imp_self, implies_true, Bool.not_true, Bool.not_false, decide_true, decide_false, Nat.reduceAdd, Nat.reduceSub, Nat.reduceLT, Nat.reduceLeDiff, Nat.reduceEqDiff, Int.reduceLT, Int.reduceLE, Int.reduceEq, Int.reduceNeg, Int.reduceToNat, Nat.reduceBEq, and_self, true_and, and_true, Nat.reducePow, Int.reducePow, Int.reduceAdd, Int.reduceSub, Int.reduceMul, List.length_cons, List.length_nil, List.cons_append, List.nil_append, List.append_nil, h, k, lk11]
  exact en_rt rfl
theorem refused_1 {n : Nat} {x : P} {zs : List Int} {L : Hl} (h : run S (n + 2) 11 [.v (.p x), .v (.p (.lst (iP zs)))] L = .ex 11 [] L) :
    run S (n + 3) 8 [.v (.p (.int 1)), .v (.p x), .v (.p (.lst (iP zs)))] L = .ok (.p (.bl true)) L := by
  rw [r8_3]
  have k := kinds_ok (n := n + 1) (L := L)
  simp -implicitDefEqProofs only [b8, Fk.ev_var, Fk.ev_lit, Fk.ev_con, Fk.ek_ofO, Fk.ev_op, Fk.ek_op, Fk.ev_neg, Fk.ek_neg, Fk.ev_notv, Fk.ek_not, Fk.ek_not2, Fk.ev_andv, Fk.ek_and, Fk.ek_and1, Fk.ek_and0, Fk.ev_orv, Fk.ek_or, Fk.ek_or1, Fk.ek_or0, Fk.ev_chain, Fk.ek_ch, Fk.ek_ch2, Fk.ek_ch3t, Fk.ek_ch3f, Fk.ev_ite, Fk.ek_ite1, Fk.ek_ite0, Fk.ev_call, Fk.ev_bi, Fk.ek_bi1, Fk.ek_bi2, Fk.ev_me, Fk.ek_me, Fk.ek_meb, Fk.ek_me20, Fk.ek_me21, Fk.ek_me22, Fk.ev_tup, Fk.ek_tup, Fk.ek_tup2, Fk.ev_lst, Fk.ek_lst, Fk.ek_lst2, Fk.ev_trev, Fk.ek_trev, Fk.ev_lrng, Fk.ek_lrng, Fk.ev_hsum, Fk.ek_hsum, Fk.ek_hs2, Fk.ev_dct0, Fk.ev_ix, Fk.ek_ix, Fk.ev_sl, Fk.ek_sl, Fk.ek_sl2, Fk.ek_sl3, Fk.ev_fld, Fk.ek_fld, Fk.ev_isi, Fk.ek_isi, Fk.ek_blR, Fk.ev_exi, Fk.ek_exi, Fk.ev_exf, Fk.ek_exf, Fk.ev_comp, Fk.ek_comp, Fk.ek_comp3, Fk.ev_o0, Fk.ev_o1, Fk.ek_o1, Fk.ev_a0, Fk.ev_a1, Fk.ek_a, Fk.ek_a2, Fk.ev_a2, Fk.ek_exv, Fk.ev_its, Fk.ek_its1, Fk.ek_its2, Fk.ev_tand, Fk.ek_tand1, Fk.ek_tand0, Fk.ev_tor, Fk.ek_tor1, Fk.ek_tor0, Fk.ev_tnot, Fk.ek_tnot, Fk.ev_tval, Fk.ek_tval, Fk.ek_tv2, Fk.ev_tyes, Fk.ev_pass, Fk.ev_seq, Fk.ev_expr, Fk.ek_expr, Fk.ev_asg, Fk.ek_asg, Fk.ev_seti, Fk.ek_set, Fk.ek_set2, Fk.ek_set3, Fk.ek_set4, Fk.ev_ret, Fk.ek_ret, Fk.ev_retn, Fk.ev_if, Fk.ek_if1, Fk.ek_if0, Fk.ev_for, Fk.ek_for, Fk.ev_brk, Fk.ev_cont, Fk.ev_while, Fk.ev_frz, Fk.ek_frz, Fk.ek_frzp, Fk.ek_frz2, Fk.ev_raise, Fk.ek_raise, Fk.ek_raise2, Fk.ek_xp0, Fk.ek_xp1, Fk.ev_try, Fk.ek_try0, Fk.ek_tryx, Fk.ek_try1, Fk.ek_tryf, Fk.ek_endr, Fk.ek_endn, Fk.ek_endb, Fk.ek_endc, Fk.ev_forB, Fk.ev_forB2, Fk.ev_tB, Fk.ek_tB1, Fk.ek_tB0, Fk.ek_tB2, Fk.gv_0, Fk.gv_s, Fk.op_add, Fk.op_sub, Fk.op_mul, Fk.op_fdiv, Fk.op_fdivs, Fk.op_mod, Fk.op_pow, Fk.op_lt, Fk.op_le, Fk.op_gt, Fk.op_ge, Fk.op_eqi, Fk.op_eqb, Fk.op_eqs, Fk.op_nei, Fk.op_neb, Fk.op_nes, Fk.op_addl, Fk.op_addt, Fk.op_adds, Fk.tr_bl, Fk.tr_non, Fk.tr_int, Fk.tr_lst, Fk.tr_tup, Fk.va_nil, Fk.va_cons, Fk.pu_nil, Fk.pu_cons, Fk.bi_lenl, Fk.bi_lent, Fk.bi_lenr, Fk.bi_lenp, Fk.ek_lenr, Fk.bi_int, Fk.bi_min, Fk.bi_max, Fk.bi_listl, Fk.bi_listt, Fk.bi_tupl, Fk.bi_tupt, Fk.bi_tupp, Fk.ek_tupr, Fk.bi_lisp, Fk.ek_lisr, Fk.bi_str, Fk.new_f, Fk.new_t, Fk.newK_f, Fk.ix_t, Fk.ix_l, Fk.ix_r, Fk.ix_p, Fk.ek_ixr, Fk.at_0, Fk.at_1, Fk.at_2, Fk.set_l, Fk.ek_st, Fk.ek_st2, Fk.ixN_0, Fk.ixN_1, Fk.ixN_2, Fk.me_app, Fk.ek_app, Fk.ty_app, Fk.ek_tyl, Fk.me_joinl, Fk.ek_join, Fk.ty_join, Fk.it_seql, Fk.it_seqt, Fk.it_seqr, Fk.it_rngn, Fk.it_rng, Fk.it_rng2, Fk.it_rev, Fk.it_revt, Fk.it_ziptl, Fk.it_zipll, Fk.it_ziptt, Fk.lk_p, Fk.sl_t, Fk.sl_l, Fk.cut_to, Fk.cut_from1, Fk.cut_1, Fk.cut_from, Fk.hl_get, Fk.hl_set, Fk.op_eqL, Fk.op_neL, Fk.op_eqT, Fk.op_neT, tyP, R.bind_ok, R.bind_ex, R.st_ok, R.st_ex, RS2.seq_nx, RS2.seq_rt, RS2.seq_ex, RS2.seq_bk, RS2.seq_ct, List.set_cons_zero, List.set_cons_succ, List.getElem?_cons_zero, List.getElem?_cons_succ, Option.map_some, reduceCtorEq, imp_self, implies_true, Bool.not_true, Bool.not_false, decide_true, decide_false, Nat.reduceAdd, Nat.reduceSub, Nat.reduceLT, Nat.reduceLeDiff, Nat.reduceEqDiff, Int.reduceLT, Int.reduceLE, Int.reduceEq, Int.reduceNeg, Int.reduceToNat, Nat.reduceBEq, and_self, true_and, and_true, Nat.reducePow, Int.reducePow, Int.reduceAdd, Int.reduceSub, Int.reduceMul, List.length_cons, List.length_nil, List.cons_append, List.nil_append, List.append_nil, h, k, lk11]
  exact en_rt rfl
theorem typ_ip (ms : List Int) : Typ (iP ms) := fun m hm => by
  obtain ⟨i, _, rfl⟩ := List.mem_map.mp hm
  rfl
theorem pack_ok {n : Nat} {ms zs : List Int} {L : Hl} (hz : Sz zs) (hv : Vs ms zs) : run S (n + 2) 9 [.v (.p (.tup (iP ms))), .v (.p (.lst (iP zs)))] L = .ok (.p (.int (val ms zs))) L := by
  rw [pack_tup hz (typ_ip ms) (by rw [iP, List.length_map]; exact hv.len), pk_val _ hv, hn_val _ hv.len, Int.zero_mul, Int.zero_add]
theorem leads_ok {n : Nat} {ms zs : List Int} {L : Hl} (hz : Sz zs) (hv : Vs ms zs) (hc : Clo L) :
    run S (n + 3) 15 [.v (.p (.tup (iP ms))), .v (.p (.int (val ms zs))), .v (.p (.lst (iP zs)))] L = .ok (.p (.bl true)) L := by
  rw [r15_3]
  have u := unpack_ok (n := n) (L := L) hz hv hc
  have p := pack_ok (n := n) (L := L) hz hv
  have i1 := isint_ok (n := n + 1) (i := val ms zs) (L := L)
  have hl : ms.length ≤ 200 := by rw [hv.len]; exact hz.1
  have r1 : Rb ms.length := Nat.le_trans hl (by decide)
  have lp := for_all (b := forB (run S (n + 2)) (cnOf S) (.gn 5) b15_0) (xs := rangeP 0 ms.length) (t := [.v (.p (.tup (iP ms))), .v (.p (.int (val ms zs))), .v (.p (.lst (iP zs))), .v (.p (.lst (iP zs))), .v (.p (.tup (iP ms))), .u, .u]) (L := L)
    (fun i t L' => L' = L ∧ ∃ y, t = [.v (.p (.tup (iP ms))), .v (.p (.int (val ms zs))), .v (.p (.lst (iP zs))), .v (.p (.lst (iP zs))), .v (.p (.tup (iP ms))), y, .u]) ⟨rfl, _, rfl⟩
    fun i x t L' hx hJ => by
      obtain ⟨rfl, y, rfl⟩ := hJ
      obtain ⟨rfl, hi⟩ := rng_get hx
      have hm : ms[i]? = some ms[i] := List.getElem?_eq_getElem hi
      have ha := at_ip hm
      have i2 := isint_ok (n := n + 1) (i := ms[i]) (L := L')
      refine ⟨[.v (.p (.tup (iP ms))), .v (.p (.int (val ms zs))), .v (.p (.lst (iP zs))), .v (.p (.lst (iP zs))), .v (.p (.tup (iP ms))), .v (.p (.int (i : Int))), .u], L', ?_, rfl, _, rfl⟩
      · simp -implicitDefEqProofs only [b15_0, Fk.ev_var, Fk.ev_lit, Fk.ev_con, Fk.ek_ofO, Fk.ev_op, Fk.ek_op, Fk.ev_neg, Fk.ek_neg, Fk.ev_notv, Fk.ek_not, Fk.ek_not2, Fk.ev_andv, Fk.ek_and, Fk.ek_and1, Fk.ek_and0, Fk.ev_orv, Fk.ek_or, Fk.ek_or1, Fk.ek_or0, Fk.ev_chain, Fk.ek_ch, Fk.ek_ch2, Fk.ek_ch3t, Fk.ek_ch3f, Fk.ev_ite, Fk.ek_ite1, Fk.ek_ite0, Fk.ev_call, Fk.ev_bi, Fk.ek_bi1, Fk.ek_bi2, Fk.ev_me, Fk.ek_me, Fk.ek_meb, Fk.ek_me20, Fk.ek_me21, Fk.ek_me22, Fk.ev_tup, Fk.ek_tup, Fk.ek_tup2, Fk.ev_lst, Fk.ek_lst, Fk.ek_lst2, Fk.ev_trev, Fk.ek_trev, Fk.ev_lrng, Fk.ek_lrng, Fk.ev_hsum, Fk.ek_hsum, Fk.ek_hs2, Fk.ev_dct0, Fk.ev_ix, Fk.ek_ix, Fk.ev_sl, Fk.ek_sl, Fk.ek_sl2, Fk.ek_sl3, Fk.ev_fld, Fk.ek_fld, Fk.ev_isi, Fk.ek_isi, Fk.ek_blR, Fk.ev_exi, Fk.ek_exi, Fk.ev_exf, Fk.ek_exf, Fk.ev_comp, Fk.ek_comp, Fk.ek_comp3, Fk.ev_o0, Fk.ev_o1, Fk.ek_o1, Fk.ev_a0, Fk.ev_a1, Fk.ek_a, Fk.ek_a2, Fk.ev_a2, Fk.ek_exv, Fk.ev_its, Fk.ek_its1, Fk.ek_its2, Fk.ev_tand, Fk.ek_tand1, Fk.ek_tand0, Fk.ev_tor, Fk.ek_tor1, Fk.ek_tor0, Fk.ev_tnot, Fk.ek_tnot, Fk.ev_tval, Fk.ek_tval, Fk.ek_tv2, Fk.ev_tyes, Fk.ev_pass, Fk.ev_seq, Fk.ev_expr, Fk.ek_expr, Fk.ev_asg, Fk.ek_asg, Fk.ev_seti, Fk.ek_set, Fk.ek_set2, Fk.ek_set3, Fk.ek_set4, Fk.ev_ret, Fk.ek_ret, Fk.ev_retn, Fk.ev_if, Fk.ek_if1, Fk.ek_if0, Fk.ev_for, Fk.ek_for, Fk.ev_brk, Fk.ev_cont, Fk.ev_while, Fk.ev_frz, Fk.ek_frz, Fk.ek_frzp, Fk.ek_frz2, Fk.ev_raise, Fk.ek_raise, Fk.ek_raise2, Fk.ek_xp0, Fk.ek_xp1, Fk.ev_try, Fk.ek_try0, Fk.ek_tryx, Fk.ek_try1, Fk.ek_tryf, Fk.ek_endr, Fk.ek_endn, Fk.ek_endb, Fk.ek_endc, Fk.ev_forB, Fk.ev_forB2, Fk.ev_tB, Fk.ek_tB1, Fk.ek_tB0, Fk.ek_tB2, Fk.gv_0, Fk.gv_s, Fk.op_add, Fk.op_sub, Fk.op_mul, Fk.op_fdiv, Fk.op_fdivs, Fk.op_mod, Fk.op_pow, Fk.op_lt, Fk.op_le, Fk.op_gt, Fk.op_ge, Fk.op_eqi, Fk.op_eqb, Fk.op_eqs, Fk.op_nei, Fk.op_neb, Fk.op_nes, Fk.op_addl, Fk.op_addt, Fk.op_adds, Fk.tr_bl, Fk.tr_non, Fk.tr_int, Fk.tr_lst, Fk.tr_tup, Fk.va_nil, Fk.va_cons, Fk.pu_nil, Fk.pu_cons, Fk.bi_lenl, Fk.bi_lent, Fk.bi_lenr, Fk.bi_lenp, Fk.ek_lenr, Fk.bi_int, Fk.bi_min, Fk.bi_max, Fk.bi_listl, Fk.bi_listt, Fk.bi_tupl, Fk.bi_tupt, Fk.bi_tupp, Fk.ek_tupr, Fk.bi_lisp, Fk.ek_lisr, Fk.bi_str, Fk.new_f, Fk.new_t, Fk.newK_f, Fk.ix_t, Fk.ix_l, Fk.ix_r, Fk.ix_p, Fk.ek_ixr, Fk.at_0, Fk.at_1, Fk.at_2, Fk.set_l, Fk.ek_st, Fk.ek_st2, Fk.ixN_0, Fk.ixN_1, Fk.ixN_2, Fk.me_app, Fk.ek_app, Fk.ty_app, Fk.ek_tyl, Fk.me_joinl, Fk.ek_join, Fk.ty_join, Fk.it_seql, Fk.it_seqt, Fk.it_seqr, Fk.it_rngn, Fk.it_rng, Fk.it_rng2, Fk.it_rev, Fk.it_revt, Fk.it_ziptl, Fk.it_zipll, Fk.it_ziptt, Fk.lk_p, Fk.sl_t, Fk.sl_l, Fk.cut_to, Fk.cut_from1, Fk.cut_1, Fk.cut_from, Fk.hl_get, Fk.hl_set, Fk.op_eqL, Fk.op_neL, Fk.op_eqT, Fk.op_neT, tyP, R.bind_ok, R.bind_ex, R.st_ok, R.st_ex, RS2.seq_nx, RS2.seq_rt, RS2.seq_ex, RS2.seq_bk, RS2.seq_ct, List.set_cons_zero, List.set_cons_succ, List.getElem?_cons_zero, List.getElem?_cons_succ, Option.map_some, reduceCtorEq, imp_self, implies_true, Bool.not_true, Bool.not_false, decide_true, decide_false, Nat.reduceAdd, Nat.reduceSub, Nat.reduceLT, Nat.reduceLeDiff, Nat.reduceEqDiff, Int.reduceLT, Int.reduceLE, Int.reduceEq, Int.reduceNeg, Int.reduceToNat, Nat.reduceBEq, and_self, true_and, and_true, Nat.reducePow, Int.reducePow, Int.reduceAdd, Int.reduceSub, Int.reduceMul, List.length_cons, List.length_nil, List.cons_append, List.nil_append, List.append_nil, ha, i2]
  obtain ⟨t', L', e, rfl, y, rfl⟩ := lp
  simp -implicitDefEqProofs only [b15, Fk.ev_var, Fk.ev_lit, Fk.ev_con, Fk.ek_ofO, Fk.ev_op, Fk.ek_op, Fk.ev_neg, Fk.ek_neg, Fk.ev_notv, Fk.ek_not, Fk.ek_not2, Fk.ev_andv, Fk.ek_and, Fk.ek_and1, Fk.ek_and0, Fk.ev_orv, Fk.ek_or, Fk.ek_or1, Fk.ek_or0, Fk.ev_chain, Fk.ek_ch, Fk.ek_ch2, Fk.ek_ch3t, Fk.ek_ch3f, Fk.ev_ite, Fk.ek_ite1, Fk.ek_ite0, Fk.ev_call, Fk.ev_bi, Fk.ek_bi1, Fk.ek_bi2, Fk.ev_me, Fk.ek_me, Fk.ek_meb, Fk.ek_me20, Fk.ek_me21, Fk.ek_me22, Fk.ev_tup, Fk.ek_tup, Fk.ek_tup2, Fk.ev_lst, Fk.ek_lst, Fk.ek_lst2, Fk.ev_trev, Fk.ek_trev, Fk.ev_lrng, Fk.ek_lrng, Fk.ev_hsum, Fk.ek_hsum, Fk.ek_hs2, Fk.ev_dct0, Fk.ev_ix, Fk.ek_ix, Fk.ev_sl, Fk.ek_sl, Fk.ek_sl2, Fk.ek_sl3, Fk.ev_fld, Fk.ek_fld, Fk.ev_isi, Fk.ek_isi, Fk.ek_blR, Fk.ev_exi, Fk.ek_exi, Fk.ev_exf, Fk.ek_exf, Fk.ev_comp, Fk.ek_comp, Fk.ek_comp3, Fk.ev_o0, Fk.ev_o1, Fk.ek_o1, Fk.ev_a0, Fk.ev_a1, Fk.ek_a, Fk.ek_a2, Fk.ev_a2, Fk.ek_exv, Fk.ev_its, Fk.ek_its1, Fk.ek_its2, Fk.ev_tand, Fk.ek_tand1, Fk.ek_tand0, Fk.ev_tor, Fk.ek_tor1, Fk.ek_tor0, Fk.ev_tnot, Fk.ek_tnot, Fk.ev_tval, Fk.ek_tval, Fk.ek_tv2, Fk.ev_tyes, Fk.ev_pass, Fk.ev_seq, Fk.ev_expr, Fk.ek_expr, Fk.ev_asg, Fk.ek_asg, Fk.ev_seti, Fk.ek_set, Fk.ek_set2, Fk.ek_set3, Fk.ek_set4, Fk.ev_ret, Fk.ek_ret, Fk.ev_retn, Fk.ev_if, Fk.ek_if1, Fk.ek_if0, Fk.ev_for, Fk.ek_for, Fk.ev_brk, Fk.ev_cont, Fk.ev_while, Fk.ev_frz, Fk.ek_frz, Fk.ek_frzp, Fk.ek_frz2, Fk.ev_raise, Fk.ek_raise, Fk.ek_raise2, Fk.ek_xp0, Fk.ek_xp1, Fk.ev_try, Fk.ek_try0, Fk.ek_tryx, Fk.ek_try1, Fk.ek_tryf, Fk.ek_endr, Fk.ek_endn, Fk.ek_endb, Fk.ek_endc, Fk.ev_forB, Fk.ev_forB2, Fk.ev_tB, Fk.ek_tB1, Fk.ek_tB0, Fk.ek_tB2, Fk.gv_0, Fk.gv_s, Fk.op_add, Fk.op_sub, Fk.op_mul, Fk.op_fdiv, Fk.op_fdivs, Fk.op_mod, Fk.op_pow, Fk.op_lt, Fk.op_le, Fk.op_gt, Fk.op_ge, Fk.op_eqi, Fk.op_eqb, Fk.op_eqs, Fk.op_nei, Fk.op_neb, Fk.op_nes, Fk.op_addl, Fk.op_addt, Fk.op_adds, Fk.tr_bl, Fk.tr_non, Fk.tr_int, Fk.tr_lst, Fk.tr_tup, Fk.va_nil, Fk.va_cons, Fk.pu_nil, Fk.pu_cons, Fk.bi_lenl, Fk.bi_lent, Fk.bi_lenr, Fk.bi_lenp, Fk.ek_lenr, Fk.bi_int, Fk.bi_min, Fk.bi_max, Fk.bi_listl, Fk.bi_listt, Fk.bi_tupl, Fk.bi_tupt, Fk.bi_tupp, Fk.ek_tupr, Fk.bi_lisp, Fk.ek_lisr, Fk.bi_str, Fk.new_f, Fk.new_t, Fk.newK_f, Fk.ix_t, Fk.ix_l, Fk.ix_r, Fk.ix_p, Fk.ek_ixr, Fk.at_0, Fk.at_1, Fk.at_2, Fk.set_l, Fk.ek_st, Fk.ek_st2, Fk.ixN_0, Fk.ixN_1, Fk.ixN_2, Fk.me_app, Fk.ek_app, Fk.ty_app, Fk.ek_tyl, Fk.me_joinl, Fk.ek_join, Fk.ty_join, Fk.it_seql, Fk.it_seqt, Fk.it_seqr, Fk.it_rngn, Fk.it_rng, Fk.it_rng2, Fk.it_rev, Fk.it_revt, Fk.it_ziptl, Fk.it_zipll, Fk.it_ziptt, Fk.lk_p, Fk.sl_t, Fk.sl_l, Fk.cut_to, Fk.cut_from1, Fk.cut_1, Fk.cut_from, Fk.hl_get, Fk.hl_set, Fk.op_eqL, Fk.op_neL, Fk.op_eqT, Fk.op_neT, tyP, R.bind_ok, R.bind_ex, R.st_ok, R.st_ex, RS2.seq_nx, RS2.seq_rt, RS2.seq_ex, RS2.seq_bk, RS2.seq_ct, List.set_cons_zero, List.set_cons_succ, List.getElem?_cons_zero, List.getElem?_cons_succ, Option.map_some, reduceCtorEq, imp_self, implies_true, Bool.not_true, Bool.not_false, decide_true, decide_false, Nat.reduceAdd, Nat.reduceSub, Nat.reduceLT, Nat.reduceLeDiff, Nat.reduceEqDiff, Int.reduceLT, Int.reduceLE, Int.reduceEq, Int.reduceNeg, Int.reduceToNat, Nat.reduceBEq, and_self, true_and, and_true, Nat.reducePow, Int.reducePow, Int.reduceAdd, Int.reduceSub, Int.reduceMul, List.length_cons, List.length_nil, List.cons_append, List.nil_append, List.append_nil, u, p, i1, List.length_map, r1, e]
  exact en_rt rfl
theorem hn_snoc : ∀ {ms zs : List Int} {a m z : Int}, ms.length = zs.length → hn (ms ++ [m]) (zs ++ [z]) a = hn ms zs a * z + m
  | [], [], _, _, _, _ => rfl
  | _ :: _, _ :: _, _, _, _, h => by rw [List.cons_append, List.cons_append, hn, hn, hn_snoc (by simpa using h)]
  | [], _ :: _, _, _, _, h => by simp at h
  | _ :: _, [], _, _, _, h => by simp at h
theorem Vs.take : ∀ {ms zs : List Int} (i : Nat), Vs ms zs → Vs (ms.take i) (zs.take i)
  | _, _, 0, _ => trivial
  | [], [], _ + 1, _ => trivial
  | _ :: _, _ :: _, i + 1, h => ⟨h.1, h.2.1, h.2.2.take i⟩
  | [], _ :: _, _ + 1, h => h.elim
  | _ :: _, [], _ + 1, h => h.elim
theorem take_snoc {xs : List Int} {i : Nat} {x : Int} (h : xs[i]? = some x) : xs.take (i + 1) = xs.take i ++ [x] := by
  rw [List.take_succ, h]; rfl
theorem number_ok {n : Nat} {ms zs : List Int} {L : Hl} (hz : Sz zs) (hv : Vs ms zs) :
    run S (n + 1) 19 [.v (.p (.tup (iP ms))), .v (.p (.lst (iP zs)))] L = .ok (.p (.int (val ms zs))) L := by
  rw [r19_2]
  have hl := hv.len
  have hl2 := hz.1
  have r1 : Rb zs.length := Nat.le_trans hl2 (by decide)
  have lp := for_all (b := forB (run S n) (cnOf S) (.gn 3) b19_0) (xs := rangeP 0 zs.length) (t := [.v (.p (.tup (iP ms))), .v (.p (.lst (iP zs))), .v (.p (.int 0)), .u]) (L := L)
    (fun i t L' => L' = L ∧ ∃ y, t = [.v (.p (.tup (iP ms))), .v (.p (.lst (iP zs))), .v (.p (.int (hn (ms.take i) (zs.take i) 0))), y]) ⟨rfl, .u, rfl⟩
    fun i x t L' hx hJ => by
      obtain ⟨rfl, y, rfl⟩ := hJ
      obtain ⟨rfl, hi⟩ := rng_get hx
      have hi' : i < ms.length := by omega
      have hm : ms[i]? = some ms[i] := List.getElem?_eq_getElem hi'
      have hz' : zs[i]? = some zs[i] := List.getElem?_eq_getElem hi
      have a1 := at_ip hm
      have a2 := at_ip hz'
      have vt := hv.take i
      have eh : hn (ms.take i) (zs.take i) 0 = val (ms.take i) (zs.take i) := by rw [hn_val _ vt.len, Int.zero_mul, Int.zero_add]
      have vl := val_lt vt
      have pa := prd_abs (zs := zs.take i) fun z hz'' => hz.abs z (List.mem_of_mem_take hz'')
      have g := mul_lt (i := hn (ms.take i) (zs.take i) 0) (j := zs[i]) (40 * (zs.take i).length + 1) 40 (by rw [eh]; omega) (hz.abs _ (List.getElem_mem hi)) (by omega) (by decide) (by rw [List.length_take]; omega)
      refine ⟨[.v (.p (.tup (iP ms))), .v (.p (.lst (iP zs))), .v (.p (.int (hn (ms.take i) (zs.take i) 0 * zs[i] + ms[i]))), .v (.p (.int (i : Int)))], L', ?_, rfl, .v (.p (.int (i : Int))), ?_⟩
      · simp -implicitDefEqProofs only [b19_0, Fk.ev_var, Fk.ev_lit, Fk.ev_con, Fk.ek_ofO, Fk.ev_op, Fk.ek_op, Fk.ev_neg, Fk.ek_neg, Fk.ev_notv, Fk.ek_not, Fk.ek_not2, Fk.ev_andv, Fk.ek_and, Fk.ek_and1, Fk.ek_and0, Fk.ev_orv, Fk.ek_or, Fk.ek_or1, Fk.ek_or0, Fk.ev_chain, Fk.ek_ch, Fk.ek_ch2, Fk.ek_ch3t, Fk.ek_ch3f, Fk.ev_ite, Fk.ek_ite1, Fk.ek_ite0, Fk.ev_call, Fk.ev_bi, Fk.ek_bi1, Fk.ek_bi2, Fk.ev_me, Fk.ek_me, Fk.ek_meb, Fk.ek_me20, Fk.ek_me21, Fk.ek_me22, Fk.ev_tup, Fk.ek_tup, Fk.ek_tup2, Fk.ev_lst, Fk.ek_lst, Fk.ek_lst2, Fk.ev_trev, Fk.ek_trev, Fk.ev_lrng, Fk.ek_lrng, Fk.ev_hsum, Fk.ek_hsum, Fk.ek_hs2, Fk.ev_dct0, Fk.ev_ix, Fk.ek_ix, Fk.ev_sl, Fk.ek_sl, Fk.ek_sl2, Fk.ek_sl3, Fk.ev_fld, Fk.ek_fld, Fk.ev_isi, Fk.ek_isi, Fk.ek_blR, Fk.ev_exi, Fk.ek_exi, Fk.ev_exf, Fk.ek_exf, Fk.ev_comp, Fk.ek_comp, Fk.ek_comp3, Fk.ev_o0, Fk.ev_o1, Fk.ek_o1, Fk.ev_a0, Fk.ev_a1, Fk.ek_a, Fk.ek_a2, Fk.ev_a2, Fk.ek_exv, Fk.ev_its, Fk.ek_its1, Fk.ek_its2, Fk.ev_tand, Fk.ek_tand1, Fk.ek_tand0, Fk.ev_tor, Fk.ek_tor1, Fk.ek_tor0, Fk.ev_tnot, Fk.ek_tnot, Fk.ev_tval, Fk.ek_tval, Fk.ek_tv2, Fk.ev_tyes, Fk.ev_pass, Fk.ev_seq, Fk.ev_expr, Fk.ek_expr, Fk.ev_asg, Fk.ek_asg, Fk.ev_seti, Fk.ek_set, Fk.ek_set2, Fk.ek_set3, Fk.ek_set4, Fk.ev_ret, Fk.ek_ret, Fk.ev_retn, Fk.ev_if, Fk.ek_if1, Fk.ek_if0, Fk.ev_for, Fk.ek_for, Fk.ev_brk, Fk.ev_cont, Fk.ev_while, Fk.ev_frz, Fk.ek_frz, Fk.ek_frzp, Fk.ek_frz2, Fk.ev_raise, Fk.ek_raise, Fk.ek_raise2, Fk.ek_xp0, Fk.ek_xp1, Fk.ev_try, Fk.ek_try0, Fk.ek_tryx, Fk.ek_try1, Fk.ek_tryf, Fk.ek_endr, Fk.ek_endn, Fk.ek_endb, Fk.ek_endc, Fk.ev_forB, Fk.ev_forB2, Fk.ev_tB, Fk.ek_tB1, Fk.ek_tB0, Fk.ek_tB2, Fk.gv_0, Fk.gv_s, Fk.op_add, Fk.op_sub, Fk.op_mul, Fk.op_fdiv, Fk.op_fdivs, Fk.op_mod, Fk.op_pow, Fk.op_lt, Fk.op_le, Fk.op_gt, Fk.op_ge, Fk.op_eqi, Fk.op_eqb, Fk.op_eqs, Fk.op_nei, Fk.op_neb, Fk.op_nes, Fk.op_addl, Fk.op_addt, Fk.op_adds, Fk.tr_bl, Fk.tr_non, Fk.tr_int, Fk.tr_lst, Fk.tr_tup, Fk.va_nil, Fk.va_cons, Fk.pu_nil, Fk.pu_cons, Fk.bi_lenl, Fk.bi_lent, Fk.bi_lenr, Fk.bi_lenp, Fk.ek_lenr, Fk.bi_int, Fk.bi_min, Fk.bi_max, Fk.bi_listl, Fk.bi_listt, Fk.bi_tupl, Fk.bi_tupt, Fk.bi_tupp, Fk.ek_tupr, Fk.bi_lisp, Fk.ek_lisr, Fk.bi_str, Fk.new_f, Fk.new_t, Fk.newK_f, Fk.ix_t, Fk.ix_l, Fk.ix_r, Fk.ix_p, Fk.ek_ixr, Fk.at_0, Fk.at_1, Fk.at_2, Fk.set_l, Fk.ek_st, Fk.ek_st2, Fk.ixN_0, Fk.ixN_1, Fk.ixN_2, Fk.me_app, Fk.ek_app, Fk.ty_app, Fk.ek_tyl, Fk.me_joinl, Fk.ek_join, Fk.ty_join, Fk.it_seql, Fk.it_seqt, Fk.it_seqr, Fk.it_rngn, Fk.it_rng, Fk.it_rng2, Fk.it_rev, Fk.it_revt, Fk.it_ziptl, Fk.it_zipll, Fk.it_ziptt, Fk.lk_p, Fk.sl_t, Fk.sl_l, Fk.cut_to, Fk.cut_from1, Fk.cut_1, Fk.cut_from, Fk.hl_get, Fk.hl_set, Fk.op_eqL, Fk.op_neL, Fk.op_eqT, Fk.op_neT, tyP, R.bind_ok, R.bind_ex, R.st_ok, R.st_ex, RS2.seq_nx, RS2.seq_rt, RS2.seq_ex, RS2.seq_bk, RS2.seq_ct, List.set_cons_zero, List.set_cons_succ, List.getElem?_cons_zero, List.getElem?_cons_succ, Option.map_some, reduceCtorEq, imp_self, implies_true, Bool.not_true, Bool.not_false, decide_true, decide_false, Nat.reduceAdd, Nat.reduceSub, Nat.reduceLT, Nat.reduceLeDiff, Nat.reduceEqDiff, Int.reduceLT, Int.reduceLE, Int.reduceEq, Int.reduceNeg, Int.reduceToNat, Nat.reduceBEq, and_self, true_and, and_true, Nat.reducePow, Int.reducePow, Int.reduceAdd, Int.reduceSub, Int.reduceMul, List.length_cons, List.length_nil, List.cons_append, List.nil_append, List.append_nil, a1, a2, g]
      · rw [take_snoc hm, take_snoc hz', hn_snoc vt.len]
  obtain ⟨t', L', e, rfl, y, rfl⟩ := lp
  simp -implicitDefEqProofs only [b19, Fk.ev_var, Fk.ev_lit, Fk.ev_con, Fk.ek_ofO, Fk.ev_op, Fk.ek_op, Fk.ev_neg, Fk.ek_neg, Fk.ev_notv, Fk.ek_not, Fk.ek_not2, Fk.ev_andv, Fk.ek_and, Fk.ek_and1, Fk.ek_and0, Fk.ev_orv, Fk.ek_or, Fk.ek_or1, Fk.ek_or0, Fk.ev_chain, Fk.ek_ch, Fk.ek_ch2, Fk.ek_ch3t, Fk.ek_ch3f, Fk.ev_ite, Fk.ek_ite1, Fk.ek_ite0, Fk.ev_call, Fk.ev_bi, Fk.ek_bi1, Fk.ek_bi2, Fk.ev_me, Fk.ek_me, Fk.ek_meb, Fk.ek_me20, Fk.ek_me21, Fk.ek_me22, Fk.ev_tup, Fk.ek_tup, Fk.ek_tup2, Fk.ev_lst, Fk.ek_lst, Fk.ek_lst2, Fk.ev_trev, Fk.ek_trev, Fk.ev_lrng, Fk.ek_lrng, Fk.ev_hsum, Fk.ek_hsum, Fk.ek_hs2, Fk.ev_dct0, Fk.ev_ix, Fk.ek_ix, Fk.ev_sl, Fk.ek_sl, Fk.ek_sl2, Fk.ek_sl3, Fk.ev_fld, Fk.ek_fld, Fk.ev_isi, Fk.ek_isi, Fk.ek_blR, Fk.ev_exi, Fk.ek_exi, Fk.ev_exf, Fk.ek_exf, Fk.ev_comp, Fk.ek_comp, Fk.ek_comp3, Fk.ev_o0, Fk.ev_o1, Fk.ek_o1, Fk.ev_a0, Fk.ev_a1, Fk.ek_a, Fk.ek_a2, Fk.ev_a2, Fk.ek_exv, Fk.ev_its, Fk.ek_its1, Fk.ek_its2, Fk.ev_tand, Fk.ek_tand1, Fk.ek_tand0, Fk.ev_tor, Fk.ek_tor1, Fk.ek_tor0, Fk.ev_tnot, Fk.ek_tnot, Fk.ev_tval, Fk.ek_tval, Fk.ek_tv2, Fk.ev_tyes, Fk.ev_pass, Fk.ev_seq, Fk.ev_expr, Fk.ek_expr, Fk.ev_asg, Fk.ek_asg, Fk.ev_seti, Fk.ek_set, Fk.ek_set2, Fk.ek_set3, Fk.ek_set4, Fk.ev_ret, Fk.ek_ret, Fk.ev_retn, Fk.ev_if, Fk.ek_if1, Fk.ek_if0, Fk.ev_for, Fk.ek_for, Fk.ev_brk, Fk.ev_cont, Fk.ev_while, Fk.ev_frz, Fk.ek_frz, Fk.ek_frzp, Fk.ek_frz2, Fk.ev_raise, Fk.ek_raise, Fk.ek_raise2, Fk.ek_xp0, Fk.ek_xp1, Fk.ev_try, Fk.ek_try0, Fk.ek_tryx, Fk.ek_try1, Fk.ek_tryf, Fk.ek_endr, Fk.ek_endn, Fk.ek_endb, Fk.ek_endc, Fk.ev_forB, Fk.ev_forB2, Fk.ev_tB, Fk.ek_tB1, Fk.ek_tB0, Fk.ek_tB2, Fk.gv_0, Fk.gv_s, Fk.op_add, Fk.op_sub, Fk.op_mul, Fk.op_fdiv, Fk.op_fdivs, Fk.op_mod, Fk.op_pow, Fk.op_lt, Fk.op_le, Fk.op_gt, Fk.op_ge, Fk.op_eqi, Fk.op_eqb, Fk.op_eqs, Fk.op_nei, Fk.op_neb, Fk.op_nes, Fk.op_addl, Fk.op_addt, Fk.op_adds, Fk.tr_bl, Fk.tr_non, Fk.tr_int, Fk.tr_lst, Fk.tr_tup, Fk.va_nil, Fk.va_cons, Fk.pu_nil, Fk.pu_cons, Fk.bi_lenl, Fk.bi_lent, Fk.bi_lenr, Fk.bi_lenp, Fk.ek_lenr, Fk.bi_int, Fk.bi_min, Fk.bi_max, Fk.bi_listl, Fk.bi_listt, Fk.bi_tupl, Fk.bi_tupt, Fk.bi_tupp, Fk.ek_tupr, Fk.bi_lisp, Fk.ek_lisr, Fk.bi_str, Fk.new_f, Fk.new_t, Fk.newK_f, Fk.ix_t, Fk.ix_l, Fk.ix_r, Fk.ix_p, Fk.ek_ixr, Fk.at_0, Fk.at_1, Fk.at_2, Fk.set_l, Fk.ek_st, Fk.ek_st2, Fk.ixN_0, Fk.ixN_1, Fk.ixN_2, Fk.me_app, Fk.ek_app, Fk.ty_app, Fk.ek_tyl, Fk.me_joinl, Fk.ek_join, Fk.ty_join, Fk.it_seql, Fk.it_seqt, Fk.it_seqr, Fk.it_rngn, Fk.it_rng, Fk.it_rng2, Fk.it_rev, Fk.it_revt, Fk.it_ziptl, Fk.it_zipll, Fk.it_ziptt, Fk.lk_p, Fk.sl_t, Fk.sl_l, Fk.cut_to, Fk.cut_from1, Fk.cut_1, Fk.cut_from, Fk.hl_get, Fk.hl_set, Fk.op_eqL, Fk.op_neL, Fk.op_eqT, Fk.op_neT, tyP, R.bind_ok, R.bind_ex, R.st_ok, R.st_ex, RS2.seq_nx, RS2.seq_rt, RS2.seq_ex, RS2.seq_bk, RS2.seq_ct, List.set_cons_zero, List.set_cons_succ, List.getElem?_cons_zero, List.getElem?_cons_succ, Option.map_some, reduceCtorEq, imp_self, implies_true, Bool.not_true, Bool.not_false, decide_true, decide_false, Nat.reduceAdd, Nat.reduceSub, Nat.reduceLT, Nat.reduceLeDiff, Nat.reduceEqDiff, Int.reduceLT, Int.reduceLE, Int.reduceEq, Int.reduceNeg, Int.reduceToNat, Nat.reduceBEq, and_self, true_and, and_true, Nat.reducePow, Int.reducePow, Int.reduceAdd, Int.reduceSub, Int.reduceMul, List.length_cons, List.length_nil, List.cons_append, List.nil_append, List.append_nil, List.length_map, r1, e]
  rw [rng_len, List.take_length, ← hl, List.take_length, hn_val _ hl, Int.zero_mul, Int.zero_add]
  exact en_rt rfl
end Lw

set_option Elab.async false
set_option linter.all false
set_option autoImplicit false
set_option maxRecDepth 100000
set_option maxHeartbeats 2000000
namespace Lw
open PySem PySem.Spec PyProof.Rows L2 Fk
/-! the next row -/
def Ge : List Int → List Int → Prop
  | [], [] => True
  | x :: xs, y :: ys => y ≤ x ∧ Ge xs ys
  | _, _ => False
def Stp (least : Int) (most row row' : List Int) : Prop :=
  (∃ p x q pm y qm, row = p ++ x :: q ∧ most = pm ++ y :: qm ∧ p.length = pm.length ∧ q.length = qm.length ∧ x < y ∧ Ge q qm ∧ row' = p ++ (x + 1) :: List.replicate q.length least) ∨
  (Ge row most ∧ row' = List.replicate row.length least)
theorem Stp.len {l : Int} {most row row' : List Int} (h : Stp l most row row') : row'.length = row.length := by
  rcases h with ⟨p, x, q, pm, y, qm, rfl, _, _, _, _, _, rfl⟩ | ⟨_, rfl⟩ <;> simp
theorem mid_get {A R : List P} {x : P} {m : Nat} (h : A.length = m) : (A ++ x :: R)[m]? = some x := by
  subst h; simp
theorem mid_set {A R : List P} {x y : P} {m : Nat} (h : A.length = m) : (A ++ x :: R).set m y = A ++ y :: R := by
  subst h; simp
theorem step_ok {n : Nat} {least : Int} {row most : List Int} {L : Hl} (hl : row.length = most.length) (h200 : row.length ≤ 200) (hc : Clo L) :
    ∃ row', Stp least most row row' ∧ run S (n + 1) 24 [.v (.p (.lst (iP row))), .v (.p (.int least)), .v (.p (.lst (iP most)))] L = .ok (.p (.lst (iP row'))) L := by
  rw [r24_3]
  have r1 : Rb row.length := Nat.le_trans h200 (by decide)
  have lp := for_ind (b := forB (run S n) (cnOf S) (.gn 4) b24_0)
    (fun i t L' => L' = L ++ [.lst (iP (row.take (row.length - i)) ++ List.replicate i (P.int least))] ∧ i ≤ row.length ∧ Ge (row.drop (row.length - i)) (most.drop (row.length - i)) ∧ ∃ y1 y2, t = [.v (.p (.lst (iP row))), .v (.p (.int least)), .v (.p (.lst (iP most))), .v (.ref L.length), y1, y2])
    (fun r => ∃ row', Stp least most row row' ∧ r = .ok (.rt (.p (.lst (iP row')))) (L ++ [.dead]))
    (rangeP 0 row.length) 0 [.v (.p (.lst (iP row))), .v (.p (.int least)), .v (.p (.lst (iP most))), .v (.ref L.length), .u, .u] (L ++ [.lst (iP row)])
    ⟨by simp, Nat.zero_le _, by rw [Nat.sub_zero, List.drop_length, hl, List.drop_length]; trivial, .u, .u, rfl⟩
    fun i x t L' hx hJ => by
      obtain ⟨rfl, hi, hg, y1, y2, rfl⟩ := hJ
      obtain ⟨rfl, hi⟩ := rng_get hx
      rw [Nat.zero_add] at hg ⊢
      obtain ⟨m, hm⟩ : ∃ m, row.length = m + 1 + i := ⟨row.length - 1 - i, by omega⟩
      have em : row.length - i = m + 1 := by omega
      rw [em] at hg ⊢
      have hx' : row[m]? = some row[m] := List.getElem?_eq_getElem (by omega)
      have hy' : most[m]? = some most[m] := List.getElem?_eq_getElem (by omega)
      have eA : iP (row.take (m + 1)) ++ List.replicate i (P.int least) = iP (row.take m) ++ .int row[m] :: List.replicate i (P.int least) := by
        rw [take_snoc hx', iP, List.map_append]; simp
      rw [eA]
      have lA : (iP (row.take m)).length = m := by rw [iP, List.length_map, List.length_take]; omega
      have g1 := mid_get (x := .int row[m]) (R := List.replicate i (P.int least)) lA
      have s1 := fun y => mid_set (x := .int row[m]) (y := y) (R := List.replicate i (P.int least)) lA
      have l1 : (iP (row.take m) ++ .int row[m] :: List.replicate i (P.int least)).length = m + 1 + i := by
        rw [List.length_append, lA, List.length_cons, List.length_replicate]; omega
      generalize haf : iP (row.take m) ++ .int row[m] :: List.replicate i (P.int least) = af at g1 s1 l1
      have ki : ((row.length : Int) - 1 - (i : Int)) = (m : Int) := by omega
      have a1 := at_ip hy'
      have a2 : atP af (m : Int) = some (.int row[m]) := by rw [at_n]; exact g1
      have a3 : ixN af.length (m : Int) = some m := ixN_n (by omega)
      have e1 : row = row.take m ++ row[m] :: row.drop (m + 1) := by
        rw [← List.drop_eq_getElem_cons (by omega), List.take_append_drop]
      have e2 : most = most.take m ++ most[m] :: most.drop (m + 1) := by
        rw [← List.drop_eq_getElem_cons (by omega), List.take_append_drop]
      have ld : (row.drop (m + 1)).length = i := by rw [List.length_drop]; omega
      by_cases hlt : row[m] < most[m]
      · refine .inr (.inl ⟨_, _, ?_, row.take m ++ (row[m] + 1) :: List.replicate i least, .inl ⟨row.take m, row[m], row.drop (m + 1), most.take m, most[m], most.drop (m + 1), e1, e2, by simp; omega, by simp; omega, hlt, hg, by rw [ld]⟩, rfl⟩)
        simp -implicitDefEqProofs only [b24_0, Fk.ev_var, Fk.ev_lit, Fk.ev_con, Fk.ek_ofO, Fk.ev_op, Fk.ek_op, Fk.ev_neg, Fk.ek_neg, Fk.ev_notv, Fk.ek_not, Fk.ek_not2, Fk.ev_andv, Fk.ek_and, Fk.ek_and1, Fk.ek_and0, Fk.ev_orv, Fk.ek_or, Fk.ek_or1, Fk.ek_or0, Fk.ev_chain, Fk.ek_ch, Fk.ek_ch2, Fk.ek_ch3t, Fk.ek_ch3f, Fk.ev_ite, Fk.ek_ite1, Fk.ek_ite0, Fk.ev_call, Fk.ev_bi, Fk.ek_bi1, Fk.ek_bi2, Fk.ev_me, Fk.ek_me, Fk.ek_meb, Fk.ek_me20, Fk.ek_me21, Fk.ek_me22, Fk.ev_tup, Fk.ek_tup, Fk.ek_tup2, Fk.ev_lst, Fk.ek_lst, Fk.ek_lst2, Fk.ev_trev, Fk.ek_trev, Fk.ev_lrng, Fk.ek_lrng, Fk.ev_hsum, Fk.ek_hsum, Fk.ek_hs2, Fk.ev_dct0, Fk.ev_ix, Fk.ek_ix, Fk.ev_sl, Fk.ek_sl, Fk.ek_sl2, Fk.ek_sl3, Fk.ev_fld, Fk.ek_fld, Fk.ev_isi, Fk.ek_isi, Fk.ek_blR, Fk.ev_exi, Fk.ek_exi, Fk.ev_exf, Fk.ek_exf, Fk.ev_comp, Fk.ek_comp, Fk.ek_comp3, Fk.ev_o0, Fk.ev_o1, Fk.ek_o1, Fk.ev_a0, Fk.ev_a1, Fk.ek_a, Fk.ek_a2, Fk.ev_a2, Fk.ek_exv, Fk.ev_its, Fk.ek_its1, Fk.ek_its2, Fk.ev_tand, Fk.ek_tand1, Fk.ek_tand0, Fk.ev_tor, Fk.ek_tor1, Fk.ek_tor0, Fk.ev_tnot, Fk.ek_tnot, Fk.ev_tval, Fk.ek_tval, Fk.ek_tv2, Fk.ev_tyes, Fk.ev_pass, Fk.ev_seq, Fk.ev_expr, Fk.ek_expr, Fk.ev_asg, Fk.ek_asg, Fk.ev_seti, Fk.ek_set, Fk.ek_set2, Fk.ek_set3, Fk.ek_set4, Fk.ev_ret, Fk.ek_ret, Fk.ev_retn, Fk.ev_if, Fk.ek_if1, Fk.ek_if0, Fk.ev_for, Fk.ek_for, Fk.ev_brk, Fk.ev_cont, Fk.ev_while, Fk.ev_frz, Fk.ek_frz, Fk.ek_frzp, Fk.ek_frz2, Fk.ev_raise, Fk.ek_raise, Fk.ek_raise2, Fk.ek_xp0, Fk.ek_xp1, Fk.ev_try, Fk.ek_try0, Fk.ek_tryx, Fk.ek_try1, Fk.ek_tryf, Fk.ek_endr, Fk.ek_endn, Fk.ek_endb, Fk.ek_endc, Fk.ev_forB, Fk.ev_forB2, Fk.ev_tB, Fk.ek_tB1, Fk.ek_tB0, Fk.ek_tB2, Fk.gv_0, Fk.gv_s, Fk.op_add, Fk.op_sub, Fk.op_mul, Fk.op_fdiv, Fk.op_fdivs, Fk.op_mod, Fk.op_pow, Fk.op_lt, Fk.op_le, Fk.op_gt, Fk.op_ge, Fk.op_eqi, Fk.op_eqb, Fk.op_eqs, Fk.op_nei, Fk.op_neb, Fk.op_nes, Fk.op_addl, Fk.op_addt, Fk.op_adds, Fk.tr_bl, Fk.tr_non, Fk.tr_int, Fk.tr_lst, Fk.tr_tup, Fk.va_nil, Fk.va_cons, Fk.pu_nil, Fk.pu_cons, Fk.bi_lenl, Fk.bi_lent, Fk.bi_lenr, Fk.bi_lenp, Fk.ek_lenr, Fk.bi_int, Fk.bi_min, Fk.bi_max, Fk.bi_listl, Fk.bi_listt, Fk.bi_tupl, Fk.bi_tupt, Fk.bi_tupp, Fk.ek_tupr, Fk.bi_lisp, Fk.ek_lisr, Fk.bi_str, Fk.new_f, Fk.new_t, Fk.newK_f, Fk.ix_t, Fk.ix_l, Fk.ix_r, Fk.ix_p, Fk.ek_ixr, Fk.at_0, Fk.at_1, Fk.at_2, Fk.set_l, Fk.ek_st, Fk.ek_st2, Fk.ixN_0, Fk.ixN_1, Fk.ixN_2, Fk.me_app, Fk.ek_app, Fk.ty_app, Fk.ek_tyl, Fk.me_joinl, Fk.ek_join, Fk.ty_join, Fk.it_seql, Fk.it_seqt, Fk.it_seqr, Fk.it_rngn, Fk.it_rng, Fk.it_rng2, Fk.it_rev, Fk.it_revt, Fk.it_ziptl, Fk.it_zipll, Fk.it_ziptt, Fk.lk_p, Fk.sl_t, Fk.sl_l, Fk.cut_to, Fk.cut_from1, Fk.cut_1, Fk.cut_from, Fk.hl_get, Fk.hl_set, Fk.op_eqL, Fk.op_neL, Fk.op_eqT, Fk.op_neT, tyP, R.bind_ok, R.bind_ex, R.st_ok, R.st_ex, RS2.seq_nx, RS2.seq_rt, RS2.seq_ex, RS2.seq_bk, RS2.seq_ct, List.set_cons_zero, List.set_cons_succ, List.getElem?_cons_zero, List.getElem?_cons_succ, Option.map_some, reduceCtorEq, imp_self, implies_true, Bool.not_true, Bool.not_false, decide_true, decide_false, Nat.reduceAdd, Nat.reduceSub, Nat.reduceLT, Nat.reduceLeDiff, Nat.reduceEqDiff, Int.reduceLT, Int.reduceLE, Int.reduceEq, Int.reduceNeg, Int.reduceToNat, Nat.reduceBEq, and_self, true_and, and_true, Nat.reducePow, Int.reducePow, Int.reduceAdd, Int.reduceSub, Int.reduceMul, List.length_cons, List.length_nil, List.cons_append, List.nil_append, List.append_nil, List.length_map, ki, a1, a2, a3, hlt, s1]
        simp [iP]
      · refine .inl ⟨[.v (.p (.lst (iP row))), .v (.p (.int least)), .v (.p (.lst (iP most))), .v (.ref L.length), .v (.p (.int (i : Int))), .v (.p (.int (m : Int)))], L ++ [.lst (iP (row.take m) ++ List.replicate (i + 1) (P.int least))], .inl ?_, by rw [show row.length - (i + 1) = m by omega], by omega, ?_, _, _, rfl⟩
        · simp -implicitDefEqProofs only [b24_0, Fk.ev_var, Fk.ev_lit, Fk.ev_con, Fk.ek_ofO, Fk.ev_op, Fk.ek_op, Fk.ev_neg, Fk.ek_neg, Fk.ev_notv, Fk.ek_not, Fk.ek_not2, Fk.ev_andv, Fk.ek_and, Fk.ek_and1, Fk.ek_and0, Fk.ev_orv, Fk.ek_or, Fk.ek_or1, Fk.ek_or0, Fk.ev_chain, Fk.ek_ch, Fk.ek_ch2, Fk.ek_ch3t, Fk.ek_ch3f, Fk.ev_ite, Fk.ek_ite1, Fk.ek_ite0, Fk.ev_call, Fk.ev_bi, Fk.ek_bi1, Fk.ek_bi2, Fk.ev_me, Fk.ek_me, Fk.ek_meb, Fk.ek_me20, Fk.ek_me21, Fk.ek_me22, Fk.ev_tup, Fk.ek_tup, Fk.ek_tup2, Fk.ev_lst, Fk.ek_lst, Fk.ek_lst2, Fk.ev_trev, Fk.ek_trev, Fk.ev_lrng, Fk.ek_lrng, Fk.ev_hsum, Fk.ek_hsum, Fk.ek_hs2, Fk.ev_dct0, Fk.ev_ix, Fk.ek_ix, Fk.ev_sl, Fk.ek_sl, Fk.ek_sl2, Fk.ek_sl3, Fk.ev_fld, Fk.ek_fld, Fk.ev_isi, Fk.ek_isi, Fk.ek_blR, Fk.ev_exi, Fk.ek_exi, Fk.ev_exf, Fk.ek_exf, Fk.ev_comp, Fk.ek_comp, Fk.ek_comp3, Fk.ev_o0, Fk.ev_o1, Fk.ek_o1, Fk.ev_a0, Fk.ev_a1, Fk.ek_a, Fk.ek_a2, Fk.ev_a2, Fk.ek_exv, Fk.ev_its, Fk.ek_its1, Fk.ek_its2, Fk.ev_tand, Fk.ek_tand1, Fk.ek_tand0, Fk.ev_tor, Fk.ek_tor1, Fk.ek_tor0, Fk.ev_tnot, Fk.ek_tnot, Fk.ev_tval, Fk.ek_tval, Fk.ek_tv2, Fk.ev_tyes, Fk.ev_pass, Fk.ev_seq, Fk.ev_expr, Fk.ek_expr, Fk.ev_asg, Fk.ek_asg, Fk.ev_seti, Fk.ek_set, Fk.ek_set2, Fk.ek_set3, Fk.ek_set4, Fk.ev_ret, Fk.ek_ret, Fk.ev_retn, Fk.ev_if, Fk.ek_if1, Fk.ek_if0, Fk.ev_for, Fk.ek_for, Fk.ev_brk, Fk.ev_cont, Fk.ev_while, Fk.ev_frz, Fk.ek_frz, Fk.ek_frzp, Fk.ek_frz2, Fk.ev_raise, Fk.ek_raise, Fk.ek_raise2, Fk.ek_xp0, Fk.ek_xp1, Fk.ev_try, Fk.ek_try0, Fk.ek_tryx, Fk.ek_try1, Fk.ek_tryf, Fk.ek_endr, Fk.ek_endn, Fk.ek_endb, Fk.ek_endc, Fk.ev_forB, Fk.ev_forB2, Fk.ev_tB, Fk.ek_tB1, Fk.ek_tB0, Fk.ek_tB2, Fk.gv_0, Fk.gv_s, Fk.op_add, Fk.op_sub, Fk.op_mul, Fk.op_fdiv, Fk.op_fdivs, Fk.op_mod, Fk.op_pow, Fk.op_lt, Fk.op_le, Fk.op_gt, Fk.op_ge, Fk.op_eqi, Fk.op_eqb, Fk.op_eqs, Fk.op_nei, Fk.op_neb, Fk.op_nes, Fk.op_addl, Fk.op_addt, Fk.op_adds, Fk.tr_bl, Fk.tr_non, Fk.tr_int, Fk.tr_lst, Fk.tr_tup, Fk.va_nil, Fk.va_cons, Fk.pu_nil, Fk.pu_cons, Fk.bi_lenl, Fk.bi_lent, Fk.bi_lenr, Fk.bi_lenp, Fk.ek_lenr, Fk.bi_int, Fk.bi_min, Fk.bi_max, Fk.bi_listl, Fk.bi_listt, Fk.bi_tupl, Fk.bi_tupt, Fk.bi_tupp, Fk.ek_tupr, Fk.bi_lisp, Fk.ek_lisr, Fk.bi_str, Fk.new_f, Fk.new_t, Fk.newK_f, Fk.ix_t, Fk.ix_l, Fk.ix_r, Fk.ix_p, Fk.ek_ixr, Fk.at_0, Fk.at_1, Fk.at_2, Fk.set_l, Fk.ek_st, Fk.ek_st2, Fk.ixN_0, Fk.ixN_1, Fk.ixN_2, Fk.me_app, Fk.ek_app, Fk.ty_app, Fk.ek_tyl, Fk.me_joinl, Fk.ek_join, Fk.ty_join, Fk.it_seql, Fk.it_seqt, Fk.it_seqr, Fk.it_rngn, Fk.it_rng, Fk.it_rng2, Fk.it_rev, Fk.it_revt, Fk.it_ziptl, Fk.it_zipll, Fk.it_ziptt, Fk.lk_p, Fk.sl_t, Fk.sl_l, Fk.cut_to, Fk.cut_from1, Fk.cut_1, Fk.cut_from, Fk.hl_get, Fk.hl_set, Fk.op_eqL, Fk.op_neL, Fk.op_eqT, Fk.op_neT, tyP, R.bind_ok, R.bind_ex, R.st_ok, R.st_ex, RS2.seq_nx, RS2.seq_rt, RS2.seq_ex, RS2.seq_bk, RS2.seq_ct, List.set_cons_zero, List.set_cons_succ, List.getElem?_cons_zero, List.getElem?_cons_succ, Option.map_some, reduceCtorEq, imp_self, implies_true, Bool.not_true, Bool.not_false, decide_true, decide_false, Nat.reduceAdd, Nat.reduceSub, Nat.reduceLT, Nat.reduceLeDiff, Nat.reduceEqDiff, Int.reduceLT, Int.reduceLE, Int.reduceEq, Int.reduceNeg, Int.reduceToNat, Nat.reduceBEq, and_self, true_and, and_true, Nat.reducePow, Int.reducePow, Int.reduceAdd, Int.reduceSub, Int.reduceMul, List.length_cons, List.length_nil, List.cons_append, List.nil_append, List.append_nil, List.length_map, ki, a1, a2, a3, hlt, s1, List.replicate_succ]
        · rw [show row.length - (i + 1) = m by omega, List.drop_eq_getElem_cons (by omega), List.drop_eq_getElem_cons (l := most) (by omega)]
          exact ⟨by omega, hg⟩
  rcases lp with ⟨t', L', e, rfl, _, hg, y1, y2, rfl⟩ | ⟨row', hs, e⟩
  · rw [rng_len, Nat.zero_add] at e hg
    simp only [Nat.sub_self, List.drop_zero, List.take_zero] at hg e
    refine ⟨List.replicate row.length least, .inr ⟨hg, rfl⟩, ?_⟩
    simp -implicitDefEqProofs only [b24, Fk.ev_var, Fk.ev_lit, Fk.ev_con, Fk.ek_ofO, Fk.ev_op, Fk.ek_op, Fk.ev_neg, Fk.ek_neg, Fk.ev_notv, Fk.ek_not, Fk.ek_not2, Fk.ev_andv, Fk.ek_and, Fk.ek_and1, Fk.ek_and0, Fk.ev_orv, Fk.ek_or, Fk.ek_or1, Fk.ek_or0, Fk.ev_chain, Fk.ek_ch, Fk.ek_ch2, Fk.ek_ch3t, Fk.ek_ch3f, Fk.ev_ite, Fk.ek_ite1, Fk.ek_ite0, Fk.ev_call, Fk.ev_bi, Fk.ek_bi1, Fk.ek_bi2, Fk.ev_me, Fk.ek_me, Fk.ek_meb, Fk.ek_me20, Fk.ek_me21, Fk.ek_me22, Fk.ev_tup, Fk.ek_tup, Fk.ek_tup2, Fk.ev_lst, Fk.ek_lst, Fk.ek_lst2, Fk.ev_trev, Fk.ek_trev, Fk.ev_lrng, Fk.ek_lrng, Fk.ev_hsum, Fk.ek_hsum, Fk.ek_hs2, Fk.ev_dct0, Fk.ev_ix, Fk.ek_ix, Fk.ev_sl, Fk.ek_sl, Fk.ek_sl2, Fk.ek_sl3, Fk.ev_fld, Fk.ek_fld, Fk.ev_isi, Fk.ek_isi, Fk.ek_blR, Fk.ev_exi, Fk.ek_exi, Fk.ev_exf, Fk.ek_exf, Fk.ev_comp, Fk.ek_comp, Fk.ek_comp3, Fk.ev_o0, Fk.ev_o1, Fk.ek_o1, Fk.ev_a0, Fk.ev_a1, Fk.ek_a, Fk.ek_a2, Fk.ev_a2, Fk.ek_exv, Fk.ev_its, Fk.ek_its1, Fk.ek_its2, Fk.ev_tand, Fk.ek_tand1, Fk.ek_tand0, Fk.ev_tor, Fk.ek_tor1, Fk.ek_tor0, Fk.ev_tnot, Fk.ek_tnot, Fk.ev_tval, Fk.ek_tval, Fk.ek_tv2, Fk.ev_tyes, Fk.ev_pass, Fk.ev_seq, Fk.ev_expr, Fk.ek_expr, Fk.ev_asg, Fk.ek_asg, Fk.ev_seti, Fk.ek_set, Fk.ek_set2, Fk.ek_set3, Fk.ek_set4, Fk.ev_ret, Fk.ek_ret, Fk.ev_retn, Fk.ev_if, Fk.ek_if1, Fk.ek_if0, Fk.ev_for, Fk.ek_for, Fk.ev_brk, Fk.ev_cont, Fk.ev_while, Fk.ev_frz, Fk.ek_frz, Fk.ek_frzp, Fk.ek_frz2, Fk.ev_raise, Fk.ek_raise, Fk.ek_raise2, Fk.ek_xp0, Fk.ek_xp1, Fk.ev_try, Fk.ek_try0, Fk.ek_tryx, Fk.ek_try1, Fk.ek_tryf, Fk.ek_endr, Fk.ek_endn, Fk.ek_endb, Fk.ek_endc, Fk.ev_forB, Fk.ev_forB2, Fk.ev_tB, Fk.ek_tB1, Fk.ek_tB0, Fk.ek_tB2, Fk.gv_0, Fk.gv_s, Fk.op_add, Fk.op_sub, Fk.op_mul, Fk.op_fdiv, Fk.op_fdivs, Fk.op_mod, Fk.op_pow, Fk.op_lt, Fk.op_le, Fk.op_gt, Fk.op_ge, Fk.op_eqi, Fk.op_eqb, Fk.op_eqs, Fk.op_nei, Fk.op_neb, Fk.op_nes, Fk.op_addl, Fk.op_addt, Fk.op_adds, Fk.tr_bl, Fk.tr_non, Fk.tr_int, Fk.tr_lst, Fk.tr_tup, Fk.va_nil, Fk.va_cons, Fk.pu_nil, Fk.pu_cons, Fk.bi_lenl, Fk.bi_lent, Fk.bi_lenr, Fk.bi_lenp, Fk.ek_lenr, Fk.bi_int, Fk.bi_min, Fk.bi_max, Fk.bi_listl, Fk.bi_listt, Fk.bi_tupl, Fk.bi_tupt, Fk.bi_tupp, Fk.ek_tupr, Fk.bi_lisp, Fk.ek_lisr, Fk.bi_str, Fk.new_f, Fk.new_t, Fk.newK_f, Fk.ix_t, Fk.ix_l, Fk.ix_r, Fk.ix_p, Fk.ek_ixr, Fk.at_0, Fk.at_1, Fk.at_2, Fk.set_l, Fk.ek_st, Fk.ek_st2, Fk.ixN_0, Fk.ixN_1, Fk.ixN_2, Fk.me_app, Fk.ek_app, Fk.ty_app, Fk.ek_tyl, Fk.me_joinl, Fk.ek_join, Fk.ty_join, Fk.it_seql, Fk.it_seqt, Fk.it_seqr, Fk.it_rngn, Fk.it_rng, Fk.it_rng2, Fk.it_rev, Fk.it_revt, Fk.it_ziptl, Fk.it_zipll, Fk.it_ziptt, Fk.lk_p, Fk.sl_t, Fk.sl_l, Fk.cut_to, Fk.cut_from1, Fk.cut_1, Fk.cut_from, Fk.hl_get, Fk.hl_set, Fk.op_eqL, Fk.op_neL, Fk.op_eqT, Fk.op_neT, tyP, R.bind_ok, R.bind_ex, R.st_ok, R.st_ex, RS2.seq_nx, RS2.seq_rt, RS2.seq_ex, RS2.seq_bk, RS2.seq_ct, List.set_cons_zero, List.set_cons_succ, List.getElem?_cons_zero, List.getElem?_cons_succ, Option.map_some, reduceCtorEq, imp_self, implies_true, Bool.not_true, Bool.not_false, decide_true, decide_false, Nat.reduceAdd, Nat.reduceSub, Nat.reduceLT, Nat.reduceLeDiff, Nat.reduceEqDiff, Int.reduceLT, Int.reduceLE, Int.reduceEq, Int.reduceNeg, Int.reduceToNat, Nat.reduceBEq, and_self, true_and, and_true, Nat.reducePow, Int.reducePow, Int.reduceAdd, Int.reduceSub, Int.reduceMul, List.length_cons, List.length_nil, List.cons_append, List.nil_append, List.append_nil, List.length_map, r1, e]
    simp only [iP, List.map_nil, List.nil_append, List.map_replicate]
    exact en_rtN hc
  · refine ⟨row', hs, ?_⟩
    simp -implicitDefEqProofs only [b24, Fk.ev_var, Fk.ev_lit, Fk.ev_con, Fk.ek_ofO, Fk.ev_op, Fk.ek_op, Fk.ev_neg, Fk.ek_neg, Fk.ev_notv, Fk.ek_not, Fk.ek_not2, Fk.ev_andv, Fk.ek_and, Fk.ek_and1, Fk.ek_and0, Fk.ev_orv, Fk.ek_or, Fk.ek_or1, Fk.ek_or0, Fk.ev_chain, Fk.ek_ch, Fk.ek_ch2, Fk.ek_ch3t, Fk.ek_ch3f, Fk.ev_ite, Fk.ek_ite1, Fk.ek_ite0, Fk.ev_call, Fk.ev_bi, Fk.ek_bi1, Fk.ek_bi2, Fk.ev_me, Fk.ek_me, Fk.ek_meb, Fk.ek_me20, Fk.ek_me21, Fk.ek_me22, Fk.ev_tup, Fk.ek_tup, Fk.ek_tup2, Fk.ev_lst, Fk.ek_lst, Fk.ek_lst2, Fk.ev_trev, Fk.ek_trev, Fk.ev_lrng, Fk.ek_lrng, Fk.ev_hsum, Fk.ek_hsum, Fk.ek_hs2, Fk.ev_dct0, Fk.ev_ix, Fk.ek_ix, Fk.ev_sl, Fk.ek_sl, Fk.ek_sl2, Fk.ek_sl3, Fk.ev_fld, Fk.ek_fld, Fk.ev_isi, Fk.ek_isi, Fk.ek_blR, Fk.ev_exi, Fk.ek_exi, Fk.ev_exf, Fk.ek_exf, Fk.ev_comp, Fk.ek_comp, Fk.ek_comp3, Fk.ev_o0, Fk.ev_o1, Fk.ek_o1, Fk.ev_a0, Fk.ev_a1, Fk.ek_a, Fk.ek_a2, Fk.ev_a2, Fk.ek_exv, Fk.ev_its, Fk.ek_its1, Fk.ek_its2, Fk.ev_tand, Fk.ek_tand1, Fk.ek_tand0, Fk.ev_tor, Fk.ek_tor1, Fk.ek_tor0, Fk.ev_tnot, Fk.ek_tnot, Fk.ev_tval, Fk.ek_tval, Fk.ek_tv2, Fk.ev_tyes, Fk.ev_pass, Fk.ev_seq, Fk.ev_expr, Fk.ek_expr, Fk.ev_asg, Fk.ek_asg, Fk.ev_seti, Fk.ek_set, Fk.ek_set2, Fk.ek_set3, Fk.ek_set4, Fk.ev_ret, Fk.ek_ret, Fk.ev_retn, Fk.ev_if, Fk.ek_if1, Fk.ek_if0, Fk.ev_for, Fk.ek_for, Fk.ev_brk, Fk.ev_cont, Fk.ev_while, Fk.ev_frz, Fk.ek_frz, Fk.ek_frzp, Fk.ek_frz2, Fk.ev_raise, Fk.ek_raise, Fk.ek_raise2, Fk.ek_xp0, Fk.ek_xp1, Fk.ev_try, Fk.ek_try0, Fk.ek_tryx, Fk.ek_try1, Fk.ek_tryf, Fk.ek_endr, Fk.ek_endn, Fk.ek_endb, Fk.ek_endc, Fk.ev_forB, Fk.ev_forB2, Fk.ev_tB, Fk.ek_tB1, Fk.ek_tB0, Fk.ek_tB2, Fk.gv_0, Fk.gv_s, Fk.op_add, Fk.op_sub, Fk.op_mul, Fk.op_fdiv, Fk.op_fdivs, Fk.op_mod, Fk.op_pow, Fk.op_lt, Fk.op_le, Fk.op_gt, Fk.op_ge, Fk.op_eqi, Fk.op_eqb, Fk.op_eqs, Fk.op_nei, Fk.op_neb, Fk.op_nes, Fk.op_addl, Fk.op_addt, Fk.op_adds, Fk.tr_bl, Fk.tr_non, Fk.tr_int, Fk.tr_lst, Fk.tr_tup, Fk.va_nil, Fk.va_cons, Fk.pu_nil, Fk.pu_cons, Fk.bi_lenl, Fk.bi_lent, Fk.bi_lenr, Fk.bi_lenp, Fk.ek_lenr, Fk.bi_int, Fk.bi_min, Fk.bi_max, Fk.bi_listl, Fk.bi_listt, Fk.bi_tupl, Fk.bi_tupt, Fk.bi_tupp, Fk.ek_tupr, Fk.bi_lisp, Fk.ek_lisr, Fk.bi_str, Fk.new_f, Fk.new_t, Fk.newK_f, Fk.ix_t, Fk.ix_l, Fk.ix_r, Fk.ix_p, Fk.ek_ixr, Fk.at_0, Fk.at_1, Fk.at_2, Fk.set_l, Fk.ek_st, Fk.ek_st2, Fk.ixN_0, Fk.ixN_1, Fk.ixN_2, Fk.me_app, Fk.ek_app, Fk.ty_app, Fk.ek_tyl, Fk.me_joinl, Fk.ek_join, Fk.ty_join, Fk.it_seql, Fk.it_seqt, Fk.it_seqr, Fk.it_rngn, Fk.it_rng, Fk.it_rng2, Fk.it_rev, Fk.it_revt, Fk.it_ziptl, Fk.it_zipll, Fk.it_ziptt, Fk.lk_p, Fk.sl_t, Fk.sl_l, Fk.cut_to, Fk.cut_from1, Fk.cut_1, Fk.cut_from, Fk.hl_get, Fk.hl_set, Fk.op_eqL, Fk.op_neL, Fk.op_eqT, Fk.op_neT, tyP, R.bind_ok, R.bind_ex, R.st_ok, R.st_ex, RS2.seq_nx, RS2.seq_rt, RS2.seq_ex, RS2.seq_bk, RS2.seq_ct, List.set_cons_zero, List.set_cons_succ, List.getElem?_cons_zero, List.getElem?_cons_succ, Option.map_some, reduceCtorEq, imp_self, implies_true, Bool.not_true, Bool.not_false, decide_true, decide_false, Nat.reduceAdd, Nat.reduceSub, Nat.reduceLT, Nat.reduceLeDiff, Nat.reduceEqDiff, Int.reduceLT, Int.reduceLE, Int.reduceEq, Int.reduceNeg, Int.reduceToNat, Nat.reduceBEq, and_self, true_and, and_true, Nat.reducePow, Int.reducePow, Int.reduceAdd, Int.reduceSub, Int.reduceMul, List.length_cons, List.length_nil, List.cons_append, List.nil_append, List.append_nil, List.length_map, r1, e]
    exact en_rtN hc
theorem Vs.split : ∀ {p zp : List Int} {m' z' : List Int}, p.length = zp.length → Vs (p ++ m') (zp ++ z') → Vs p zp ∧ Vs m' z'
  | [], [], _, _, _, h => ⟨trivial, h⟩
  | _ :: _, _ :: _, _, _, hl, h => by
    have := Vs.split (by simpa using hl) h.2.2
    exact ⟨⟨h.1, h.2.1, this.1⟩, this.2⟩
  | [], _ :: _, _, _, hl, _ => by simp at hl
  | _ :: _, [], _, _, hl, _ => by simp at hl
theorem val_full : ∀ {q zq : List Int}, Vs q zq → Ge q (zq.map (· - 1)) → val q zq = prd zq - 1
  | [], [], _, _ => rfl
  | x :: q, z :: zq, h, g => by
    have h1 := h.2.1
    have h2 : z - 1 ≤ x := g.1
    rw [val, prd, val_full h.2.2 g.2, show x = z - 1 by omega, Int.sub_mul]
    omega
  | [], _ :: _, h, _ => h.elim
  | _ :: _, [], h, _ => h.elim
theorem val_rep : ∀ (zq : List Int), val (List.replicate zq.length 0) zq = 0
  | [] => rfl
  | z :: zq => by rw [List.length_cons, List.replicate_succ, val, val_rep zq]; simp
theorem vs_rep : ∀ {zq : List Int}, (∀ z ∈ zq, 1 ≤ z) → Vs (List.replicate zq.length 0) zq
  | [], _ => trivial
  | z :: zq, h => by
    rw [List.length_cons, List.replicate_succ]
    have := h z List.mem_cons_self
    exact ⟨Int.le_refl _, by omega, vs_rep fun y hy => h y (List.mem_cons_of_mem _ hy)⟩
theorem step_val {zs row row' : List Int} (hs : Stp 0 (zs.map (· - 1)) row row') (hv : Vs row zs) (hk : val row zs + 1 < prd zs) : Vs row' zs ∧ val row' zs = val row zs + 1 := by
  rcases hs with ⟨p, x, q, pm, y, qm, rfl, hm, lp, lq, hxy, hg, rfl⟩ | ⟨hg, _⟩
  · obtain ⟨zp, z', rfl, rfl, hz'⟩ := List.map_eq_append_iff.mp hm
    obtain ⟨z, zq, rfl, rfl, rfl⟩ := List.map_eq_cons_iff.mp hz'
    have lp' : p.length = zp.length := by simpa using lp
    have lq' : q.length = zq.length := by simpa using lq
    obtain ⟨v1, v2, v3, v4⟩ := Vs.split lp' hv
    have f := val_full v4 hg
    rw [lq']
    refine ⟨Vs.app v1 ⟨by omega, by omega, vs_rep v4.pos⟩, ?_⟩
    rw [val_app lp', val_app lp', val, val, val_rep, f, Int.add_mul]
    omega
  · have := val_full hv hg
    omega
theorem clo_1 (b : List P) : Clo [.lst b] := cl_1
theorem all_states_ok {n : Nat} {zs : List Int} {L : Hl} (hz : Sz zs) (h240 : prd zs ≤ 240) (hc : Clo L) :
    run S (n + 4) 25 [.v (.p (.lst (iP zs)))] L = .ok (.p (.bl true)) L := by
  rw [r25_1]
  have hp := prd_pos fun z hz' => (hz.2 z hz').1
  obtain ⟨N, hN⟩ : ∃ N : Nat, prd zs = (N : Int) := ⟨(prd zs).toNat, by omega⟩
  have r1 : Rb N := Nat.le_trans (show N ≤ 240 by omega) (by decide)
  have ls : (iP zs).length ≤ sizeLine := by rw [iP, List.length_map]; exact Nat.le_trans hz.1 (by decide)
  have pr := product_ok (n := n + 2) (L := L) hz
  have c1 : compL (tB (run S (n + 3)) (cnOf S) [.v (.p (.lst (iP zs))), .u, .u, .u, .u] [1] (.gn 1) .tyes (.lit (.int 0))) L.length (iP zs) (L ++ [.lst []]) = .ok () (L ++ [.lst ((iP zs).map fun _ => .int 0)]) := comp_all _ (fun x _ acc => by simp -implicitDefEqProofs only [Fk.ev_var, Fk.ev_lit, Fk.ev_con, Fk.ek_ofO, Fk.ev_op, Fk.ek_op, Fk.ev_neg, Fk.ek_neg, Fk.ev_notv, Fk.ek_not, Fk.ek_not2, Fk.ev_andv, Fk.ek_and, Fk.ek_and1, Fk.ek_and0, Fk.ev_orv, Fk.ek_or, Fk.ek_or1, Fk.ek_or0, Fk.ev_chain, Fk.ek_ch, Fk.ek_ch2, Fk.ek_ch3t, Fk.ek_ch3f, Fk.ev_ite, Fk.ek_ite1, Fk.ek_ite0, Fk.ev_call, Fk.ev_bi, Fk.ek_bi1, Fk.ek_bi2, Fk.ev_me, Fk.ek_me, Fk.ek_meb, Fk.ek_me20, Fk.ek_me21, Fk.ek_me22, Fk.ev_tup, Fk.ek_tup, Fk.ek_tup2, Fk.ev_lst, Fk.ek_lst, Fk.ek_lst2, Fk.ev_trev, Fk.ek_trev, Fk.ev_lrng, Fk.ek_lrng, Fk.ev_hsum, Fk.ek_hsum, Fk.ek_hs2, Fk.ev_dct0, Fk.ev_ix, Fk.ek_ix, Fk.ev_sl, Fk.ek_sl, Fk.ek_sl2, Fk.ek_sl3, Fk.ev_fld, Fk.ek_fld, Fk.ev_isi, Fk.ek_isi, Fk.ek_blR, Fk.ev_exi, Fk.ek_exi, Fk.ev_exf, Fk.ek_exf, Fk.ev_comp, Fk.ek_comp, Fk.ek_comp3, Fk.ev_o0, Fk.ev_o1, Fk.ek_o1, Fk.ev_a0, Fk.ev_a1, Fk.ek_a, Fk.ek_a2, Fk.ev_a2, Fk.ek_exv, Fk.ev_its, Fk.ek_its1, Fk.ek_its2, Fk.ev_tand, Fk.ek_tand1, Fk.ek_tand0, Fk.ev_tor, Fk.ek_tor1, Fk.ek_tor0, Fk.ev_tnot, Fk.ek_tnot, Fk.ev_tval, Fk.ek_tval, Fk.ek_tv2, Fk.ev_tyes, Fk.ev_pass, Fk.ev_seq, Fk.ev_expr, Fk.ek_expr, Fk.ev_asg, Fk.ek_asg, Fk.ev_seti, Fk.ek_set, Fk.ek_set2, Fk.ek_set3, Fk.ek_set4, Fk.ev_ret, Fk.ek_ret, Fk.ev_retn, Fk.ev_if, Fk.ek_if1, Fk.ek_if0, Fk.ev_for, Fk.ek_for, Fk.ev_brk, Fk.ev_cont, Fk.ev_while, Fk.ev_frz, Fk.ek_frz, Fk.ek_frzp, Fk.ek_frz2, Fk.ev_raise, Fk.ek_raise, Fk.ek_raise2, Fk.ek_xp0, Fk.ek_xp1, Fk.ev_try, Fk.ek_try0, Fk.ek_tryx, Fk.ek_try1, Fk.ek_tryf, Fk.ek_endr, Fk.ek_endn, Fk.ek_endb, Fk.ek_endc, Fk.ev_forB, Fk.ev_forB2, Fk.ev_tB, Fk.ek_tB1, Fk.ek_tB0, Fk.ek_tB2, Fk.gv_0, Fk.gv_s, Fk.op_add, Fk.op_sub, Fk.op_mul, Fk.op_fdiv, Fk.op_fdivs, Fk.op_mod, Fk.op_pow, Fk.op_lt, Fk.op_le, Fk.op_gt, Fk.op_ge, Fk.op_eqi, Fk.op_eqb, Fk.op_eqs, Fk.op_nei, Fk.op_neb, Fk.op_nes, Fk.op_addl, Fk.op_addt, Fk.op_adds, Fk.tr_bl, Fk.tr_non, Fk.tr_int, Fk.tr_lst, Fk.tr_tup, Fk.va_nil, Fk.va_cons, Fk.pu_nil, Fk.pu_cons, Fk.bi_lenl, Fk.bi_lent, Fk.bi_lenr, Fk.bi_lenp, Fk.ek_lenr, Fk.bi_int, Fk.bi_min, Fk.bi_max, Fk.bi_listl, Fk.bi_listt, Fk.bi_tupl, Fk.bi_tupt, Fk.bi_tupp, Fk.ek_tupr, Fk.bi_lisp, Fk.ek_lisr, Fk.bi_str, Fk.new_f, Fk.new_t, Fk.newK_f, Fk.ix_t, Fk.ix_l, Fk.ix_r, Fk.ix_p, Fk.ek_ixr, Fk.at_0, Fk.at_1, Fk.at_2, Fk.set_l, Fk.ek_st, Fk.ek_st2, Fk.ixN_0, Fk.ixN_1, Fk.ixN_2, Fk.me_app, Fk.ek_app, Fk.ty_app, Fk.ek_tyl, Fk.me_joinl, Fk.ek_join, Fk.ty_join, Fk.it_seql, Fk.it_seqt, Fk.it_seqr, Fk.it_rngn, Fk.it_rng, Fk.it_rng2, Fk.it_rev, Fk.it_revt, Fk.it_ziptl, Fk.it_zipll, Fk.it_ziptt, Fk.lk_p, Fk.sl_t, Fk.sl_l, Fk.cut_to, Fk.cut_from1, Fk.cut_1, Fk.cut_from, Fk.hl_get, Fk.hl_set, Fk.op_eqL, Fk.op_neL, Fk.op_eqT, Fk.op_neT, tyP, R.bind_ok, R.bind_ex, R.st_ok, R.st_ex, RS2.seq_nx, RS2.seq_rt, RS2.seq_ex, RS2.seq_bk, RS2.seq_ct, List.set_cons_zero, List.set_cons_succ, List.getElem?_cons_zero, List.getElem?_cons_succ, Option.map_some, reduceCtorEq, imp_self, implies_true, Bool.not_true, Bool.not_false, decide_true, decide_false, Nat.reduceAdd, Nat.reduceSub, Nat.reduceLT, Nat.reduceLeDiff, Nat.reduceEqDiff, Int.reduceLT, Int.reduceLE, Int.reduceEq, Int.reduceNeg, Int.reduceToNat, Nat.reduceBEq, and_self, true_and, and_true, Nat.reducePow, Int.reducePow, Int.reduceAdd, Int.reduceSub, Int.reduceMul, List.length_cons, List.length_nil, List.cons_append, List.nil_append, List.append_nil, wipeS]) ls
  have c2 : compL (tB (run S (n + 3)) (cnOf S) [.v (.p (.lst (iP zs))), .u, .v (.p (.lst ((iP zs).map fun _ => .int 0))), .u, .u] [1] (.gn 1) .tyes (.op .sub (.var 1) (.lit (.int 1)))) L.length (iP zs) (L ++ [.lst []]) = .ok () (L ++ [.lst ((iP zs).map fun x => match x with | .int i => .int (i - 1) | x => x)]) := comp_all _ (fun x hx acc => by
    obtain ⟨i, _, rfl⟩ := List.mem_map.mp hx
    simp -implicitDefEqProofs only [Fk.ev_var, Fk.ev_lit, Fk.ev_con, Fk.ek_ofO, Fk.ev_op, Fk.ek_op, Fk.ev_neg, Fk.ek_neg, Fk.ev_notv, Fk.ek_not, Fk.ek_not2, Fk.ev_andv, Fk.ek_and, Fk.ek_and1, Fk.ek_and0, Fk.ev_orv, Fk.ek_or, Fk.ek_or1, Fk.ek_or0, Fk.ev_chain, Fk.ek_ch, Fk.ek_ch2, Fk.ek_ch3t, Fk.ek_ch3f, Fk.ev_ite, Fk.ek_ite1, Fk.ek_ite0, Fk.ev_call, Fk.ev_bi, Fk.ek_bi1, Fk.ek_bi2, Fk.ev_me, Fk.ek_me, Fk.ek_meb, Fk.ek_me20, Fk.ek_me21, Fk.ek_me22, Fk.ev_tup, Fk.ek_tup, Fk.ek_tup2, Fk.ev_lst, Fk.ek_lst, Fk.ek_lst2, Fk.ev_trev, Fk.ek_trev, Fk.ev_lrng, Fk.ek_lrng, Fk.ev_hsum, Fk.ek_hsum, Fk.ek_hs2, Fk.ev_dct0, Fk.ev_ix, Fk.ek_ix, Fk.ev_sl, Fk.ek_sl, Fk.ek_sl2, Fk.ek_sl3, Fk.ev_fld, Fk.ek_fld, Fk.ev_isi, Fk.ek_isi, Fk.ek_blR, Fk.ev_exi, Fk.ek_exi, Fk.ev_exf, Fk.ek_exf, Fk.ev_comp, Fk.ek_comp, Fk.ek_comp3, Fk.ev_o0, Fk.ev_o1, Fk.ek_o1, Fk.ev_a0, Fk.ev_a1, Fk.ek_a, Fk.ek_a2, Fk.ev_a2, Fk.ek_exv, Fk.ev_its, Fk.ek_its1, Fk.ek_its2, Fk.ev_tand, Fk.ek_tand1, Fk.ek_tand0, Fk.ev_tor, Fk.ek_tor1, Fk.ek_tor0, Fk.ev_tnot, Fk.ek_tnot, Fk.ev_tval, Fk.ek_tval, Fk.ek_tv2, Fk.ev_tyes, Fk.ev_pass, Fk.ev_seq, Fk.ev_expr, Fk.ek_expr, Fk.ev_asg, Fk.ek_asg, Fk.ev_seti, Fk.ek_set, Fk.ek_set2, Fk.ek_set3, Fk.ek_set4, Fk.ev_ret, Fk.ek_ret, Fk.ev_retn, Fk.ev_if, Fk.ek_if1, Fk.ek_if0, Fk.ev_for, Fk.ek_for, Fk.ev_brk, Fk.ev_cont, Fk.ev_while, Fk.ev_frz, Fk.ek_frz, Fk.ek_frzp, Fk.ek_frz2, Fk.ev_raise, Fk.ek_raise, Fk.ek_raise2, Fk.ek_xp0, Fk.ek_xp1, Fk.ev_try, Fk.ek_try0, Fk.ek_tryx, Fk.ek_try1, Fk.ek_tryf, Fk.ek_endr, Fk.ek_endn, Fk.ek_endb, Fk.ek_endc, Fk.ev_forB, Fk.ev_forB2, Fk.ev_tB, Fk.ek_tB1, Fk.ek_tB0, Fk.ek_tB2, Fk.gv_0, Fk.gv_s, Fk.op_add, Fk.op_sub, Fk.op_mul, Fk.op_fdiv, Fk.op_fdivs, Fk.op_mod, Fk.op_pow, Fk.op_lt, Fk.op_le, Fk.op_gt, Fk.op_ge, Fk.op_eqi, Fk.op_eqb, Fk.op_eqs, Fk.op_nei, Fk.op_neb, Fk.op_nes, Fk.op_addl, Fk.op_addt, Fk.op_adds, Fk.tr_bl, Fk.tr_non, Fk.tr_int, Fk.tr_lst, Fk.tr_tup, Fk.va_nil, Fk.va_cons, Fk.pu_nil, Fk.pu_cons, Fk.bi_lenl, Fk.bi_lent, Fk.bi_lenr, Fk.bi_lenp, Fk.ek_lenr, Fk.bi_int, Fk.bi_min, Fk.bi_max, Fk.bi_listl, Fk.bi_listt, Fk.bi_tupl, Fk.bi_tupt, Fk.bi_tupp, Fk.ek_tupr, Fk.bi_lisp, Fk.ek_lisr, Fk.bi_str, Fk.new_f, Fk.new_t, Fk.newK_f, Fk.ix_t, Fk.ix_l, Fk.ix_r, Fk.ix_p, Fk.ek_ixr, Fk.at_0, Fk.at_1, Fk.at_2, Fk.set_l, Fk.ek_st, Fk.ek_st2, Fk.ixN_0, Fk.ixN_1, Fk.ixN_2, Fk.me_app, Fk.ek_app, Fk.ty_app, Fk.ek_tyl, Fk.me_joinl, Fk.ek_join, Fk.ty_join, Fk.it_seql, Fk.it_seqt, Fk.it_seqr, Fk.it_rngn, Fk.it_rng, Fk.it_rng2, Fk.it_rev, Fk.it_revt, Fk.it_ziptl, Fk.it_zipll, Fk.it_ziptt, Fk.lk_p, Fk.sl_t, Fk.sl_l, Fk.cut_to, Fk.cut_from1, Fk.cut_1, Fk.cut_from, Fk.hl_get, Fk.hl_set, Fk.op_eqL, Fk.op_neL, Fk.op_eqT, Fk.op_neT, tyP, R.bind_ok, R.bind_ex, R.st_ok, R.st_ex, RS2.seq_nx, RS2.seq_rt, RS2.seq_ex, RS2.seq_bk, RS2.seq_ct, List.set_cons_zero, List.set_cons_succ, List.getElem?_cons_zero, List.getElem?_cons_succ, Option.map_some, reduceCtorEq, imp_self, implies_true, Bool.not_true, Bool.not_false, decide_true, decide_false, Nat.reduceAdd, Nat.reduceSub, Nat.reduceLT, Nat.reduceLeDiff, Nat.reduceEqDiff, Int.reduceLT, Int.reduceLE, Int.reduceEq, Int.reduceNeg, Int.reduceToNat, Nat.reduceBEq, and_self, true_and, and_true, Nat.reducePow, Int.reducePow, Int.reduceAdd, Int.reduceSub, Int.reduceMul, List.length_cons, List.length_nil, List.cons_append, List.nil_append, List.append_nil, wipeS]) ls
  have e1 : (iP zs).map (fun _ => P.int 0) = iP (List.replicate zs.length 0) := by
    simp only [iP, List.map_map, List.map_replicate]
    exact List.map_const' ..
  have e2 : ((iP zs).map fun x => match x with | .int i => P.int (i - 1) | x => x) = iP (zs.map (· - 1)) := by simp [iP]
  rw [e1] at c1 c2
  rw [e2] at c2
  have lp := for_all (b := forB (run S (n + 3)) (cnOf S) (.gn 4) b25_0) (xs := rangeP 0 N) (t := [.v (.p (.lst (iP zs))), .u, .v (.p (.lst (iP (List.replicate zs.length 0)))), .v (.p (.lst (iP (zs.map (· - 1))))), .u]) (L := L)
    (fun k t L' => L' = L ∧ ∃ row y, t = [.v (.p (.lst (iP zs))), .u, .v (.p (.lst (iP row))), .v (.p (.lst (iP (zs.map (· - 1))))), y] ∧ row.length = zs.length ∧ ((k : Int) < prd zs → Vs row zs ∧ val row zs = k))
    ⟨rfl, _, _, rfl, by simp, fun _ => ⟨vs_rep fun z hz' => (hz.2 z hz').1, val_rep zs⟩⟩
    fun k x t L' hx hJ => by
      obtain ⟨rfl, row, y, rfl, hl, hk⟩ := hJ
      obtain ⟨rfl, hi⟩ := rng_get hx
      obtain ⟨hv, hval⟩ := hk (by omega)
      obtain ⟨row', hs, e⟩ := step_ok (n := n + 2) (least := 0) (row := row) (most := zs.map (· - 1)) (L := L') (by simpa using hl) (by rw [hl]; exact hz.1) hc
      have ld := leads_ok (n := n) hz hv hc
      rw [hval] at ld
      refine ⟨[.v (.p (.lst (iP zs))), .u, .v (.p (.lst (iP row'))), .v (.p (.lst (iP (zs.map (· - 1))))), .v (.p (.int (k : Int)))], L', ?_, rfl, row', _, rfl, by rw [hs.len, hl], fun hk' => ?_⟩
      · simp -implicitDefEqProofs only [b25_0, Fk.ev_var, Fk.ev_lit, Fk.ev_con, Fk.ek_ofO, Fk.ev_op, Fk.ek_op, Fk.ev_neg, Fk.ek_neg, Fk.ev_notv, Fk.ek_not, Fk.ek_not2, Fk.ev_andv, Fk.ek_and, Fk.ek_and1, Fk.ek_and0, Fk.ev_orv, Fk.ek_or, Fk.ek_or1, Fk.ek_or0, Fk.ev_chain, Fk.ek_ch, Fk.ek_ch2, Fk.ek_ch3t, Fk.ek_ch3f, Fk.ev_ite, Fk.ek_ite1, Fk.ek_ite0, Fk.ev_call, Fk.ev_bi, Fk.ek_bi1, Fk.ek_bi2, Fk.ev_me, Fk.ek_me, Fk.ek_meb, Fk.ek_me20, Fk.ek_me21, Fk.ek_me22, Fk.ev_tup, Fk.ek_tup, Fk.ek_tup2, Fk.ev_lst, Fk.ek_lst, Fk.ek_lst2, Fk.ev_trev, Fk.ek_trev, Fk.ev_lrng, Fk.ek_lrng, Fk.ev_hsum, Fk.ek_hsum, Fk.ek_hs2, Fk.ev_dct0, Fk.ev_ix, Fk.ek_ix, Fk.ev_sl, Fk.ek_sl, Fk.ek_sl2, Fk.ek_sl3, Fk.ev_fld, Fk.ek_fld, Fk.ev_isi, Fk.ek_isi, Fk.ek_blR, Fk.ev_exi, Fk.ek_exi, Fk.ev_exf, Fk.ek_exf, Fk.ev_comp, Fk.ek_comp, Fk.ek_comp3, Fk.ev_o0, Fk.ev_o1, Fk.ek_o1, Fk.ev_a0, Fk.ev_a1, Fk.ek_a, Fk.ek_a2, Fk.ev_a2, Fk.ek_exv, Fk.ev_its, Fk.ek_its1, Fk.ek_its2, Fk.ev_tand, Fk.ek_tand1, Fk.ek_tand0, Fk.ev_tor, Fk.ek_tor1, Fk.ek_tor0, Fk.ev_tnot, Fk.ek_tnot, Fk.ev_tval, Fk.ek_tval, Fk.ek_tv2, Fk.ev_tyes, Fk.ev_pass, Fk.ev_seq, Fk.ev_expr, Fk.ek_expr, Fk.ev_asg, Fk.ek_asg, Fk.ev_seti, Fk.ek_set, Fk.ek_set2, Fk.ek_set3, Fk.ek_set4, Fk.ev_ret, Fk.ek_ret, Fk.ev_retn, Fk.ev_if, Fk.ek_if1, Fk.ek_if0, Fk.ev_for, Fk.ek_for, Fk.ev_brk, Fk.ev_cont, Fk.ev_while, Fk.ev_frz, Fk.ek_frz, Fk.ek_frzp, Fk.ek_frz2, Fk.ev_raise, Fk.ek_raise, Fk.ek_raise2, Fk.ek_xp0, Fk.ek_xp1, Fk.ev_try, Fk.ek_try0, Fk.ek_tryx, Fk.ek_try1, Fk.ek_tryf, Fk.ek_endr, Fk.ek_endn, Fk.ek_endb, Fk.ek_endc, Fk.ev_forB, Fk.ev_forB2, Fk.ev_tB, Fk.ek_tB1, Fk.ek_tB0, Fk.ek_tB2, Fk.gv_0, Fk.gv_s, Fk.op_add, Fk.op_sub, Fk.op_mul, Fk.op_fdiv, Fk.op_fdivs, Fk.op_mod, Fk.op_pow, Fk.op_lt, Fk.op_le, Fk.op_gt, Fk.op_ge, Fk.op_eqi, Fk.op_eqb, Fk.op_eqs, Fk.op_nei, Fk.op_neb, Fk.op_nes, Fk.op_addl, Fk.op_addt, Fk.op_adds, Fk.tr_bl, Fk.tr_non, Fk.tr_int, Fk.tr_lst, Fk.tr_tup, Fk.va_nil, Fk.va_cons, Fk.pu_nil, Fk.pu_cons, Fk.bi_lenl, Fk.bi_lent, Fk.bi_lenr, Fk.bi_lenp, Fk.ek_lenr, Fk.bi_int, Fk.bi_min, Fk.bi_max, Fk.bi_listl, Fk.bi_listt, Fk.bi_tupl, Fk.bi_tupt, Fk.bi_tupp, Fk.ek_tupr, Fk.bi_lisp, Fk.ek_lisr, Fk.bi_str, Fk.new_f, Fk.new_t, Fk.newK_f, Fk.ix_t, Fk.ix_l, Fk.ix_r, Fk.ix_p, Fk.ek_ixr, Fk.at_0, Fk.at_1, Fk.at_2, Fk.set_l, Fk.ek_st, Fk.ek_st2, Fk.ixN_0, Fk.ixN_1, Fk.ixN_2, Fk.me_app, Fk.ek_app, Fk.ty_app, Fk.ek_tyl, Fk.me_joinl, Fk.ek_join, Fk.ty_join, Fk.it_seql, Fk.it_seqt, Fk.it_seqr, Fk.it_rngn, Fk.it_rng, Fk.it_rng2, Fk.it_rev, Fk.it_revt, Fk.it_ziptl, Fk.it_zipll, Fk.it_ziptt, Fk.lk_p, Fk.sl_t, Fk.sl_l, Fk.cut_to, Fk.cut_from1, Fk.cut_1, Fk.cut_from, Fk.hl_get, Fk.hl_set, Fk.op_eqL, Fk.op_neL, Fk.op_eqT, Fk.op_neT, tyP, R.bind_ok, R.bind_ex, R.st_ok, R.st_ex, RS2.seq_nx, RS2.seq_rt, RS2.seq_ex, RS2.seq_bk, RS2.seq_ct, List.set_cons_zero, List.set_cons_succ, List.getElem?_cons_zero, List.getElem?_cons_succ, Option.map_some, reduceCtorEq, imp_self, implies_true, Bool.not_true, Bool.not_false, decide_true, decide_false, Nat.reduceAdd, Nat.reduceSub, Nat.reduceLT, Nat.reduceLeDiff, Nat.reduceEqDiff, Int.reduceLT, Int.reduceLE, Int.reduceEq, Int.reduceNeg, Int.reduceToNat, Nat.reduceBEq, and_self, true_and, and_true, Nat.reducePow, Int.reducePow, Int.reduceAdd, Int.reduceSub, Int.reduceMul, List.length_cons, List.length_nil, List.cons_append, List.nil_append, List.append_nil, ld, e]
      · have := step_val hs hv (by rw [hval]; simpa using hk')
        rw [hval] at this
        exact ⟨this.1, by rw [this.2]; simp⟩
  obtain ⟨t', L', e, rfl, row, y, rfl, _⟩ := lp
  simp -implicitDefEqProofs only [b25, Fk.ev_var, Fk.ev_lit, Fk.ev_con, Fk.ek_ofO, Fk.ev_op, Fk.ek_op, Fk.ev_neg, Fk.ek_neg, Fk.ev_notv, Fk.ek_not, Fk.ek_not2, Fk.ev_andv, Fk.ek_and, Fk.ek_and1, Fk.ek_and0, Fk.ev_orv, Fk.ek_or, Fk.ek_or1, Fk.ek_or0, Fk.ev_chain, Fk.ek_ch, Fk.ek_ch2, Fk.ek_ch3t, Fk.ek_ch3f, Fk.ev_ite, Fk.ek_ite1, Fk.ek_ite0, Fk.ev_call, Fk.ev_bi, Fk.ek_bi1, Fk.ek_bi2, Fk.ev_me, Fk.ek_me, Fk.ek_meb, Fk.ek_me20, Fk.ek_me21, Fk.ek_me22, Fk.ev_tup, Fk.ek_tup, Fk.ek_tup2, Fk.ev_lst, Fk.ek_lst, Fk.ek_lst2, Fk.ev_trev, Fk.ek_trev, Fk.ev_lrng, Fk.ek_lrng, Fk.ev_hsum, Fk.ek_hsum, Fk.ek_hs2, Fk.ev_dct0, Fk.ev_ix, Fk.ek_ix, Fk.ev_sl, Fk.ek_sl, Fk.ek_sl2, Fk.ek_sl3, Fk.ev_fld, Fk.ek_fld, Fk.ev_isi, Fk.ek_isi, Fk.ek_blR, Fk.ev_exi, Fk.ek_exi, Fk.ev_exf, Fk.ek_exf, Fk.ev_comp, Fk.ek_comp, Fk.ek_comp3, Fk.ev_o0, Fk.ev_o1, Fk.ek_o1, Fk.ev_a0, Fk.ev_a1, Fk.ek_a, Fk.ek_a2, Fk.ev_a2, Fk.ek_exv, Fk.ev_its, Fk.ek_its1, Fk.ek_its2, Fk.ev_tand, Fk.ek_tand1, Fk.ek_tand0, Fk.ev_tor, Fk.ek_tor1, Fk.ek_tor0, Fk.ev_tnot, Fk.ek_tnot, Fk.ev_tval, Fk.ek_tval, Fk.ek_tv2, Fk.ev_tyes, Fk.ev_pass, Fk.ev_seq, Fk.ev_expr, Fk.ek_expr, Fk.ev_asg, Fk.ek_asg, Fk.ev_seti, Fk.ek_set, Fk.ek_set2, Fk.ek_set3, Fk.ek_set4, Fk.ev_ret, Fk.ek_ret, Fk.ev_retn, Fk.ev_if, Fk.ek_if1, Fk.ek_if0, Fk.ev_for, Fk.ek_for, Fk.ev_brk, Fk.ev_cont, Fk.ev_while, Fk.ev_frz, Fk.ek_frz, Fk.ek_frzp, Fk.ek_frz2, Fk.ev_raise, Fk.ek_raise, Fk.ek_raise2, Fk.ek_xp0, Fk.ek_xp1, Fk.ev_try, Fk.ek_try0, Fk.ek_tryx, Fk.ek_try1, Fk.ek_tryf, Fk.ek_endr, Fk.ek_endn, Fk.ek_endb, Fk.ek_endc, Fk.ev_forB, Fk.ev_forB2, Fk.ev_tB, Fk.ek_tB1, Fk.ek_tB0, Fk.ek_tB2, Fk.gv_0, Fk.gv_s, Fk.op_add, Fk.op_sub, Fk.op_mul, Fk.op_fdiv, Fk.op_fdivs, Fk.op_mod, Fk.op_pow, Fk.op_lt, Fk.op_le, Fk.op_gt, Fk.op_ge, Fk.op_eqi, Fk.op_eqb, Fk.op_eqs, Fk.op_nei, Fk.op_neb, Fk.op_nes, Fk.op_addl, Fk.op_addt, Fk.op_adds, Fk.tr_bl, Fk.tr_non, Fk.tr_int, Fk.tr_lst, Fk.tr_tup, Fk.va_nil, Fk.va_cons, Fk.pu_nil, Fk.pu_cons, Fk.bi_lenl, Fk.bi_lent, Fk.bi_lenr, Fk.bi_lenp, Fk.ek_lenr, Fk.bi_int, Fk.bi_min, Fk.bi_max, Fk.bi_listl, Fk.bi_listt, Fk.bi_tupl, Fk.bi_tupt, Fk.bi_tupp, Fk.ek_tupr, Fk.bi_lisp, Fk.ek_lisr, Fk.bi_str, Fk.new_f, Fk.new_t, Fk.newK_f, Fk.ix_t, Fk.ix_l, Fk.ix_r, Fk.ix_p, Fk.ek_ixr, Fk.at_0, Fk.at_1, Fk.at_2, Fk.set_l, Fk.ek_st, Fk.ek_st2, Fk.ixN_0, Fk.ixN_1, Fk.ixN_2, Fk.me_app, Fk.ek_app, Fk.ty_app, Fk.ek_tyl, Fk.me_joinl, Fk.ek_join, Fk.ty_join, Fk.it_seql, Fk.it_seqt, Fk.it_seqr, Fk.it_rngn, Fk.it_rng, Fk.it_rng2, Fk.it_rev, Fk.it_revt, Fk.it_ziptl, Fk.it_zipll, Fk.it_ziptt, Fk.lk_p, Fk.sl_t, Fk.sl_l, Fk.cut_to, Fk.cut_from1, Fk.cut_1, Fk.cut_from, Fk.hl_get, Fk.hl_set, Fk.op_eqL, Fk.op_neL, Fk.op_eqT, Fk.op_neT, tyP, R.bind_ok, R.bind_ex, R.st_ok, R.st_ex, RS2.seq_nx, RS2.seq_rt, RS2.seq_ex, RS2.seq_bk, RS2.seq_ct, List.set_cons_zero, List.set_cons_succ, List.getElem?_cons_zero, List.getElem?_cons_succ, Option.map_some, reduceCtorEq, imp_self, implies_true, Bool.not_true, Bool.not_false, decide_true, decide_false, Nat.reduceAdd, Nat.reduceSub, Nat.reduceLT, Nat.reduceLeDiff, Nat.reduceEqDiff, Int.reduceLT, Int.reduceLE, Int.reduceEq, Int.reduceNeg, Int.reduceToNat, Nat.reduceBEq, and_self, true_and, and_true, Nat.reducePow, Int.reducePow, Int.reduceAdd, Int.reduceSub, Int.reduceMul, List.length_cons, List.length_nil, List.cons_append, List.nil_append, List.append_nil, c1, c2, comp_end hc, pr, hN, r1, e]
  exact en_rt rfl
end Lw

set_option Elab.async false
set_option linter.all false
set_option autoImplicit false
set_option maxRecDepth 100000
set_option maxHeartbeats 2000000
namespace Lw
open PySem PySem.Spec PyProof.Rows L2 Fk
instance vsDec : ∀ ms zs : List Int, Decidable (Vs ms zs)
  | [], [] => isTrue trivial
  | m :: ms, z :: zs => by
    unfold Vs
    have := vsDec ms zs
    exact inferInstance
  | [], _ :: _ => isFalse id
  | _ :: _, [] => isFalse id
theorem isstate_ok {n : Nat} {ms zs : List Int} {L : Hl} (hl : ms.length = zs.length) (h200 : zs.length ≤ 200) :
    run S (n + 1) 27 [.v (.p (.lst (iP ms))), .v (.p (.lst (iP zs)))] L = .ok (.p (.bl (decide (Vs ms zs)))) L := by
  rw [r27_2]
  have r1 : Rb zs.length := Nat.le_trans h200 (by decide)
  have lp := for_ind (b := forB (run S n) (cnOf S) (.gn 2) b27_0)
    (fun i t L' => L' = L ∧ (∃ y, t = [.v (.p (.lst (iP ms))), .v (.p (.lst (iP zs))), y]) ∧ ∀ (j : Nat) (m z : Int), j < i → ms[j]? = some m → zs[j]? = some z → 0 ≤ m ∧ m < z)
    (fun r => r = .ok (.rt (.p (.bl false))) L ∧ ¬ Vs ms zs)
    (rangeP 0 zs.length) 0 [.v (.p (.lst (iP ms))), .v (.p (.lst (iP zs))), .u] L ⟨rfl, ⟨_, rfl⟩, fun j m z h => absurd h (by omega)⟩
    fun i x t L' hx hJ => by
      obtain ⟨rfl, ⟨y, rfl⟩, hj⟩ := hJ
      obtain ⟨rfl, hi⟩ := rng_get hx
      rw [Nat.zero_add] at hj ⊢
      have hm : ms[i]? = some ms[i] := List.getElem?_eq_getElem (by omega)
      have hz : zs[i]? = some zs[i] := List.getElem?_eq_getElem hi
      have a1 := at_ip hm
      have a2 := at_ip hz
      by_cases h0 : ms[i] < 0
      · refine .inr (.inl ⟨.p (.bl false), L', ?_, rfl, fun hv => ?_⟩)
        · simp -implicitDefEqProofs only [b27_0, Fk.ev_var, Fk.ev_lit, Fk.ev_con, Fk.ek_ofO, Fk.ev_op, Fk.ek_op, Fk.ev_neg, Fk.ek_neg, Fk.ev_notv, Fk.ek_not, Fk.ek_not2, Fk.ev_andv, Fk.ek_and, Fk.ek_and1, Fk.ek_and0, Fk.ev_orv, Fk.ek_or, Fk.ek_or1, Fk.ek_or0, Fk.ev_chain, Fk.ek_ch, Fk.ek_ch2, Fk.ek_ch3t, Fk.ek_ch3f, Fk.ev_ite, Fk.ek_ite1, Fk.ek_ite0, Fk.ev_call, Fk.ev_bi, Fk.ek_bi1, Fk.ek_bi2, Fk.ev_me, Fk.ek_me, Fk.ek_meb, Fk.ek_me20, Fk.ek_me21, Fk.ek_me22, Fk.ev_tup, Fk.ek_tup, Fk.ek_tup2, Fk.ev_lst, Fk.ek_lst, Fk.ek_lst2, Fk.ev_trev, Fk.ek_trev, Fk.ev_lrng, Fk.ek_lrng, Fk.ev_hsum, Fk.ek_hsum, Fk.ek_hs2, Fk.ev_dct0, Fk.ev_ix, Fk.ek_ix, Fk.ev_sl, Fk.ek_sl, Fk.ek_sl2, Fk.ek_sl3, Fk.ev_fld, Fk.ek_fld, Fk.ev_isi, Fk.ek_isi, Fk.ek_blR, Fk.ev_exi, Fk.ek_exi, Fk.ev_exf, Fk.ek_exf, Fk.ev_comp, Fk.ek_comp, Fk.ek_comp3, Fk.ev_o0, Fk.ev_o1, Fk.ek_o1, Fk.ev_a0, Fk.ev_a1, Fk.ek_a, Fk.ek_a2, Fk.ev_a2, Fk.ek_exv, Fk.ev_its, Fk.ek_its1, Fk.ek_its2, Fk.ev_tand, Fk.ek_tand1, Fk.ek_tand0, Fk.ev_tor, Fk.ek_tor1, Fk.ek_tor0, Fk.ev_tnot, Fk.ek_tnot, Fk.ev_tval, Fk.ek_tval, Fk.ek_tv2, Fk.ev_tyes, Fk.ev_pass, Fk.ev_seq, Fk.ev_expr, Fk.ek_expr, Fk.ev_asg, Fk.ek_asg, Fk.ev_seti, Fk.ek_set, Fk.ek_set2, Fk.ek_set3, Fk.ek_set4, Fk.ev_ret, Fk.ek_ret, Fk.ev_retn, Fk.ev_if, Fk.ek_if1, Fk.ek_if0, Fk.ev_for, Fk.ek_for, Fk.ev_brk, Fk.ev_cont, Fk.ev_while, Fk.ev_frz, Fk.ek_frz, Fk.ek_frzp, Fk.ek_frz2, Fk.ev_raise, Fk.ek_raise, Fk.ek_raise2, Fk.ek_xp0, Fk.ek_xp1, Fk.ev_try, Fk.ek_try0, Fk.ek_tryx, Fk.ek_try1, Fk.ek_tryf, Fk.ek_endr, Fk.ek_endn, Fk.ek_endb, Fk.ek_endc, Fk.ev_forB, Fk.ev_forB2, Fk.ev_tB, Fk.ek_tB1, Fk.ek_tB0, Fk.ek_tB2, Fk.gv_0, Fk.gv_s, Fk.op_add, Fk.op_sub, Fk.op_mul, Fk.op_fdiv, Fk.op_fdivs, Fk.op_mod, Fk.op_pow, Fk.op_lt, Fk.op_le, Fk.op_gt, Fk.op_ge, Fk.op_eqi, Fk.op_eqb, Fk.op_eqs, Fk.op_nei, Fk.op_neb, Fk.op_nes, Fk.op_addl, Fk.op_addt, Fk.op_adds, Fk.tr_bl, Fk.tr_non, Fk.tr_int, Fk.tr_lst, Fk.tr_tup, Fk.va_nil, Fk.va_cons, Fk.pu_nil, Fk.pu_cons, Fk.bi_lenl, Fk.bi_lent, Fk.bi_lenr, Fk.bi_lenp, Fk.ek_lenr, Fk.bi_int, Fk.bi_min, Fk.bi_max, Fk.bi_listl, Fk.bi_listt, Fk.bi_tupl, Fk.bi_tupt, Fk.bi_tupp, Fk.ek_tupr, Fk.bi_lisp, Fk.ek_lisr, Fk.bi_str, Fk.new_f, Fk.new_t, Fk.newK_f, Fk.ix_t, Fk.ix_l, Fk.ix_r, Fk.ix_p, Fk.ek_ixr, Fk.at_0, Fk.at_1, Fk.at_2, Fk.set_l, Fk.ek_st, Fk.ek_st2, Fk.ixN_0, Fk.ixN_1, Fk.ixN_2, Fk.me_app, Fk.ek_app, Fk.ty_app, Fk.ek_tyl, Fk.me_joinl, Fk.ek_join, Fk.ty_join, Fk.it_seql, Fk.it_seqt, Fk.it_seqr, Fk.it_rngn, Fk.it_rng, Fk.it_rng2, Fk.it_rev, Fk.it_revt, Fk.it_ziptl, Fk.it_zipll, Fk.it_ziptt, Fk.lk_p, Fk.sl_t, Fk.sl_l, Fk.cut_to, Fk.cut_from1, Fk.cut_1, Fk.cut_from, Fk.hl_get, Fk.hl_set, Fk.op_eqL, Fk.op_neL, Fk.op_eqT, Fk.op_neT, tyP, R.bind_ok, R.bind_ex, R.st_ok, R.st_ex, RS2.seq_nx, RS2.seq_rt, RS2.seq_ex, RS2.seq_bk, RS2.seq_ct, List.set_cons_zero, List.set_cons_succ, List.getElem?_cons_zero, List.getElem?_cons_succ, Option.map_some, reduceCtorEq, imp_self, implies_true, Bool.not_true, Bool.not_false, decide_true, decide_false, Nat.reduceAdd, Nat.reduceSub, Nat.reduceLT, Nat.reduceLeDiff, Nat.reduceEqDiff, Int.reduceLT, Int.reduceLE, Int.reduceEq, Int.reduceNeg, Int.reduceToNat, Nat.reduceBEq, and_self, true_and, and_true, Nat.reducePow, Int.reducePow, Int.reduceAdd, Int.reduceSub, Int.reduceMul, List.length_cons, List.length_nil, List.cons_append, List.nil_append, List.append_nil, a1, a2, h0]
        · have := (vs_iff.mp hv).2 i _ _ hm hz; omega
      · by_cases h1 : zs[i] ≤ ms[i]
        · refine .inr (.inl ⟨.p (.bl false), L', ?_, rfl, fun hv => ?_⟩)
          · simp -implicitDefEqProofs only [b27_0, Fk.ev_var, Fk.ev_lit, Fk.ev_con, Fk.ek_ofO, Fk.ev_op, Fk.ek_op, Fk.ev_neg, Fk.ek_neg, Fk.ev_notv, Fk.ek_not, Fk.ek_not2, Fk.ev_andv, Fk.ek_and, Fk.ek_and1, Fk.ek_and0, Fk.ev_orv, Fk.ek_or, Fk.ek_or1, Fk.ek_or0, Fk.ev_chain, Fk.ek_ch, Fk.ek_ch2, Fk.ek_ch3t, Fk.ek_ch3f, Fk.ev_ite, Fk.ek_ite1, Fk.ek_ite0, Fk.ev_call, Fk.ev_bi, Fk.ek_bi1, Fk.ek_bi2, Fk.ev_me, Fk.ek_me, Fk.ek_meb, Fk.ek_me20, Fk.ek_me21, Fk.ek_me22, Fk.ev_tup, Fk.ek_tup, Fk.ek_tup2, Fk.ev_lst, Fk.ek_lst, Fk.ek_lst2, Fk.ev_trev, Fk.ek_trev, Fk.ev_lrng, Fk.ek_lrng, Fk.ev_hsum, Fk.ek_hsum, Fk.ek_hs2, Fk.ev_dct0, Fk.ev_ix, Fk.ek_ix, Fk.ev_sl, Fk.ek_sl, Fk.ek_sl2, Fk.ek_sl3, Fk.ev_fld, Fk.ek_fld, Fk.ev_isi, Fk.ek_isi, Fk.ek_blR, Fk.ev_exi, Fk.ek_exi, Fk.ev_exf, Fk.ek_exf, Fk.ev_comp, Fk.ek_comp, Fk.ek_comp3, Fk.ev_o0, Fk.ev_o1, Fk.ek_o1, Fk.ev_a0, Fk.ev_a1, Fk.ek_a, Fk.ek_a2, Fk.ev_a2, Fk.ek_exv, Fk.ev_its, Fk.ek_its1, Fk.ek_its2, Fk.ev_tand, Fk.ek_tand1, Fk.ek_tand0, Fk.ev_tor, Fk.ek_tor1, Fk.ek_tor0, Fk.ev_tnot, Fk.ek_tnot, Fk.ev_tval, Fk.ek_tval, Fk.ek_tv2, Fk.ev_tyes, Fk.ev_pass, Fk.ev_seq, Fk.ev_expr, Fk.ek_expr, Fk.ev_asg, Fk.ek_asg, Fk.ev_seti, Fk.ek_set, Fk.ek_set2, Fk.ek_set3, Fk.ek_set4, Fk.ev_ret, Fk.ek_ret, Fk.ev_retn, Fk.ev_if, Fk.ek_if1, Fk.ek_if0, Fk.ev_for, Fk.ek_for, Fk.ev_brk, Fk.ev_cont, Fk.ev_while, Fk.ev_frz, Fk.ek_frz, Fk.ek_frzp, Fk.ek_frz2, Fk.ev_raise, Fk.ek_raise, Fk.ek_raise2, Fk.ek_xp0, Fk.ek_xp1, Fk.ev_try, Fk.ek_try0, Fk.ek_tryx, Fk.ek_try1, Fk.ek_tryf, Fk.ek_endr, Fk.ek_endn, Fk.ek_endb, Fk.ek_endc, Fk.ev_forB, Fk.ev_forB2, Fk.ev_tB, Fk.ek_tB1, Fk.ek_tB0, Fk.ek_tB2, Fk.gv_0, Fk.gv_s, Fk.op_add, Fk.op_sub, Fk.op_mul, Fk.op_fdiv, Fk.op_fdivs, Fk.op_mod, Fk.op_pow, Fk.op_lt, Fk.op_le, Fk.op_gt, Fk.op_ge, Fk.op_eqi, Fk.op_eqb, Fk.op_eqs, Fk.op_nei, Fk.op_neb, Fk.op_nes, Fk.op_addl, Fk.op_addt, Fk.op_adds, Fk.tr_bl, Fk.tr_non, Fk.tr_int, Fk.tr_lst, Fk.tr_tup, Fk.va_nil, Fk.va_cons, Fk.pu_nil, Fk.pu_cons, Fk.bi_lenl, Fk.bi_lent, Fk.bi_lenr, Fk.bi_lenp, Fk.ek_lenr, Fk.bi_int, Fk.bi_min, Fk.bi_max, Fk.bi_listl, Fk.bi_listt, Fk.bi_tupl, Fk.bi_tupt, Fk.bi_tupp, Fk.ek_tupr, Fk.bi_lisp, Fk.ek_lisr, Fk.bi_str, Fk.new_f, Fk.new_t, Fk.newK_f, Fk.ix_t, Fk.ix_l, Fk.ix_r, Fk.ix_p, Fk.ek_ixr, Fk.at_0, Fk.at_1, Fk.at_2, Fk.set_l, Fk.ek_st, Fk.ek_st2, Fk.ixN_0, Fk.ixN_1, Fk.ixN_2, Fk.me_app, Fk.ek_app, Fk.ty_app, Fk.ek_tyl, Fk.me_joinl, Fk.ek_join, Fk.ty_join, Fk.it_seql, Fk.it_seqt, Fk.it_seqr, Fk.it_rngn, Fk.it_rng, Fk.it_rng2, Fk.it_rev, Fk.it_revt, Fk.it_ziptl, Fk.it_zipll, Fk.it_ziptt, Fk.lk_p, Fk.sl_t, Fk.sl_l, Fk.cut_to, Fk.cut_from1, Fk.cut_1, Fk.cut_from, Fk.hl_get, Fk.hl_set, Fk.op_eqL, Fk.op_neL, Fk.op_eqT, Fk.op_neT, tyP, R.bind_ok, R.bind_ex, R.st_ok, R.st_ex, RS2.seq_nx, RS2.seq_rt, RS2.seq_ex, RS2.seq_bk, RS2.seq_ct, List.set_cons_zero, List.set_cons_succ, List.getElem?_cons_zero, List.getElem?_cons_succ, Option.map_some, reduceCtorEq, imp_self, implies_true, Bool.not_true, Bool.not_false, decide_true, decide_false, Nat.reduceAdd, Nat.reduceSub, Nat.reduceLT, Nat.reduceLeDiff, Nat.reduceEqDiff, Int.reduceLT, Int.reduceLE, Int.reduceEq, Int.reduceNeg, Int.reduceToNat, Nat.reduceBEq, and_self, true_and, and_true, Nat.reducePow, Int.reducePow, Int.reduceAdd, Int.reduceSub, Int.reduceMul, List.length_cons, List.length_nil, List.cons_append, List.nil_append, List.append_nil, a1, a2, h0, h1]
          · have := (vs_iff.mp hv).2 i _ _ hm hz; omega
        · refine .inl ⟨[.v (.p (.lst (iP ms))), .v (.p (.lst (iP zs))), .v (.p (.int (i : Int)))], L', .inl ?_, rfl, ⟨_, rfl⟩, fun j m z hji e1 e2 => ?_⟩
          · simp -implicitDefEqProofs only [b27_0, Fk.ev_var, Fk.ev_lit, Fk.ev_con, Fk.ek_ofO, Fk.ev_op, Fk.ek_op, Fk.ev_neg, Fk.ek_neg, Fk.ev_notv, Fk.ek_not, Fk.ek_not2, Fk.ev_andv, Fk.ek_and, Fk.ek_and1, Fk.ek_and0, Fk.ev_orv, Fk.ek_or, Fk.ek_or1, Fk.ek_or0, Fk.ev_chain, Fk.ek_ch, Fk.ek_ch2, Fk.ek_ch3t, Fk.ek_ch3f, Fk.ev_ite, Fk.ek_ite1, Fk.ek_ite0, Fk.ev_call, Fk.ev_bi, Fk.ek_bi1, Fk.ek_bi2, Fk.ev_me, Fk.ek_me, Fk.ek_meb, Fk.ek_me20, Fk.ek_me21, Fk.ek_me22, Fk.ev_tup, Fk.ek_tup, Fk.ek_tup2, Fk.ev_lst, Fk.ek_lst, Fk.ek_lst2, Fk.ev_trev, Fk.ek_trev, Fk.ev_lrng, Fk.ek_lrng, Fk.ev_hsum, Fk.ek_hsum, Fk.ek_hs2, Fk.ev_dct0, Fk.ev_ix, Fk.ek_ix, Fk.ev_sl, Fk.ek_sl, Fk.ek_sl2, Fk.ek_sl3, Fk.ev_fld, Fk.ek_fld, Fk.ev_isi, Fk.ek_isi, Fk.ek_blR, Fk.ev_exi, Fk.ek_exi, Fk.ev_exf, Fk.ek_exf, Fk.ev_comp, Fk.ek_comp, Fk.ek_comp3, Fk.ev_o0, Fk.ev_o1, Fk.ek_o1, Fk.ev_a0, Fk.ev_a1, Fk.ek_a, Fk.ek_a2, Fk.ev_a2, Fk.ek_exv, Fk.ev_its, Fk.ek_its1, Fk.ek_its2, Fk.ev_tand, Fk.ek_tand1, Fk.ek_tand0, Fk.ev_tor, Fk.ek_tor1, Fk.ek_tor0, Fk.ev_tnot, Fk.ek_tnot, Fk.ev_tval, Fk.ek_tval, Fk.ek_tv2, Fk.ev_tyes, Fk.ev_pass, Fk.ev_seq, Fk.ev_expr, Fk.ek_expr, Fk.ev_asg, Fk.ek_asg, Fk.ev_seti, Fk.ek_set, Fk.ek_set2, Fk.ek_set3, Fk.ek_set4, Fk.ev_ret, Fk.ek_ret, Fk.ev_retn, Fk.ev_if, Fk.ek_if1, Fk.ek_if0, Fk.ev_for, Fk.ek_for, Fk.ev_brk, Fk.ev_cont, Fk.ev_while, Fk.ev_frz, Fk.ek_frz, Fk.ek_frzp, Fk.ek_frz2, Fk.ev_raise, Fk.ek_raise, Fk.ek_raise2, Fk.ek_xp0, Fk.ek_xp1, Fk.ev_try, Fk.ek_try0, Fk.ek_tryx, Fk.ek_try1, Fk.ek_tryf, Fk.ek_endr, Fk.ek_endn, Fk.ek_endb, Fk.ek_endc, Fk.ev_forB, Fk.ev_forB2, Fk.ev_tB, Fk.ek_tB1, Fk.ek_tB0, Fk.ek_tB2, Fk.gv_0, Fk.gv_s, Fk.op_add, Fk.op_sub, Fk.op_mul, Fk.op_fdiv, Fk.op_fdivs, Fk.op_mod, Fk.op_pow, Fk.op_lt, Fk.op_le, Fk.op_gt, Fk.op_ge, Fk.op_eqi, Fk.op_eqb, Fk.op_eqs, Fk.op_nei, Fk.op_neb, Fk.op_nes, Fk.op_addl, Fk.op_addt, Fk.op_adds, Fk.tr_bl, Fk.tr_non, Fk.tr_int, Fk.tr_lst, Fk.tr_tup, Fk.va_nil, Fk.va_cons, Fk.pu_nil, Fk.pu_cons, Fk.bi_lenl, Fk.bi_lent, Fk.bi_lenr, Fk.bi_lenp, Fk.ek_lenr, Fk.bi_int, Fk.bi_min, Fk.bi_max, Fk.bi_listl, Fk.bi_listt, Fk.bi_tupl, Fk.bi_tupt, Fk.bi_tupp, Fk.ek_tupr, Fk.bi_lisp, Fk.ek_lisr, Fk.bi_str, Fk.new_f, Fk.new_t, Fk.newK_f, Fk.ix_t, Fk.ix_l, Fk.ix_r, Fk.ix_p, Fk.ek_ixr, Fk.at_0, Fk.at_1, Fk.at_2, Fk.set_l, Fk.ek_st, Fk.ek_st2, Fk.ixN_0, Fk.ixN_1, Fk.ixN_2, Fk.me_app, Fk.ek_app, Fk.ty_app, Fk.ek_tyl, Fk.me_joinl, Fk.ek_join, Fk.ty_join, Fk.it_seql, Fk.it_seqt, Fk.it_seqr, Fk.it_rngn, Fk.it_rng, Fk.it_rng2, Fk.it_rev, Fk.it_revt, Fk.it_ziptl, Fk.it_zipll, Fk.it_ziptt, Fk.lk_p, Fk.sl_t, Fk.sl_l, Fk.cut_to, Fk.cut_from1, Fk.cut_1, Fk.cut_from, Fk.hl_get, Fk.hl_set, Fk.op_eqL, Fk.op_neL, Fk.op_eqT, Fk.op_neT, tyP, R.bind_ok, R.bind_ex, R.st_ok, R.st_ex, RS2.seq_nx, RS2.seq_rt, RS2.seq_ex, RS2.seq_bk, RS2.seq_ct, List.set_cons_zero, List.set_cons_succ, List.getElem?_cons_zero, List.getElem?_cons_succ, Option.map_some, reduceCtorEq, imp_self, implies_true, Bool.not_true, Bool.not_false, decide_true, decide_false, Nat.reduceAdd, Nat.reduceSub, Nat.reduceLT, Nat.reduceLeDiff, Nat.reduceEqDiff, Int.reduceLT, Int.reduceLE, Int.reduceEq, Int.reduceNeg, Int.reduceToNat, Nat.reduceBEq, and_self, true_and, and_true, Nat.reducePow, Int.reducePow, Int.reduceAdd, Int.reduceSub, Int.reduceMul, List.length_cons, List.length_nil, List.cons_append, List.nil_append, List.append_nil, a1, a2, h0, h1]
          · by_cases hjl : j < i
            · exact hj j m z hjl e1 e2
            · have : j = i := by omega
              subst this
              rw [hm] at e1; rw [hz] at e2
              cases e1; cases e2
              exact ⟨by omega, by omega⟩
  rcases lp with ⟨t', L', e, rfl, ⟨y, rfl⟩, hj⟩ | ⟨e, hv⟩
  · rw [rng_len, Nat.zero_add] at hj
    have hv : Vs ms zs := vs_iff.mpr ⟨hl, fun i m z e1 e2 => hj i m z (List.getElem?_eq_some_iff.mp e2).1 e1 e2⟩
    simp -implicitDefEqProofs only [b27, Fk.ev_var, Fk.ev_lit, Fk.ev_con, Fk.ek_ofO, Fk.ev_op, Fk.ek_op, Fk.ev_neg, Fk.ek_neg, Fk.ev_notv, Fk.ek_not, Fk.ek_not2, Fk.ev_andv, Fk.ek_and, Fk.ek_and1, Fk.ek_and0, Fk.ev_orv, Fk.ek_or, Fk.ek_or1, Fk.ek_or0, Fk.ev_chain, Fk.ek_ch, Fk.ek_ch2, Fk.ek_ch3t, Fk.ek_ch3f, Fk.ev_ite, Fk.ek_ite1, Fk.ek_ite0, Fk.ev_call, Fk.ev_bi, Fk.ek_bi1, Fk.ek_bi2, Fk.ev_me, Fk.ek_me, Fk.ek_meb, Fk.ek_me20, Fk.ek_me21, Fk.ek_me22, Fk.ev_tup, Fk.ek_tup, Fk.ek_tup2, Fk.ev_lst, Fk.ek_lst, Fk.ek_lst2, Fk.ev_trev, Fk.ek_trev, Fk.ev_lrng, Fk.ek_lrng, Fk.ev_hsum, Fk.ek_hsum, Fk.ek_hs2, Fk.ev_dct0, Fk.ev_ix, Fk.ek_ix, Fk.ev_sl, Fk.ek_sl, Fk.ek_sl2, Fk.ek_sl3, Fk.ev_fld, Fk.ek_fld, Fk.ev_isi, Fk.ek_isi, Fk.ek_blR, Fk.ev_exi, Fk.ek_exi, Fk.ev_exf, Fk.ek_exf, Fk.ev_comp, Fk.ek_comp, Fk.ek_comp3, Fk.ev_o0, Fk.ev_o1, Fk.ek_o1, Fk.ev_a0, Fk.ev_a1, Fk.ek_a, Fk.ek_a2, Fk.ev_a2, Fk.ek_exv, Fk.ev_its, Fk.ek_its1, Fk.ek_its2, Fk.ev_tand, Fk.ek_tand1, Fk.ek_tand0, Fk.ev_tor, Fk.ek_tor1, Fk.ek_tor0, Fk.ev_tnot, Fk.ek_tnot, Fk.ev_tval, Fk.ek_tval, Fk.ek_tv2, Fk.ev_tyes, Fk.ev_pass, Fk.ev_seq, Fk.ev_expr, Fk.ek_expr, Fk.ev_asg, Fk.ek_asg, Fk.ev_seti, Fk.ek_set, Fk.ek_set2, Fk.ek_set3, Fk.ek_set4, Fk.ev_ret, Fk.ek_ret, Fk.ev_retn, Fk.ev_if, Fk.ek_if1, Fk.ek_if0, Fk.ev_for, Fk.ek_for, Fk.ev_brk, Fk.ev_cont, Fk.ev_while, Fk.ev_frz, Fk.ek_frz, Fk.ek_frzp, Fk.ek_frz2, Fk.ev_raise, Fk.ek_raise, Fk.ek_raise2, Fk.ek_xp0, Fk.ek_xp1, Fk.ev_try, Fk.ek_try0, Fk.ek_tryx, Fk.ek_try1, Fk.ek_tryf, Fk.ek_endr, Fk.ek_endn, Fk.ek_endb, Fk.ek_endc, Fk.ev_forB, Fk.ev_forB2, Fk.ev_tB, Fk.ek_tB1, Fk.ek_tB0, Fk.ek_tB2, Fk.gv_0, Fk.gv_s, Fk.op_add, Fk.op_sub, Fk.op_mul, Fk.op_fdiv, Fk.op_fdivs, Fk.op_mod, Fk.op_pow, Fk.op_lt, Fk.op_le, Fk.op_gt, Fk.op_ge, Fk.op_eqi, Fk.op_eqb, Fk.op_eqs, Fk.op_nei, Fk.op_neb, Fk.op_nes, Fk.op_addl, Fk.op_addt, Fk.op_adds, Fk.tr_bl, Fk.tr_non, Fk.tr_int, Fk.tr_lst, Fk.tr_tup, Fk.va_nil, Fk.va_cons, Fk.pu_nil, Fk.pu_cons, Fk.bi_lenl, Fk.bi_lent, Fk.bi_lenr, Fk.bi_lenp, Fk.ek_lenr, Fk.bi_int, Fk.bi_min, Fk.bi_max, Fk.bi_listl, Fk.bi_listt, Fk.bi_tupl, Fk.bi_tupt, Fk.bi_tupp, Fk.ek_tupr, Fk.bi_lisp, Fk.ek_lisr, Fk.bi_str, Fk.new_f, Fk.new_t, Fk.newK_f, Fk.ix_t, Fk.ix_l, Fk.ix_r, Fk.ix_p, Fk.ek_ixr, Fk.at_0, Fk.at_1, Fk.at_2, Fk.set_l, Fk.ek_st, Fk.ek_st2, Fk.ixN_0, Fk.ixN_1, Fk.ixN_2, Fk.me_app, Fk.ek_app, Fk.ty_app, Fk.ek_tyl, Fk.me_joinl, Fk.ek_join, Fk.ty_join, Fk.it_seql, Fk.it_seqt, Fk.it_seqr, Fk.it_rngn, Fk.it_rng, Fk.it_rng2, Fk.it_rev, Fk.it_revt, Fk.it_ziptl, Fk.it_zipll, Fk.it_ziptt, Fk.lk_p, Fk.sl_t, Fk.sl_l, Fk.cut_to, Fk.cut_from1, Fk.cut_1, Fk.cut_from, Fk.hl_get, Fk.hl_set, Fk.op_eqL, Fk.op_neL, Fk.op_eqT, Fk.op_neT, tyP, R.bind_ok, R.bind_ex, R.st_ok, R.st_ex, RS2.seq_nx, RS2.seq_rt, RS2.seq_ex, RS2.seq_bk, RS2.seq_ct, List.set_cons_zero, List.set_cons_succ, List.getElem?_cons_zero, List.getElem?_cons_succ, Option.map_some, reduceCtorEq, imp_self, implies_true, Bool.not_true, Bool.not_false, decide_true, decide_false, Nat.reduceAdd, Nat.reduceSub, Nat.reduceLT, Nat.reduceLeDiff, Nat.reduceEqDiff, Int.reduceLT, Int.reduceLE, Int.reduceEq, Int.reduceNeg, Int.reduceToNat, Nat.reduceBEq, and_self, true_and, and_true, Nat.reducePow, Int.reducePow, Int.reduceAdd, Int.reduceSub, Int.reduceMul, List.length_cons, List.length_nil, List.cons_append, List.nil_append, List.append_nil, List.length_map, r1, e, hv]
    exact en_rt rfl
  · simp -implicitDefEqProofs only [b27, Fk.ev_var, Fk.ev_lit, Fk.ev_con, Fk.ek_ofO, Fk.ev_op, Fk.ek_op, Fk.ev_neg, Fk.ek_neg, Fk.ev_notv, Fk.ek_not, Fk.ek_not2, Fk.ev_andv, Fk.ek_and, Fk.ek_and1, Fk.ek_and0, Fk.ev_orv, Fk.ek_or, Fk.ek_or1, Fk.ek_or0, Fk.ev_chain, Fk.ek_ch, Fk.ek_ch2, Fk.ek_ch3t, Fk.ek_ch3f, Fk.ev_ite, Fk.ek_ite1, Fk.ek_ite0, Fk.ev_call, Fk.ev_bi, Fk.ek_bi1, Fk.ek_bi2, Fk.ev_me, Fk.ek_me, Fk.ek_meb, Fk.ek_me20, Fk.ek_me21, Fk.ek_me22, Fk.ev_tup, Fk.ek_tup, Fk.ek_tup2, Fk.ev_lst, Fk.ek_lst, Fk.ek_lst2, Fk.ev_trev, Fk.ek_trev, Fk.ev_lrng, Fk.ek_lrng, Fk.ev_hsum, Fk.ek_hsum, Fk.ek_hs2, Fk.ev_dct0, Fk.ev_ix, Fk.ek_ix, Fk.ev_sl, Fk.ek_sl, Fk.ek_sl2, Fk.ek_sl3, Fk.ev_fld, Fk.ek_fld, Fk.ev_isi, Fk.ek_isi, Fk.ek_blR, Fk.ev_exi, Fk.ek_exi, Fk.ev_exf, Fk.ek_exf, Fk.ev_comp, Fk.ek_comp, Fk.ek_comp3, Fk.ev_o0, Fk.ev_o1, Fk.ek_o1, Fk.ev_a0, Fk.ev_a1, Fk.ek_a, Fk.ek_a2, Fk.ev_a2, Fk.ek_exv, Fk.ev_its, Fk.ek_its1, Fk.ek_its2, Fk.ev_tand, Fk.ek_tand1, Fk.ek_tand0, Fk.ev_tor, Fk.ek_tor1, Fk.ek_tor0, Fk.ev_tnot, Fk.ek_tnot, Fk.ev_tval, Fk.ek_tval, Fk.ek_tv2, Fk.ev_tyes, Fk.ev_pass, Fk.ev_seq, Fk.ev_expr, Fk.ek_expr, Fk.ev_asg, Fk.ek_asg, Fk.ev_seti, Fk.ek_set, Fk.ek_set2, Fk.ek_set3, Fk.ek_set4, Fk.ev_ret, Fk.ek_ret, Fk.ev_retn, Fk.ev_if, Fk.ek_if1, Fk.ek_if0, Fk.ev_for, Fk.ek_for, Fk.ev_brk, Fk.ev_cont, Fk.ev_while, Fk.ev_frz, Fk.ek_frz, Fk.ek_frzp, Fk.ek_frz2, Fk.ev_raise, Fk.ek_raise, Fk.ek_raise2, Fk.ek_xp0, Fk.ek_xp1, Fk.ev_try, Fk.ek_try0, Fk.ek_tryx, Fk.ek_try1, Fk.ek_tryf, Fk.ek_endr, Fk.ek_endn, Fk.ek_endb, Fk.ek_endc, Fk.ev_forB, Fk.ev_forB2, Fk.ev_tB, Fk.ek_tB1, Fk.ek_tB0, Fk.ek_tB2, Fk.gv_0, Fk.gv_s, Fk.op_add, Fk.op_sub, Fk.op_mul, Fk.op_fdiv, Fk.op_fdivs, Fk.op_mod, Fk.op_pow, Fk.op_lt, Fk.op_le, Fk.op_gt, Fk.op_ge, Fk.op_eqi, Fk.op_eqb, Fk.op_eqs, Fk.op_nei, Fk.op_neb, Fk.op_nes, Fk.op_addl, Fk.op_addt, Fk.op_adds, Fk.tr_bl, Fk.tr_non, Fk.tr_int, Fk.tr_lst, Fk.tr_tup, Fk.va_nil, Fk.va_cons, Fk.pu_nil, Fk.pu_cons, Fk.bi_lenl, Fk.bi_lent, Fk.bi_lenr, Fk.bi_lenp, Fk.ek_lenr, Fk.bi_int, Fk.bi_min, Fk.bi_max, Fk.bi_listl, Fk.bi_listt, Fk.bi_tupl, Fk.bi_tupt, Fk.bi_tupp, Fk.ek_tupr, Fk.bi_lisp, Fk.ek_lisr, Fk.bi_str, Fk.new_f, Fk.new_t, Fk.newK_f, Fk.ix_t, Fk.ix_l, Fk.ix_r, Fk.ix_p, Fk.ek_ixr, Fk.at_0, Fk.at_1, Fk.at_2, Fk.set_l, Fk.ek_st, Fk.ek_st2, Fk.ixN_0, Fk.ixN_1, Fk.ixN_2, Fk.me_app, Fk.ek_app, Fk.ty_app, Fk.ek_tyl, Fk.me_joinl, Fk.ek_join, Fk.ty_join, Fk.it_seql, Fk.it_seqt, Fk.it_seqr, Fk.it_rngn, Fk.it_rng, Fk.it_rng2, Fk.it_rev, Fk.it_revt, Fk.it_ziptl, Fk.it_zipll, Fk.it_ziptt, Fk.lk_p, Fk.sl_t, Fk.sl_l, Fk.cut_to, Fk.cut_from1, Fk.cut_1, Fk.cut_from, Fk.hl_get, Fk.hl_set, Fk.op_eqL, Fk.op_neL, Fk.op_eqT, Fk.op_neT, tyP, R.bind_ok, R.bind_ex, R.st_ok, R.st_ex, RS2.seq_nx, RS2.seq_rt, RS2.seq_ex, RS2.seq_bk, RS2.seq_ct, List.set_cons_zero, List.set_cons_succ, List.getElem?_cons_zero, List.getElem?_cons_succ, Option.map_some, reduceCtorEq, imp_self, implies_true, Bool.not_true, Bool.not_false, decide_true, decide_false, Nat.reduceAdd, Nat.reduceSub, Nat.reduceLT, Nat.reduceLeDiff, Nat.reduceEqDiff, Int.reduceLT, Int.reduceLE, Int.reduceEq, Int.reduceNeg, Int.reduceToNat, Nat.reduceBEq, and_self, true_and, and_true, Nat.reducePow, Int.reducePow, Int.reduceAdd, Int.reduceSub, Int.reduceMul, List.length_cons, List.length_nil, List.cons_append, List.nil_append, List.append_nil, List.length_map, r1, e, hv]
    exact en_rt rfl
/-! all tuples -/
def g : List Int → List Int → Int
  | r :: rs, z :: zs => (if r < 0 then 0 else if r < z then r else z) * prd zs + (if 0 ≤ r ∧ r < z then g rs zs else 0)
  | _, _ => 0
theorem g_val : ∀ {ms zs : List Int}, Vs ms zs → g ms zs = val ms zs
  | [], [], _ => rfl
  | m :: ms, z :: zs, h => by
    have h1 := h.1
    have h2 := h.2.1
    rw [g, val, if_neg (by omega), if_pos h2, if_pos ⟨h1, h2⟩, g_val h.2.2]
  | [], _ :: _, h => h.elim
  | _ :: _, [], h => h.elim
theorem g_app : ∀ {p zp : List Int} {m' z' : List Int}, p.length = zp.length → g (p ++ m') (zp ++ z') = g p zp * prd z' + (if Vs p zp then g m' z' else 0)
  | [], [], m', z', _ => by simp [g, Vs]
  | r :: rs, z :: zs, m', z', h => by
    rw [List.cons_append, List.cons_append, g, g, g_app (by simpa using h), prd_app]
    by_cases hc : 0 ≤ r ∧ r < z
    · rw [if_pos hc, if_pos hc]
      have : Vs (r :: rs) (z :: zs) ↔ Vs rs zs := ⟨fun h => h.2.2, fun h => ⟨hc.1, hc.2, h⟩⟩
      simp only [this]
      rw [Int.add_mul, Int.mul_assoc]
      omega
    · rw [if_neg hc, if_neg hc]
      have : ¬ Vs (r :: rs) (z :: zs) := fun h => hc ⟨h.1, h.2.1⟩
      rw [if_neg this, Int.add_zero, Int.add_zero, Int.add_zero, Int.mul_assoc]
  | [], _ :: _, _, _, h => by simp at h
  | _ :: _, [], _, _, h => by simp at h
theorem Ge.len : ∀ {xs ys : List Int}, Ge xs ys → xs.length = ys.length
  | [], [], _ => rfl
  | _ :: _, _ :: _, h => congrArg (· + 1) (Ge.len h.2)
  | [], _ :: _, h => h.elim
  | _ :: _, [], h => h.elim
/-- all marks are too great -/
theorem g_full : ∀ {q zq : List Int}, Ge q zq → (∀ z ∈ zq, 1 ≤ z) → g q zq + (if Vs q zq then 1 else 0) = prd zq
  | [], [], _, _ => rfl
  | x :: q, z :: zq, h, hz => by
    have h1 : z ≤ x := h.1
    have h2 := hz z List.mem_cons_self
    have nv : ¬ Vs (x :: q) (z :: zq) := fun hv => by have := hv.2.1; omega
    rw [g, if_neg (by omega), if_neg (by omega), if_neg (by omega), if_neg nv, prd]
    omega
  | [], _ :: _, h, _ => h.elim
  | _ :: _, [], h, _ => h.elim
theorem g_rep : ∀ (k : Nat) (zq : List Int), g (List.replicate k (-1)) zq = 0
  | 0, zq => by cases zq <;> rfl
  | k + 1, [] => rfl
  | k + 1, z :: zq => by rw [List.replicate_succ, g, if_pos (by decide), if_neg (by omega)]; simp
theorem step_g {zs row row' : List Int} (hz : ∀ z ∈ zs, 1 ≤ z) (hs : Stp (-1) zs row row') (hb : ∀ r ∈ row, -1 ≤ r) (hn : ¬ Ge row zs) : g row' zs = g row zs + (if Vs row zs then 1 else 0) := by
  rcases hs with ⟨p, x, q, pm, y, qm, rfl, rfl, lp, lq, hxy, hg, rfl⟩ | ⟨hg, _⟩
  · have hzq : ∀ z ∈ qm, 1 ≤ z := fun z h => hz z (by simp [h])
    have hx := hb x (by simp)
    have hp := prd_pos hzq
    have gf := g_full hg hzq
    rw [g_app lp, g_app lp]
    by_cases hv : Vs p pm
    · rw [if_pos hv, if_pos hv, g, g, g_rep, if_neg (show ¬ x + 1 < 0 by omega)]
      have e2 : (if 0 ≤ x + 1 ∧ x + 1 < y then (0 : Int) else 0) = 0 := by split <;> rfl
      rw [e2]
      have e3 : (if x + 1 < y then x + 1 else y) = x + 1 := by split <;> omega
      rw [e3]
      by_cases h0 : x < 0
      · have nv : ¬ Vs (p ++ x :: q) (pm ++ y :: qm) := fun h => by have := (Vs.split lp h).2.1; omega
        rw [if_pos h0, if_neg (by omega), if_neg nv, show x + 1 = 0 by omega]
        exact (Int.add_zero _).symm
      · rw [if_neg h0, if_pos hxy, if_pos ⟨by omega, hxy⟩]
        have ev : Vs (p ++ x :: q) (pm ++ y :: qm) ↔ Vs q qm := ⟨fun h => (Vs.split lp h).2.2.2, fun h => Vs.app hv ⟨by omega, hxy, h⟩⟩
        simp only [ev]
        rw [Int.add_mul, ← gf]
        omega
    · have nv : ¬ Vs (p ++ x :: q) (pm ++ y :: qm) := fun h => hv (Vs.split lp h).1
      rw [if_neg hv, if_neg hv, if_neg nv]
      omega
  · exact absurd hg hn
theorem Ge.shift {k : Int} : ∀ {xs ys : List Int}, Ge xs ys → Ge (xs.map (· + k)) (ys.map (· + k))
  | [], [], _ => trivial
  | x :: xs, y :: ys, h => ⟨by have := h.1; show y + k ≤ x + k; omega, h.2.shift⟩
  | [], _ :: _, h => h.elim
  | _ :: _, [], h => h.elim
theorem Stp.shift {l k : Int} {most row row' : List Int} (h : Stp l most row row') : Stp (l + k) (most.map (· + k)) (row.map (· + k)) (row'.map (· + k)) := by
  rcases h with ⟨p, x, q, pm, y, qm, rfl, rfl, lp, lq, hxy, hg, rfl⟩ | ⟨hg, rfl⟩
  · refine .inl ⟨p.map (· + k), x + k, q.map (· + k), pm.map (· + k), y + k, qm.map (· + k), by simp, by simp, by simpa using lp, by simpa using lq, by omega, hg.shift, ?_⟩
    simp only [List.map_append, List.map_cons, List.map_replicate, List.length_map]
    rw [show x + 1 + k = x + k + 1 by omega]
  · exact .inr ⟨hg.shift, by simp⟩
theorem vs_box {row zs : List Int} (h : Vs (row.map (· + 1)) (zs.map (· + 2))) : ∀ r ∈ row, -1 ≤ r := fun r hr => by
  obtain ⟨i, hi⟩ := List.getElem?_of_mem hr
  have hl := h.len
  simp at hl
  have hlt := (List.getElem?_eq_some_iff.mp hi).1
  have := (vs_iff.mp h).2 i (r + 1) (zs[i]'(by omega) + 2) (by rw [List.getElem?_map, hi]; rfl) (by rw [List.getElem?_map, List.getElem?_eq_getElem (by omega)]; rfl)
  omega
theorem ge_box : ∀ {row zs : List Int}, Vs (row.map (· + 1)) (zs.map (· + 2)) → Ge row zs → val (row.map (· + 1)) (zs.map (· + 2)) = prd (zs.map (· + 2)) - 1 := fun {row zs} h hg => by
  refine val_full h ?_
  have := hg.shift (k := 1)
  rw [List.map_map]
  have e : ((fun x : Int => x - 1) ∘ fun x => x + 2) = fun x => x + 1 := by funext x; show x + 2 - 1 = x + 1; omega
  rw [e]; exact this
theorem pk_none : ∀ {ms zs : List Int} (a : Int), ms.length = zs.length → ¬ Vs ms zs → pk (iP ms) zs a = none
  | [], [], _, _, h => absurd trivial h
  | m :: ms, z :: zs, a, hl, h => by
    rw [iP, List.map_cons, pk]
    split
    · rename_i hc
      exact pk_none _ (by simpa using hl) fun hv => h ⟨hc.1, hc.2, hv⟩
    · rfl
  | [], _ :: _, _, h, _ => by simp at h
  | _ :: _, [], _, h, _ => by simp at h
theorem mm2 : ∀ zs : List Int, (zs.map (· + 2)).map (· - 1) = zs.map (· + 1)
  | [] => rfl
  | z :: zs => by
    rw [List.map_cons, List.map_cons, mm2 zs, List.map_cons, show z + 2 - 1 = z + 1 by omega]
theorem all_tuples_ok {n : Nat} {zs : List Int} {L : Hl} (hz : Sz zs) (h700 : prd (zs.map (· + 2)) ≤ 700) (hz2 : Sz (zs.map (· + 2))) (hc : Clo L) :
    run S (n + 4) 26 [.v (.p (.lst (iP zs)))] L = .ok (.p (.bl true)) L := by
  rw [r26_1]
  have hz1 : ∀ z ∈ zs, 1 ≤ z := fun z h => (hz.2 z h).1
  have hp := prd_pos fun z hz' => (hz2.2 z hz').1
  obtain ⟨N, hN⟩ : ∃ N : Nat, prd (zs.map (· + 2)) = (N : Int) := ⟨(prd (zs.map (· + 2))).toNat, by omega⟩
  have r1 : Rb N := Nat.le_trans (show N ≤ 700 by omega) (by decide)
  have ls : (iP zs).length ≤ sizeLine := by rw [iP, List.length_map]; exact Nat.le_trans hz.1 (by decide)
  have pr := product_ok (n := n + 2) (L := L) hz
  have pr2 := product_ok (n := n + 2) (L := L) hz2
  have c1 : compL (tB (run S (n + 3)) (cnOf S) [.v (.p (.lst (iP zs))), .u, .u, .u, .u, .u] [1] (.gn 1) .tyes (.neg (.lit (.int 1)))) L.length (iP zs) (L ++ [.lst []]) = .ok () (L ++ [.lst ((iP zs).map fun _ => .int (-1))]) := comp_all _ (fun x _ acc => by simp -implicitDefEqProofs only [Fk.ev_var, Fk.ev_lit, Fk.ev_con, Fk.ek_ofO, Fk.ev_op, Fk.ek_op, Fk.ev_neg, Fk.ek_neg, Fk.ev_notv, Fk.ek_not, Fk.ek_not2, Fk.ev_andv, Fk.ek_and, Fk.ek_and1, Fk.ek_and0, Fk.ev_orv, Fk.ek_or, Fk.ek_or1, Fk.ek_or0, Fk.ev_chain, Fk.ek_ch, Fk.ek_ch2, Fk.ek_ch3t, Fk.ek_ch3f, Fk.ev_ite, Fk.ek_ite1, Fk.ek_ite0, Fk.ev_call, Fk.ev_bi, Fk.ek_bi1, Fk.ek_bi2, Fk.ev_me, Fk.ek_me, Fk.ek_meb, Fk.ek_me20, Fk.ek_me21, Fk.ek_me22, Fk.ev_tup, Fk.ek_tup, Fk.ek_tup2, Fk.ev_lst, Fk.ek_lst, Fk.ek_lst2, Fk.ev_trev, Fk.ek_trev, Fk.ev_lrng, Fk.ek_lrng, Fk.ev_hsum, Fk.ek_hsum, Fk.ek_hs2, Fk.ev_dct0, Fk.ev_ix, Fk.ek_ix, Fk.ev_sl, Fk.ek_sl, Fk.ek_sl2, Fk.ek_sl3, Fk.ev_fld, Fk.ek_fld, Fk.ev_isi, Fk.ek_isi, Fk.ek_blR, Fk.ev_exi, Fk.ek_exi, Fk.ev_exf, Fk.ek_exf, Fk.ev_comp, Fk.ek_comp, Fk.ek_comp3, Fk.ev_o0, Fk.ev_o1, Fk.ek_o1, Fk.ev_a0, Fk.ev_a1, Fk.ek_a, Fk.ek_a2, Fk.ev_a2, Fk.ek_exv, Fk.ev_its, Fk.ek_its1, Fk.ek_its2, Fk.ev_tand, Fk.ek_tand1, Fk.ek_tand0, Fk.ev_tor, Fk.ek_tor1, Fk.ek_tor0, Fk.ev_tnot, Fk.ek_tnot, Fk.ev_tval, Fk.ek_tval, Fk.ek_tv2, Fk.ev_tyes, Fk.ev_pass, Fk.ev_seq, Fk.ev_expr, Fk.ek_expr, Fk.ev_asg, Fk.ek_asg, Fk.ev_seti, Fk.ek_set, Fk.ek_set2, Fk.ek_set3, Fk.ek_set4, Fk.ev_ret, Fk.ek_ret, Fk.ev_retn, Fk.ev_if, Fk.ek_if1, Fk.ek_if0, Fk.ev_for, Fk.ek_for, Fk.ev_brk, Fk.ev_cont, Fk.ev_while, Fk.ev_frz, Fk.ek_frz, Fk.ek_frzp, Fk.ek_frz2, Fk.ev_raise, Fk.ek_raise, Fk.ek_raise2, Fk.ek_xp0, Fk.ek_xp1, Fk.ev_try, Fk.ek_try0, Fk.ek_tryx, Fk.ek_try1, Fk.ek_tryf, Fk.ek_endr, Fk.ek_endn, Fk.ek_endb, Fk.ek_endc, Fk.ev_forB, Fk.ev_forB2, Fk.ev_tB, Fk.ek_tB1, Fk.ek_tB0, Fk.ek_tB2, Fk.gv_0, Fk.gv_s, Fk.op_add, Fk.op_sub, Fk.op_mul, Fk.op_fdiv, Fk.op_fdivs, Fk.op_mod, Fk.op_pow, Fk.op_lt, Fk.op_le, Fk.op_gt, Fk.op_ge, Fk.op_eqi, Fk.op_eqb, Fk.op_eqs, Fk.op_nei, Fk.op_neb, Fk.op_nes, Fk.op_addl, Fk.op_addt, Fk.op_adds, Fk.tr_bl, Fk.tr_non, Fk.tr_int, Fk.tr_lst, Fk.tr_tup, Fk.va_nil, Fk.va_cons, Fk.pu_nil, Fk.pu_cons, Fk.bi_lenl, Fk.bi_lent, Fk.bi_lenr, Fk.bi_lenp, Fk.ek_lenr, Fk.bi_int, Fk.bi_min, Fk.bi_max, Fk.bi_listl, Fk.bi_listt, Fk.bi_tupl, Fk.bi_tupt, Fk.bi_tupp, Fk.ek_tupr, Fk.bi_lisp, Fk.ek_lisr, Fk.bi_str, Fk.new_f, Fk.new_t, Fk.newK_f, Fk.ix_t, Fk.ix_l, Fk.ix_r, Fk.ix_p, Fk.ek_ixr, Fk.at_0, Fk.at_1, Fk.at_2, Fk.set_l, Fk.ek_st, Fk.ek_st2, Fk.ixN_0, Fk.ixN_1, Fk.ixN_2, Fk.me_app, Fk.ek_app, Fk.ty_app, Fk.ek_tyl, Fk.me_joinl, Fk.ek_join, Fk.ty_join, Fk.it_seql, Fk.it_seqt, Fk.it_seqr, Fk.it_rngn, Fk.it_rng, Fk.it_rng2, Fk.it_rev, Fk.it_revt, Fk.it_ziptl, Fk.it_zipll, Fk.it_ziptt, Fk.lk_p, Fk.sl_t, Fk.sl_l, Fk.cut_to, Fk.cut_from1, Fk.cut_1, Fk.cut_from, Fk.hl_get, Fk.hl_set, Fk.op_eqL, Fk.op_neL, Fk.op_eqT, Fk.op_neT, tyP, R.bind_ok, R.bind_ex, R.st_ok, R.st_ex, RS2.seq_nx, RS2.seq_rt, RS2.seq_ex, RS2.seq_bk, RS2.seq_ct, List.set_cons_zero, List.set_cons_succ, List.getElem?_cons_zero, List.getElem?_cons_succ, Option.map_some, reduceCtorEq, imp_self, implies_true, Bool.not_true, Bool.not_false, decide_true, decide_false, Nat.reduceAdd, Nat.reduceSub, Nat.reduceLT, Nat.reduceLeDiff, Nat.reduceEqDiff, Int.reduceLT, Int.reduceLE, Int.reduceEq, Int.reduceNeg, Int.reduceToNat, Nat.reduceBEq, and_self, true_and, and_true, Nat.reducePow, Int.reducePow, Int.reduceAdd, Int.reduceSub, Int.reduceMul, List.length_cons, List.length_nil, List.cons_append, List.nil_append, List.append_nil, wipeS]) ls
  have c2 : compL (tB (run S (n + 3)) (cnOf S) [.v (.p (.lst (iP zs))), .u, .v (.p (.lst ((iP zs).map fun _ => .int (-1)))), .v (.p (.int 0)), .u, .u] [1] (.gn 1) .tyes (.op (.add false) (.var 1) (.lit (.int 2)))) L.length (iP zs) (L ++ [.lst []]) = .ok () (L ++ [.lst ((iP zs).map fun x => match x with | .int i => .int (i + 2) | x => x)]) := comp_all _ (fun x hx acc => by
    obtain ⟨i, _, rfl⟩ := List.mem_map.mp hx
    simp -implicitDefEqProofs only [Fk.ev_var, Fk.ev_lit, Fk.ev_con, Fk.ek_ofO, Fk.ev_op, Fk.ek_op, Fk.ev_neg, Fk.ek_neg, Fk.ev_notv, Fk.ek_not, Fk.ek_not2, Fk.ev_andv, Fk.ek_and, Fk.ek_and1, Fk.ek_and0, Fk.ev_orv, Fk.ek_or, Fk.ek_or1, Fk.ek_or0, Fk.ev_chain, Fk.ek_ch, Fk.ek_ch2, Fk.ek_ch3t, Fk.ek_ch3f, Fk.ev_ite, Fk.ek_ite1, Fk.ek_ite0, Fk.ev_call, Fk.ev_bi, Fk.ek_bi1, Fk.ek_bi2, Fk.ev_me, Fk.ek_me, Fk.ek_meb, Fk.ek_me20, Fk.ek_me21, Fk.ek_me22, Fk.ev_tup, Fk.ek_tup, Fk.ek_tup2, Fk.ev_lst, Fk.ek_lst, Fk.ek_lst2, Fk.ev_trev, Fk.ek_trev, Fk.ev_lrng, Fk.ek_lrng, Fk.ev_hsum, Fk.ek_hsum, Fk.ek_hs2, Fk.ev_dct0, Fk.ev_ix, Fk.ek_ix, Fk.ev_sl, Fk.ek_sl, Fk.ek_sl2, Fk.ek_sl3, Fk.ev_fld, Fk.ek_fld, Fk.ev_isi, Fk.ek_isi, Fk.ek_blR, Fk.ev_exi, Fk.ek_exi, Fk.ev_exf, Fk.ek_exf, Fk.ev_comp, Fk.ek_comp, Fk.ek_comp3, Fk.ev_o0, Fk.ev_o1, Fk.ek_o1, Fk.ev_a0, Fk.ev_a1, Fk.ek_a, Fk.ek_a2, Fk.ev_a2, Fk.ek_exv, Fk.ev_its, Fk.ek_its1, Fk.ek_its2, Fk.ev_tand, Fk.ek_tand1, Fk.ek_tand0, Fk.ev_tor, Fk.ek_tor1, Fk.ek_tor0, Fk.ev_tnot, Fk.ek_tnot, Fk.ev_tval, Fk.ek_tval, Fk.ek_tv2, Fk.ev_tyes, Fk.ev_pass, Fk.ev_seq, Fk.ev_expr, Fk.ek_expr, Fk.ev_asg, Fk.ek_asg, Fk.ev_seti, Fk.ek_set, Fk.ek_set2, Fk.ek_set3, Fk.ek_set4, Fk.ev_ret, Fk.ek_ret, Fk.ev_retn, Fk.ev_if, Fk.ek_if1, Fk.ek_if0, Fk.ev_for, Fk.ek_for, Fk.ev_brk, Fk.ev_cont, Fk.ev_while, Fk.ev_frz, Fk.ek_frz, Fk.ek_frzp, Fk.ek_frz2, Fk.ev_raise, Fk.ek_raise, Fk.ek_raise2, Fk.ek_xp0, Fk.ek_xp1, Fk.ev_try, Fk.ek_try0, Fk.ek_tryx, Fk.ek_try1, Fk.ek_tryf, Fk.ek_endr, Fk.ek_endn, Fk.ek_endb, Fk.ek_endc, Fk.ev_forB, Fk.ev_forB2, Fk.ev_tB, Fk.ek_tB1, Fk.ek_tB0, Fk.ek_tB2, Fk.gv_0, Fk.gv_s, Fk.op_add, Fk.op_sub, Fk.op_mul, Fk.op_fdiv, Fk.op_fdivs, Fk.op_mod, Fk.op_pow, Fk.op_lt, Fk.op_le, Fk.op_gt, Fk.op_ge, Fk.op_eqi, Fk.op_eqb, Fk.op_eqs, Fk.op_nei, Fk.op_neb, Fk.op_nes, Fk.op_addl, Fk.op_addt, Fk.op_adds, Fk.tr_bl, Fk.tr_non, Fk.tr_int, Fk.tr_lst, Fk.tr_tup, Fk.va_nil, Fk.va_cons, Fk.pu_nil, Fk.pu_cons, Fk.bi_lenl, Fk.bi_lent, Fk.bi_lenr, Fk.bi_lenp, Fk.ek_lenr, Fk.bi_int, Fk.bi_min, Fk.bi_max, Fk.bi_listl, Fk.bi_listt, Fk.bi_tupl, Fk.bi_tupt, Fk.bi_tupp, Fk.ek_tupr, Fk.bi_lisp, Fk.ek_lisr, Fk.bi_str, Fk.new_f, Fk.new_t, Fk.newK_f, Fk.ix_t, Fk.ix_l, Fk.ix_r, Fk.ix_p, Fk.ek_ixr, Fk.at_0, Fk.at_1, Fk.at_2, Fk.set_l, Fk.ek_st, Fk.ek_st2, Fk.ixN_0, Fk.ixN_1, Fk.ixN_2, Fk.me_app, Fk.ek_app, Fk.ty_app, Fk.ek_tyl, Fk.me_joinl, Fk.ek_join, Fk.ty_join, Fk.it_seql, Fk.it_seqt, Fk.it_seqr, Fk.it_rngn, Fk.it_rng, Fk.it_rng2, Fk.it_rev, Fk.it_revt, Fk.it_ziptl, Fk.it_zipll, Fk.it_ziptt, Fk.lk_p, Fk.sl_t, Fk.sl_l, Fk.cut_to, Fk.cut_from1, Fk.cut_1, Fk.cut_from, Fk.hl_get, Fk.hl_set, Fk.op_eqL, Fk.op_neL, Fk.op_eqT, Fk.op_neT, tyP, R.bind_ok, R.bind_ex, R.st_ok, R.st_ex, RS2.seq_nx, RS2.seq_rt, RS2.seq_ex, RS2.seq_bk, RS2.seq_ct, List.set_cons_zero, List.set_cons_succ, List.getElem?_cons_zero, List.getElem?_cons_succ, Option.map_some, reduceCtorEq, imp_self, implies_true, Bool.not_true, Bool.not_false, decide_true, decide_false, Nat.reduceAdd, Nat.reduceSub, Nat.reduceLT, Nat.reduceLeDiff, Nat.reduceEqDiff, Int.reduceLT, Int.reduceLE, Int.reduceEq, Int.reduceNeg, Int.reduceToNat, Nat.reduceBEq, and_self, true_and, and_true, Nat.reducePow, Int.reducePow, Int.reduceAdd, Int.reduceSub, Int.reduceMul, List.length_cons, List.length_nil, List.cons_append, List.nil_append, List.append_nil, wipeS]) ls
  have e1 : (iP zs).map (fun _ => P.int (-1)) = iP (List.replicate zs.length (-1)) := by
    simp only [iP, List.map_map, List.map_replicate]
    exact List.map_const' ..
  have e2 : ((iP zs).map fun x => match x with | .int i => P.int (i + 2) | x => x) = iP (zs.map (· + 2)) := by simp [iP]
  rw [e1] at c1 c2
  rw [e2] at c2
  have e0 : (List.replicate zs.length (-1 : Int)).map (· + 1) = List.replicate (zs.map (· + 2)).length 0 := by simp
  have lp := for_all (b := forB (run S (n + 3)) (cnOf S) (.gn 4) b26_0) (xs := rangeP 0 N) (t := [.v (.p (.lst (iP zs))), .u, .v (.p (.lst (iP (List.replicate zs.length (-1))))), .v (.p (.int 0)), .u, .u]) (L := L)
    (fun k t L' => L' = L ∧ ∃ row num y y', t = [.v (.p (.lst (iP zs))), .u, .v (.p (.lst (iP row))), .v (.p (.int num)), y, y'] ∧ row.length = zs.length ∧ (k < N → Vs (row.map (· + 1)) (zs.map (· + 2)) ∧ val (row.map (· + 1)) (zs.map (· + 2)) = k ∧ num = g row zs) ∧ (k = N → num = prd zs))
    ⟨rfl, _, _, _, _, rfl, by simp, fun _ => ⟨by rw [e0]; exact vs_rep fun z hz' => (hz2.2 z hz').1, by rw [e0]; exact val_rep _, by rw [g_rep]⟩, fun h => by omega⟩
    fun k x t L' hx hJ => by
      obtain ⟨rfl, row, num, y, y', rfl, hl, hk, _⟩ := hJ
      obtain ⟨rfl, hi⟩ := rng_get hx
      obtain ⟨hv, hval, rfl⟩ := hk hi
      obtain ⟨row', hs, e⟩ := step_ok (n := n + 2) (least := -1) (row := row) (most := zs) (L := L') hl (by rw [hl]; exact hz.1) hc
      have is := isstate_ok (n := n + 2) (L := L') hl hz.1
      have hs2 : Stp 0 ((zs.map (· + 2)).map (· - 1)) (row.map (· + 1)) (row'.map (· + 1)) := by
        have := hs.shift (k := 1)
        rw [mm2]; exact this
      have next : (k + 1 < N → Vs (row'.map (· + 1)) (zs.map (· + 2)) ∧ val (row'.map (· + 1)) (zs.map (· + 2)) = ((k + 1 : Nat) : Int) ∧ g row zs + (if Vs row zs then 1 else 0) = g row' zs) ∧ (k + 1 = N → g row zs + (if Vs row zs then 1 else 0) = prd zs) := by
        refine ⟨fun h => ?_, fun h => ?_⟩
        · have := step_val hs2 hv (by omega)
          refine ⟨this.1, by rw [this.2, hval]; omega, (step_g hz1 hs (vs_box hv) fun hg => ?_).symm⟩
          have := ge_box hv hg
          omega
        · refine g_full ?_ hz1
          rcases hs2 with ⟨p, x, q, pm, y, qm, h1, h2, h3, h4, h5, h6, _⟩ | ⟨hg, _⟩
          · exfalso
            have hb := step_val (.inl ⟨p, x, q, pm, y, qm, h1, h2, h3, h4, h5, h6, rfl⟩) hv
            have e3 := val_lt hv
            -- a greater state would follow
            obtain ⟨zp, z', q1, q2, q3⟩ := List.map_eq_append_iff.mp h2
            obtain ⟨z, zq, q4, q5, q6⟩ := List.map_eq_cons_iff.mp q3
            subst q2; subst q4; subst q5; subst q6
            rw [q1, h1] at hv hval
            have lp' : p.length = zp.length := by simpa using h3
            obtain ⟨v1, v2, v3, v4⟩ := Vs.split lp' hv
            have big : Vs (p ++ (x + 1) :: q) (zp ++ z :: zq) := Vs.app v1 ⟨by omega, by omega, v4⟩
            have bl := (val_lt big).2
            have hq := prd_pos v4.pos
            rw [val_app lp', val, Int.add_mul] at bl
            rw [val_app lp', val] at hval
            rw [← q1] at bl
            omega
          · rw [mm2] at hg
            have hg' := hg.shift (k := -1)
            have e5 : ∀ l : List Int, (l.map (· + 1)).map (· + -1) = l := fun l => by
              rw [List.map_map]
              have : ((fun x : Int => x + -1) ∘ fun x => x + 1) = id := by funext x; show x + 1 + -1 = x; omega
              rw [this, List.map_id]
            rw [e5, e5] at hg'
            exact hg'
      by_cases hvs : Vs row zs
      · rw [if_pos hvs] at next
        have pko := pack_ok (n := n + 1) (L := L') hz hvs
        rw [← g_val hvs] at pko
        have i1 := isint_ok (n := n + 2) (i := g row zs) (L := L')
        refine ⟨[.v (.p (.lst (iP zs))), .u, .v (.p (.lst (iP row'))), .v (.p (.int (g row zs + 1))), .v (.p (.int (k : Int))), .v (.p (.int (g row zs)))], L', ?_, rfl, row', _, _, _, rfl, by rw [hs.len, hl], next.1, next.2⟩
        simp -implicitDefEqProofs only [b26_0, Fk.ev_var, Fk.ev_lit, Fk.ev_con, Fk.ek_ofO, Fk.ev_op, Fk.ek_op, Fk.ev_neg, Fk.ek_neg, Fk.ev_notv, Fk.ek_not, Fk.ek_not2, Fk.ev_andv, Fk.ek_and, Fk.ek_and1, Fk.ek_and0, Fk.ev_orv, Fk.ek_or, Fk.ek_or1, Fk.ek_or0, Fk.ev_chain, Fk.ek_ch, Fk.ek_ch2, Fk.ek_ch3t, Fk.ek_ch3f, Fk.ev_ite, Fk.ek_ite1, Fk.ek_ite0, Fk.ev_call, Fk.ev_bi, Fk.ek_bi1, Fk.ek_bi2, Fk.ev_me, Fk.ek_me, Fk.ek_meb, Fk.ek_me20, Fk.ek_me21, Fk.ek_me22, Fk.ev_tup, Fk.ek_tup, Fk.ek_tup2, Fk.ev_lst, Fk.ek_lst, Fk.ek_lst2, Fk.ev_trev, Fk.ek_trev, Fk.ev_lrng, Fk.ek_lrng, Fk.ev_hsum, Fk.ek_hsum, Fk.ek_hs2, Fk.ev_dct0, Fk.ev_ix, Fk.ek_ix, Fk.ev_sl, Fk.ek_sl, Fk.ek_sl2, Fk.ek_sl3, Fk.ev_fld, Fk.ek_fld, Fk.ev_isi, Fk.ek_isi, Fk.ek_blR, Fk.ev_exi, Fk.ek_exi, Fk.ev_exf, Fk.ek_exf, Fk.ev_comp, Fk.ek_comp, Fk.ek_comp3, Fk.ev_o0, Fk.ev_o1, Fk.ek_o1, Fk.ev_a0, Fk.ev_a1, Fk.ek_a, Fk.ek_a2, Fk.ev_a2, Fk.ek_exv, Fk.ev_its, Fk.ek_its1, Fk.ek_its2, Fk.ev_tand, Fk.ek_tand1, Fk.ek_tand0, Fk.ev_tor, Fk.ek_tor1, Fk.ek_tor0, Fk.ev_tnot, Fk.ek_tnot, Fk.ev_tval, Fk.ek_tval, Fk.ek_tv2, Fk.ev_tyes, Fk.ev_pass, Fk.ev_seq, Fk.ev_expr, Fk.ek_expr, Fk.ev_asg, Fk.ek_asg, Fk.ev_seti, Fk.ek_set, Fk.ek_set2, Fk.ek_set3, Fk.ek_set4, Fk.ev_ret, Fk.ek_ret, Fk.ev_retn, Fk.ev_if, Fk.ek_if1, Fk.ek_if0, Fk.ev_for, Fk.ek_for, Fk.ev_brk, Fk.ev_cont, Fk.ev_while, Fk.ev_frz, Fk.ek_frz, Fk.ek_frzp, Fk.ek_frz2, Fk.ev_raise, Fk.ek_raise, Fk.ek_raise2, Fk.ek_xp0, Fk.ek_xp1, Fk.ev_try, Fk.ek_try0, Fk.ek_tryx, Fk.ek_try1, Fk.ek_tryf, Fk.ek_endr, Fk.ek_endn, Fk.ek_endb, Fk.ek_endc, Fk.ev_forB, Fk.ev_forB2, Fk.ev_tB, Fk.ek_tB1, Fk.ek_tB0, Fk.ek_tB2, Fk.gv_0, Fk.gv_s, Fk.op_add, Fk.op_sub, Fk.op_mul, Fk.op_fdiv, Fk.op_fdivs, Fk.op_mod, Fk.op_pow, Fk.op_lt, Fk.op_le, Fk.op_gt, Fk.op_ge, Fk.op_eqi, Fk.op_eqb, Fk.op_eqs, Fk.op_nei, Fk.op_neb, Fk.op_nes, Fk.op_addl, Fk.op_addt, Fk.op_adds, Fk.tr_bl, Fk.tr_non, Fk.tr_int, Fk.tr_lst, Fk.tr_tup, Fk.va_nil, Fk.va_cons, Fk.pu_nil, Fk.pu_cons, Fk.bi_lenl, Fk.bi_lent, Fk.bi_lenr, Fk.bi_lenp, Fk.ek_lenr, Fk.bi_int, Fk.bi_min, Fk.bi_max, Fk.bi_listl, Fk.bi_listt, Fk.bi_tupl, Fk.bi_tupt, Fk.bi_tupp, Fk.ek_tupr, Fk.bi_lisp, Fk.ek_lisr, Fk.bi_str, Fk.new_f, Fk.new_t, Fk.newK_f, Fk.ix_t, Fk.ix_l, Fk.ix_r, Fk.ix_p, Fk.ek_ixr, Fk.at_0, Fk.at_1, Fk.at_2, Fk.set_l, Fk.ek_st, Fk.ek_st2, Fk.ixN_0, Fk.ixN_1, Fk.ixN_2, Fk.me_app, Fk.ek_app, Fk.ty_app, Fk.ek_tyl, Fk.me_joinl, Fk.ek_join, Fk.ty_join, Fk.it_seql, Fk.it_seqt, Fk.it_seqr, Fk.it_rngn, Fk.it_rng, Fk.it_rng2, Fk.it_rev, Fk.it_revt, Fk.it_ziptl, Fk.it_zipll, Fk.it_ziptt, Fk.lk_p, Fk.sl_t, Fk.sl_l, Fk.cut_to, Fk.cut_from1, Fk.cut_1, Fk.cut_from, Fk.hl_get, Fk.hl_set, Fk.op_eqL, Fk.op_neL, Fk.op_eqT, Fk.op_neT, tyP, R.bind_ok, R.bind_ex, R.st_ok, R.st_ex, RS2.seq_nx, RS2.seq_rt, RS2.seq_ex, RS2.seq_bk, RS2.seq_ct, List.set_cons_zero, List.set_cons_succ, List.getElem?_cons_zero, List.getElem?_cons_succ, Option.map_some, reduceCtorEq, imp_self, implies_true, Bool.not_true, Bool.not_false, decide_true, decide_false, Nat.reduceAdd, Nat.reduceSub, Nat.reduceLT, Nat.reduceLeDiff, Nat.reduceEqDiff, Int.reduceLT, Int.reduceLE, Int.reduceEq, Int.reduceNeg, Int.reduceToNat, Nat.reduceBEq, and_self, true_and, and_true, Nat.reducePow, Int.reducePow, Int.reduceAdd, Int.reduceSub, Int.reduceMul, List.length_cons, List.length_nil, List.cons_append, List.nil_append, List.append_nil, is, hvs, pko, i1, e]
      · rw [if_neg hvs, Int.add_zero] at next
        have pt := pack_tup (n := n) (L := L') hz (typ_ip row) (by rw [iP, List.length_map]; exact hl)
        rw [pk_none 0 hl hvs] at pt
        have rf := refused_0 (n := n) pt
        refine ⟨[.v (.p (.lst (iP zs))), .u, .v (.p (.lst (iP row'))), .v (.p (.int (g row zs))), .v (.p (.int (k : Int))), y'], L', ?_, rfl, row', _, _, _, rfl, by rw [hs.len, hl], next.1, next.2⟩
        simp -implicitDefEqProofs only [b26_0, Fk.ev_var, Fk.ev_lit, Fk.ev_con, Fk.ek_ofO, Fk.ev_op, Fk.ek_op, Fk.ev_neg, Fk.ek_neg, Fk.ev_notv, Fk.ek_not, Fk.ek_not2, Fk.ev_andv, Fk.ek_and, Fk.ek_and1, Fk.ek_and0, Fk.ev_orv, Fk.ek_or, Fk.ek_or1, Fk.ek_or0, Fk.ev_chain, Fk.ek_ch, Fk.ek_ch2, Fk.ek_ch3t, Fk.ek_ch3f, Fk.ev_ite, Fk.ek_ite1, Fk.ek_ite0, Fk.ev_call, Fk.ev_bi, Fk.ek_bi1, Fk.ek_bi2, Fk.ev_me, Fk.ek_me, Fk.ek_meb, Fk.ek_me20, Fk.ek_me21, Fk.ek_me22, Fk.ev_tup, Fk.ek_tup, Fk.ek_tup2, Fk.ev_lst, Fk.ek_lst, Fk.ek_lst2, Fk.ev_trev, Fk.ek_trev, Fk.ev_lrng, Fk.ek_lrng, Fk.ev_hsum, Fk.ek_hsum, Fk.ek_hs2, Fk.ev_dct0, Fk.ev_ix, Fk.ek_ix, Fk.ev_sl, Fk.ek_sl, Fk.ek_sl2, Fk.ek_sl3, Fk.ev_fld, Fk.ek_fld, Fk.ev_isi, Fk.ek_isi, Fk.ek_blR, Fk.ev_exi, Fk.ek_exi, Fk.ev_exf, Fk.ek_exf, Fk.ev_comp, Fk.ek_comp, Fk.ek_comp3, Fk.ev_o0, Fk.ev_o1, Fk.ek_o1, Fk.ev_a0, Fk.ev_a1, Fk.ek_a, Fk.ek_a2, Fk.ev_a2, Fk.ek_exv, Fk.ev_its, Fk.ek_its1, Fk.ek_its2, Fk.ev_tand, Fk.ek_tand1, Fk.ek_tand0, Fk.ev_tor, Fk.ek_tor1, Fk.ek_tor0, Fk.ev_tnot, Fk.ek_tnot, Fk.ev_tval, Fk.ek_tval, Fk.ek_tv2, Fk.ev_tyes, Fk.ev_pass, Fk.ev_seq, Fk.ev_expr, Fk.ek_expr, Fk.ev_asg, Fk.ek_asg, Fk.ev_seti, Fk.ek_set, Fk.ek_set2, Fk.ek_set3, Fk.ek_set4, Fk.ev_ret, Fk.ek_ret, Fk.ev_retn, Fk.ev_if, Fk.ek_if1, Fk.ek_if0, Fk.ev_for, Fk.ek_for, Fk.ev_brk, Fk.ev_cont, Fk.ev_while, Fk.ev_frz, Fk.ek_frz, Fk.ek_frzp, Fk.ek_frz2, Fk.ev_raise, Fk.ek_raise, Fk.ek_raise2, Fk.ek_xp0, Fk.ek_xp1, Fk.ev_try, Fk.ek_try0, Fk.ek_tryx, Fk.ek_try1, Fk.ek_tryf, Fk.ek_endr, Fk.ek_endn, Fk.ek_endb, Fk.ek_endc, Fk.ev_forB, Fk.ev_forB2, Fk.ev_tB, Fk.ek_tB1, Fk.ek_tB0, Fk.ek_tB2, Fk.gv_0, Fk.gv_s, Fk.op_add, Fk.op_sub, Fk.op_mul, Fk.op_fdiv, Fk.op_fdivs, Fk.op_mod, Fk.op_pow, Fk.op_lt, Fk.op_le, Fk.op_gt, Fk.op_ge, Fk.op_eqi, Fk.op_eqb, Fk.op_eqs, Fk.op_nei, Fk.op_neb, Fk.op_nes, Fk.op_addl, Fk.op_addt, Fk.op_adds, Fk.tr_bl, Fk.tr_non, Fk.tr_int, Fk.tr_lst, Fk.tr_tup, Fk.va_nil, Fk.va_cons, Fk.pu_nil, Fk.pu_cons, Fk.bi_lenl, Fk.bi_lent, Fk.bi_lenr, Fk.bi_lenp, Fk.ek_lenr, Fk.bi_int, Fk.bi_min, Fk.bi_max, Fk.bi_listl, Fk.bi_listt, Fk.bi_tupl, Fk.bi_tupt, Fk.bi_tupp, Fk.ek_tupr, Fk.bi_lisp, Fk.ek_lisr, Fk.bi_str, Fk.new_f, Fk.new_t, Fk.newK_f, Fk.ix_t, Fk.ix_l, Fk.ix_r, Fk.ix_p, Fk.ek_ixr, Fk.at_0, Fk.at_1, Fk.at_2, Fk.set_l, Fk.ek_st, Fk.ek_st2, Fk.ixN_0, Fk.ixN_1, Fk.ixN_2, Fk.me_app, Fk.ek_app, Fk.ty_app, Fk.ek_tyl, Fk.me_joinl, Fk.ek_join, Fk.ty_join, Fk.it_seql, Fk.it_seqt, Fk.it_seqr, Fk.it_rngn, Fk.it_rng, Fk.it_rng2, Fk.it_rev, Fk.it_revt, Fk.it_ziptl, Fk.it_zipll, Fk.it_ziptt, Fk.lk_p, Fk.sl_t, Fk.sl_l, Fk.cut_to, Fk.cut_from1, Fk.cut_1, Fk.cut_from, Fk.hl_get, Fk.hl_set, Fk.op_eqL, Fk.op_neL, Fk.op_eqT, Fk.op_neT, tyP, R.bind_ok, R.bind_ex, R.st_ok, R.st_ex, RS2.seq_nx, RS2.seq_rt, RS2.seq_ex, RS2.seq_bk, RS2.seq_ct, List.set_cons_zero, List.set_cons_succ, List.getElem?_cons_zero, List.getElem?_cons_succ, Option.map_some, reduceCtorEq, imp_self, implies_true, Bool.not_true, Bool.not_false, decide_true, decide_false, Nat.reduceAdd, Nat.reduceSub, Nat.reduceLT, Nat.reduceLeDiff, Nat.reduceEqDiff, Int.reduceLT, Int.reduceLE, Int.reduceEq, Int.reduceNeg, Int.reduceToNat, Nat.reduceBEq, and_self, true_and, and_true, Nat.reducePow, Int.reducePow, Int.reduceAdd, Int.reduceSub, Int.reduceMul, List.length_cons, List.length_nil, List.cons_append, List.nil_append, List.append_nil, is, hvs, rf, e]
  obtain ⟨t', L', e, rfl, row, num, y, y', rfl, _, _, hnum⟩ := lp
  rw [rng_len] at hnum
  have := hnum rfl
  subst this
  simp -implicitDefEqProofs only [b26, Fk.ev_var, Fk.ev_lit, Fk.ev_con, Fk.ek_ofO, Fk.ev_op, Fk.ek_op, Fk.ev_neg, Fk.ek_neg, Fk.ev_notv, Fk.ek_not, Fk.ek_not2, Fk.ev_andv, Fk.ek_and, Fk.ek_and1, Fk.ek_and0, Fk.ev_orv, Fk.ek_or, Fk.ek_or1, Fk.ek_or0, Fk.ev_chain, Fk.ek_ch, Fk.ek_ch2, Fk.ek_ch3t, Fk.ek_ch3f, Fk.ev_ite, Fk.ek_ite1, Fk.ek_ite0, Fk.ev_call, Fk.ev_bi, Fk.ek_bi1, Fk.ek_bi2, Fk.ev_me, Fk.ek_me, Fk.ek_meb, Fk.ek_me20, Fk.ek_me21, Fk.ek_me22, Fk.ev_tup, Fk.ek_tup, Fk.ek_tup2, Fk.ev_lst, Fk.ek_lst, Fk.ek_lst2, Fk.ev_trev, Fk.ek_trev, Fk.ev_lrng, Fk.ek_lrng, Fk.ev_hsum, Fk.ek_hsum, Fk.ek_hs2, Fk.ev_dct0, Fk.ev_ix, Fk.ek_ix, Fk.ev_sl, Fk.ek_sl, Fk.ek_sl2, Fk.ek_sl3, Fk.ev_fld, Fk.ek_fld, Fk.ev_isi, Fk.ek_isi, Fk.ek_blR, Fk.ev_exi, Fk.ek_exi, Fk.ev_exf, Fk.ek_exf, Fk.ev_comp, Fk.ek_comp, Fk.ek_comp3, Fk.ev_o0, Fk.ev_o1, Fk.ek_o1, Fk.ev_a0, Fk.ev_a1, Fk.ek_a, Fk.ek_a2, Fk.ev_a2, Fk.ek_exv, Fk.ev_its, Fk.ek_its1, Fk.ek_its2, Fk.ev_tand, Fk.ek_tand1, Fk.ek_tand0, Fk.ev_tor, Fk.ek_tor1, Fk.ek_tor0, Fk.ev_tnot, Fk.ek_tnot, Fk.ev_tval, Fk.ek_tval, Fk.ek_tv2, Fk.ev_tyes, Fk.ev_pass, Fk.ev_seq, Fk.ev_expr, Fk.ek_expr, Fk.ev_asg, Fk.ek_asg, Fk.ev_seti, Fk.ek_set, Fk.ek_set2, Fk.ek_set3, Fk.ek_set4, Fk.ev_ret, Fk.ek_ret, Fk.ev_retn, Fk.ev_if, Fk.ek_if1, Fk.ek_if0, Fk.ev_for, Fk.ek_for, Fk.ev_brk, Fk.ev_cont, Fk.ev_while, Fk.ev_frz, Fk.ek_frz, Fk.ek_frzp, Fk.ek_frz2, Fk.ev_raise, Fk.ek_raise, Fk.ek_raise2, Fk.ek_xp0, Fk.ek_xp1, Fk.ev_try, Fk.ek_try0, Fk.ek_tryx, Fk.ek_try1, Fk.ek_tryf, Fk.ek_endr, Fk.ek_endn, Fk.ek_endb, Fk.ek_endc, Fk.ev_forB, Fk.ev_forB2, Fk.ev_tB, Fk.ek_tB1, Fk.ek_tB0, Fk.ek_tB2, Fk.gv_0, Fk.gv_s, Fk.op_add, Fk.op_sub, Fk.op_mul, Fk.op_fdiv, Fk.op_fdivs, Fk.op_mod, Fk.op_pow, Fk.op_lt, Fk.op_le, Fk.op_gt, Fk.op_ge, Fk.op_eqi, Fk.op_eqb, Fk.op_eqs, Fk.op_nei, Fk.op_neb, Fk.op_nes, Fk.op_addl, Fk.op_addt, Fk.op_adds, Fk.tr_bl, Fk.tr_non, Fk.tr_int, Fk.tr_lst, Fk.tr_tup, Fk.va_nil, Fk.va_cons, Fk.pu_nil, Fk.pu_cons, Fk.bi_lenl, Fk.bi_lent, Fk.bi_lenr, Fk.bi_lenp, Fk.ek_lenr, Fk.bi_int, Fk.bi_min, Fk.bi_max, Fk.bi_listl, Fk.bi_listt, Fk.bi_tupl, Fk.bi_tupt, Fk.bi_tupp, Fk.ek_tupr, Fk.bi_lisp, Fk.ek_lisr, Fk.bi_str, Fk.new_f, Fk.new_t, Fk.newK_f, Fk.ix_t, Fk.ix_l, Fk.ix_r, Fk.ix_p, Fk.ek_ixr, Fk.at_0, Fk.at_1, Fk.at_2, Fk.set_l, Fk.ek_st, Fk.ek_st2, Fk.ixN_0, Fk.ixN_1, Fk.ixN_2, Fk.me_app, Fk.ek_app, Fk.ty_app, Fk.ek_tyl, Fk.me_joinl, Fk.ek_join, Fk.ty_join, Fk.it_seql, Fk.it_seqt, Fk.it_seqr, Fk.it_rngn, Fk.it_rng, Fk.it_rng2, Fk.it_rev, Fk.it_revt, Fk.it_ziptl, Fk.it_zipll, Fk.it_ziptt, Fk.lk_p, Fk.sl_t, Fk.sl_l, Fk.cut_to, Fk.cut_from1, Fk.cut_1, Fk.cut_from, Fk.hl_get, Fk.hl_set, Fk.op_eqL, Fk.op_neL, Fk.op_eqT, Fk.op_neT, tyP, R.bind_ok, R.bind_ex, R.st_ok, R.st_ex, RS2.seq_nx, RS2.seq_rt, RS2.seq_ex, RS2.seq_bk, RS2.seq_ct, List.set_cons_zero, List.set_cons_succ, List.getElem?_cons_zero, List.getElem?_cons_succ, Option.map_some, reduceCtorEq, imp_self, implies_true, Bool.not_true, Bool.not_false, decide_true, decide_false, Nat.reduceAdd, Nat.reduceSub, Nat.reduceLT, Nat.reduceLeDiff, Nat.reduceEqDiff, Int.reduceLT, Int.reduceLE, Int.reduceEq, Int.reduceNeg, Int.reduceToNat, Nat.reduceBEq, and_self, true_and, and_true, Nat.reducePow, Int.reducePow, Int.reduceAdd, Int.reduceSub, Int.reduceMul, List.length_cons, List.length_nil, List.cons_append, List.nil_append, List.append_nil, c1, c2, comp_end hc, pr, pr2, hN, r1, e]
  exact en_rt rfl
end Lw

set_option Elab.async false
set_option linter.all false
set_option autoImplicit false
set_option maxRecDepth 100000
set_option maxHeartbeats 2000000
namespace Lw
open PySem PySem.Spec PyProof.Rows L2 Fk
theorem shorter_ok {n : Nat} {zs : List Int} {L : Hl} (hz : Sz zs) (hc : Clo L) :
    ∃ sh : List Int, prd (sh.map (· + 2)) ≤ 700 ∧ (∀ z ∈ sh, z ∈ zs) ∧ sh.length ≤ zs.length ∧ run S (n + 1) 28 [.v (.p (.lst (iP zs)))] L = .ok (.p (.lst (iP sh))) L := by
  rw [r28_1]
  have lp := for_all (b := forB (run S n) (cnOf S) (.gn 3) b28_0) (xs := iP zs) (t := [.v (.p (.lst (iP zs))), .v (.ref L.length), .v (.p (.int 1)), .u]) (L := L ++ [.lst []])
    (fun i t L' => ∃ sh y, prd (sh.map (· + 2)) ≤ 700 ∧ (∀ z ∈ sh, z ∈ zs) ∧ sh.length ≤ i ∧ L' = L ++ [.lst (iP sh)] ∧ t = [.v (.p (.lst (iP zs))), .v (.ref L.length), .v (.p (.int (prd (sh.map (· + 2))))), y])
    ⟨[], _, by decide, by simp, by simp, rfl, rfl⟩
    fun i x t L' hx hJ => by
      obtain ⟨sh, y, h1, h2, h3, rfl, rfl⟩ := hJ
      obtain ⟨z, hzi, rfl⟩ : ∃ z, zs[i]? = some z ∧ x = .int z := by
        rw [iP, List.getElem?_map] at hx
        cases hq : zs[i]? with
        | none => rw [hq] at hx; cases hx
        | some z => rw [hq] at hx; exact ⟨z, rfl, by cases hx; rfl⟩
      have hzm : z ∈ zs := List.mem_of_getElem? hzi
      have hi := (List.getElem?_eq_some_iff.mp hzi).1
      have hz1 := hz.2 z hzm
      have hp := prd_pos (zs := sh.map (· + 2)) fun w hw => by
        obtain ⟨u, hu, rfl⟩ := List.mem_map.mp hw
        have := (hz.2 u (h2 u hu)).1; omega
      have gm := mul_lt (i := prd (sh.map (· + 2))) (j := z + 2) 41 41 (by omega) (by omega) (by decide) (by decide) (by decide)
      have al : (iP sh).length < sizeLine := by
        have := hz.1
        rw [iP, List.length_map]
        exact Nat.lt_of_lt_of_le (show sh.length < 1000 by omega) (by decide)
      by_cases hc7 : prd (sh.map (· + 2)) * (z + 2) ≤ 700
      · refine ⟨[.v (.p (.lst (iP zs))), .v (.ref L.length), .v (.p (.int (prd (sh.map (· + 2)) * (z + 2)))), .v (.p (.int z))], L ++ [.lst (iP sh ++ [.int z])], ?_, sh ++ [z], .v (.p (.int z)), ?_, ?_, by simp; omega, by simp [iP], ?_⟩
        · simp -implicitDefEqProofs only [b28_0, Fk.ev_var, Fk.ev_lit, Fk.ev_con, Fk.ek_ofO, Fk.ev_op, Fk.ek_op, Fk.ev_neg, Fk.ek_neg, Fk.ev_notv, Fk.ek_not, Fk.ek_not2, Fk.ev_andv, Fk.ek_and, Fk.ek_and1, Fk.ek_and0, Fk.ev_orv, Fk.ek_or, Fk.ek_or1, Fk.ek_or0, Fk.ev_chain, Fk.ek_ch, Fk.ek_ch2, Fk.ek_ch3t, Fk.ek_ch3f, Fk.ev_ite, Fk.ek_ite1, Fk.ek_ite0, Fk.ev_call, Fk.ev_bi, Fk.ek_bi1, Fk.ek_bi2, Fk.ev_me, Fk.ek_me, Fk.ek_meb, Fk.ek_me20, Fk.ek_me21, Fk.ek_me22, Fk.ev_tup, Fk.ek_tup, Fk.ek_tup2, Fk.ev_lst, Fk.ek_lst, Fk.ek_lst2, Fk.ev_trev, Fk.ek_trev, Fk.ev_lrng, Fk.ek_lrng, Fk.ev_hsum, Fk.ek_hsum, Fk.ek_hs2, Fk.ev_dct0, Fk.ev_ix, Fk.ek_ix, Fk.ev_sl, Fk.ek_sl, Fk.ek_sl2, Fk.ek_sl3, Fk.ev_fld, Fk.ek_fld, Fk.ev_isi, Fk.ek_isi, Fk.ek_blR, Fk.ev_exi, Fk.ek_exi, Fk.ev_exf, Fk.ek_exf, Fk.ev_comp, Fk.ek_comp, Fk.ek_comp3, Fk.ev_o0, Fk.ev_o1, Fk.ek_o1, Fk.ev_a0, Fk.ev_a1, Fk.ek_a, Fk.ek_a2, Fk.ev_a2, Fk.ek_exv, Fk.ev_its, Fk.ek_its1, Fk.ek_its2, Fk.ev_tand, Fk.ek_tand1, Fk.ek_tand0, Fk.ev_tor, Fk.ek_tor1, Fk.ek_tor0, Fk.ev_tnot, Fk.ek_tnot, Fk.ev_tval, Fk.ek_tval, Fk.ek_tv2, Fk.ev_tyes, Fk.ev_pass, Fk.ev_seq, Fk.ev_expr, Fk.ek_expr, Fk.ev_asg, Fk.ek_asg, Fk.ev_seti, Fk.ek_set, Fk.ek_set2, Fk.ek_set3, Fk.ek_set4, Fk.ev_ret, Fk.ek_ret, Fk.ev_retn, Fk.ev_if, Fk.ek_if1, Fk.ek_if0, Fk.ev_for, Fk.ek_for, Fk.ev_brk, Fk.ev_cont, Fk.ev_while, Fk.ev_frz, Fk.ek_frz, Fk.ek_frzp, Fk.ek_frz2, Fk.ev_raise, Fk.ek_raise, Fk.ek_raise2, Fk.ek_xp0, Fk.ek_xp1, Fk.ev_try, Fk.ek_try0, Fk.ek_tryx, Fk.ek_try1, Fk.ek_tryf, Fk.ek_endr, Fk.ek_endn, Fk.ek_endb, Fk.ek_endc, Fk.ev_forB, Fk.ev_forB2, Fk.ev_tB, Fk.ek_tB1, Fk.ek_tB0, Fk.ek_tB2, Fk.gv_0, Fk.gv_s, Fk.op_add, Fk.op_sub, Fk.op_mul, Fk.op_fdiv, Fk.op_fdivs, Fk.op_mod, Fk.op_pow, Fk.op_lt, Fk.op_le, Fk.op_gt, Fk.op_ge, Fk.op_eqi, Fk.op_eqb, Fk.op_eqs, Fk.op_nei, Fk.op_neb, Fk.op_nes, Fk.op_addl, Fk.op_addt, Fk.op_adds, Fk.tr_bl, Fk.tr_non, Fk.tr_int, Fk.tr_lst, Fk.tr_tup, Fk.va_nil, Fk.va_cons, Fk.pu_nil, Fk.pu_cons, Fk.bi_lenl, Fk.bi_lent, Fk.bi_lenr, Fk.bi_lenp, Fk.ek_lenr, Fk.bi_int, Fk.bi_min, Fk.bi_max, Fk.bi_listl, Fk.bi_listt, Fk.bi_tupl, Fk.bi_tupt, Fk.bi_tupp, Fk.ek_tupr, Fk.bi_lisp, Fk.ek_lisr, Fk.bi_str, Fk.new_f, Fk.new_t, Fk.newK_f, Fk.ix_t, Fk.ix_l, Fk.ix_r, Fk.ix_p, Fk.ek_ixr, Fk.at_0, Fk.at_1, Fk.at_2, Fk.set_l, Fk.ek_st, Fk.ek_st2, Fk.ixN_0, Fk.ixN_1, Fk.ixN_2, Fk.me_app, Fk.ek_app, Fk.ty_app, Fk.ek_tyl, Fk.me_joinl, Fk.ek_join, Fk.ty_join, Fk.it_seql, Fk.it_seqt, Fk.it_seqr, Fk.it_rngn, Fk.it_rng, Fk.it_rng2, Fk.it_rev, Fk.it_revt, Fk.it_ziptl, Fk.it_zipll, Fk.it_ziptt, Fk.lk_p, Fk.sl_t, Fk.sl_l, Fk.cut_to, Fk.cut_from1, Fk.cut_1, Fk.cut_from, Fk.hl_get, Fk.hl_set, Fk.op_eqL, Fk.op_neL, Fk.op_eqT, Fk.op_neT, tyP, R.bind_ok, R.bind_ex, R.st_ok, R.st_ex, RS2.seq_nx, RS2.seq_rt, RS2.seq_ex, RS2.seq_bk, RS2.seq_ct, List.set_cons_zero, List.set_cons_succ, List.getElem?_cons_zero, List.getElem?_cons_succ, Option.map_some, reduceCtorEq, imp_self, implies_true, Bool.not_true, Bool.not_false, decide_true, decide_false, Nat.reduceAdd, Nat.reduceSub, Nat.reduceLT, Nat.reduceLeDiff, Nat.reduceEqDiff, Int.reduceLT, Int.reduceLE, Int.reduceEq, Int.reduceNeg, Int.reduceToNat, Nat.reduceBEq, and_self, true_and, and_true, Nat.reducePow, Int.reducePow, Int.reduceAdd, Int.reduceSub, Int.reduceMul, List.length_cons, List.length_nil, List.cons_append, List.nil_append, List.append_nil, gm, hc7, al]
        · rw [List.map_append, prd_app]; simpa [prd] using hc7
        · intro w hw
          rcases List.mem_append.mp hw with hw | hw
          · exact h2 w hw
          · rw [List.mem_singleton.mp hw]; exact hzm
        · rw [List.map_append, prd_app]; simp [prd]
      · refine ⟨[.v (.p (.lst (iP zs))), .v (.ref L.length), .v (.p (.int (prd (sh.map (· + 2))))), .v (.p (.int z))], L ++ [.lst (iP sh)], ?_, sh, .v (.p (.int z)), h1, h2, by omega, rfl, rfl⟩
        simp -implicitDefEqProofs only [b28_0, Fk.ev_var, Fk.ev_lit, Fk.ev_con, Fk.ek_ofO, Fk.ev_op, Fk.ek_op, Fk.ev_neg, Fk.ek_neg, Fk.ev_notv, Fk.ek_not, Fk.ek_not2, Fk.ev_andv, Fk.ek_and, Fk.ek_and1, Fk.ek_and0, Fk.ev_orv, Fk.ek_or, Fk.ek_or1, Fk.ek_or0, Fk.ev_chain, Fk.ek_ch, Fk.ek_ch2, Fk.ek_ch3t, Fk.ek_ch3f, Fk.ev_ite, Fk.ek_ite1, Fk.ek_ite0, Fk.ev_call, Fk.ev_bi, Fk.ek_bi1, Fk.ek_bi2, Fk.ev_me, Fk.ek_me, Fk.ek_meb, Fk.ek_me20, Fk.ek_me21, Fk.ek_me22, Fk.ev_tup, Fk.ek_tup, Fk.ek_tup2, Fk.ev_lst, Fk.ek_lst, Fk.ek_lst2, Fk.ev_trev, Fk.ek_trev, Fk.ev_lrng, Fk.ek_lrng, Fk.ev_hsum, Fk.ek_hsum, Fk.ek_hs2, Fk.ev_dct0, Fk.ev_ix, Fk.ek_ix, Fk.ev_sl, Fk.ek_sl, Fk.ek_sl2, Fk.ek_sl3, Fk.ev_fld, Fk.ek_fld, Fk.ev_isi, Fk.ek_isi, Fk.ek_blR, Fk.ev_exi, Fk.ek_exi, Fk.ev_exf, Fk.ek_exf, Fk.ev_comp, Fk.ek_comp, Fk.ek_comp3, Fk.ev_o0, Fk.ev_o1, Fk.ek_o1, Fk.ev_a0, Fk.ev_a1, Fk.ek_a, Fk.ek_a2, Fk.ev_a2, Fk.ek_exv, Fk.ev_its, Fk.ek_its1, Fk.ek_its2, Fk.ev_tand, Fk.ek_tand1, Fk.ek_tand0, Fk.ev_tor, Fk.ek_tor1, Fk.ek_tor0, Fk.ev_tnot, Fk.ek_tnot, Fk.ev_tval, Fk.ek_tval, Fk.ek_tv2, Fk.ev_tyes, Fk.ev_pass, Fk.ev_seq, Fk.ev_expr, Fk.ek_expr, Fk.ev_asg, Fk.ek_asg, Fk.ev_seti, Fk.ek_set, Fk.ek_set2, Fk.ek_set3, Fk.ek_set4, Fk.ev_ret, Fk.ek_ret, Fk.ev_retn, Fk.ev_if, Fk.ek_if1, Fk.ek_if0, Fk.ev_for, Fk.ek_for, Fk.ev_brk, Fk.ev_cont, Fk.ev_while, Fk.ev_frz, Fk.ek_frz, Fk.ek_frzp, Fk.ek_frz2, Fk.ev_raise, Fk.ek_raise, Fk.ek_raise2, Fk.ek_xp0, Fk.ek_xp1, Fk.ev_try, Fk.ek_try0, Fk.ek_tryx, Fk.ek_try1, Fk.ek_tryf, Fk.ek_endr, Fk.ek_endn, Fk.ek_endb, Fk.ek_endc, Fk.ev_forB, Fk.ev_forB2, Fk.ev_tB, Fk.ek_tB1, Fk.ek_tB0, Fk.ek_tB2, Fk.gv_0, Fk.gv_s, Fk.op_add, Fk.op_sub, Fk.op_mul, Fk.op_fdiv, Fk.op_fdivs, Fk.op_mod, Fk.op_pow, Fk.op_lt, Fk.op_le, Fk.op_gt, Fk.op_ge, Fk.op_eqi, Fk.op_eqb, Fk.op_eqs, Fk.op_nei, Fk.op_neb, Fk.op_nes, Fk.op_addl, Fk.op_addt, Fk.op_adds, Fk.tr_bl, Fk.tr_non, Fk.tr_int, Fk.tr_lst, Fk.tr_tup, Fk.va_nil, Fk.va_cons, Fk.pu_nil, Fk.pu_cons, Fk.bi_lenl, Fk.bi_lent, Fk.bi_lenr, Fk.bi_lenp, Fk.ek_lenr, Fk.bi_int, Fk.bi_min, Fk.bi_max, Fk.bi_listl, Fk.bi_listt, Fk.bi_tupl, Fk.bi_tupt, Fk.bi_tupp, Fk.ek_tupr, Fk.bi_lisp, Fk.ek_lisr, Fk.bi_str, Fk.new_f, Fk.new_t, Fk.newK_f, Fk.ix_t, Fk.ix_l, Fk.ix_r, Fk.ix_p, Fk.ek_ixr, Fk.at_0, Fk.at_1, Fk.at_2, Fk.set_l, Fk.ek_st, Fk.ek_st2, Fk.ixN_0, Fk.ixN_1, Fk.ixN_2, Fk.me_app, Fk.ek_app, Fk.ty_app, Fk.ek_tyl, Fk.me_joinl, Fk.ek_join, Fk.ty_join, Fk.it_seql, Fk.it_seqt, Fk.it_seqr, Fk.it_rngn, Fk.it_rng, Fk.it_rng2, Fk.it_rev, Fk.it_revt, Fk.it_ziptl, Fk.it_zipll, Fk.it_ziptt, Fk.lk_p, Fk.sl_t, Fk.sl_l, Fk.cut_to, Fk.cut_from1, Fk.cut_1, Fk.cut_from, Fk.hl_get, Fk.hl_set, Fk.op_eqL, Fk.op_neL, Fk.op_eqT, Fk.op_neT, tyP, R.bind_ok, R.bind_ex, R.st_ok, R.st_ex, RS2.seq_nx, RS2.seq_rt, RS2.seq_ex, RS2.seq_bk, RS2.seq_ct, List.set_cons_zero, List.set_cons_succ, List.getElem?_cons_zero, List.getElem?_cons_succ, Option.map_some, reduceCtorEq, imp_self, implies_true, Bool.not_true, Bool.not_false, decide_true, decide_false, Nat.reduceAdd, Nat.reduceSub, Nat.reduceLT, Nat.reduceLeDiff, Nat.reduceEqDiff, Int.reduceLT, Int.reduceLE, Int.reduceEq, Int.reduceNeg, Int.reduceToNat, Nat.reduceBEq, and_self, true_and, and_true, Nat.reducePow, Int.reducePow, Int.reduceAdd, Int.reduceSub, Int.reduceMul, List.length_cons, List.length_nil, List.cons_append, List.nil_append, List.append_nil, gm, hc7, al]
  obtain ⟨t', L', e, sh, y, h1, h2, h3, rfl, rfl⟩ := lp
  refine ⟨sh, h1, h2, by simpa using h3, ?_⟩
  simp -implicitDefEqProofs only [b28, Fk.ev_var, Fk.ev_lit, Fk.ev_con, Fk.ek_ofO, Fk.ev_op, Fk.ek_op, Fk.ev_neg, Fk.ek_neg, Fk.ev_notv, Fk.ek_not, Fk.ek_not2, Fk.ev_andv, Fk.ek_and, Fk.ek_and1, Fk.ek_and0, Fk.ev_orv, Fk.ek_or, Fk.ek_or1, Fk.ek_or0, Fk.ev_chain, Fk.ek_ch, Fk.ek_ch2, Fk.ek_ch3t, Fk.ek_ch3f, Fk.ev_ite, Fk.ek_ite1, Fk.ek_ite0, Fk.ev_call, Fk.ev_bi, Fk.ek_bi1, Fk.ek_bi2, Fk.ev_me, Fk.ek_me, Fk.ek_meb, Fk.ek_me20, Fk.ek_me21, Fk.ek_me22, Fk.ev_tup, Fk.ek_tup, Fk.ek_tup2, Fk.ev_lst, Fk.ek_lst, Fk.ek_lst2, Fk.ev_trev, Fk.ek_trev, Fk.ev_lrng, Fk.ek_lrng, Fk.ev_hsum, Fk.ek_hsum, Fk.ek_hs2, Fk.ev_dct0, Fk.ev_ix, Fk.ek_ix, Fk.ev_sl, Fk.ek_sl, Fk.ek_sl2, Fk.ek_sl3, Fk.ev_fld, Fk.ek_fld, Fk.ev_isi, Fk.ek_isi, Fk.ek_blR, Fk.ev_exi, Fk.ek_exi, Fk.ev_exf, Fk.ek_exf, Fk.ev_comp, Fk.ek_comp, Fk.ek_comp3, Fk.ev_o0, Fk.ev_o1, Fk.ek_o1, Fk.ev_a0, Fk.ev_a1, Fk.ek_a, Fk.ek_a2, Fk.ev_a2, Fk.ek_exv, Fk.ev_its, Fk.ek_its1, Fk.ek_its2, Fk.ev_tand, Fk.ek_tand1, Fk.ek_tand0, Fk.ev_tor, Fk.ek_tor1, Fk.ek_tor0, Fk.ev_tnot, Fk.ek_tnot, Fk.ev_tval, Fk.ek_tval, Fk.ek_tv2, Fk.ev_tyes, Fk.ev_pass, Fk.ev_seq, Fk.ev_expr, Fk.ek_expr, Fk.ev_asg, Fk.ek_asg, Fk.ev_seti, Fk.ek_set, Fk.ek_set2, Fk.ek_set3, Fk.ek_set4, Fk.ev_ret, Fk.ek_ret, Fk.ev_retn, Fk.ev_if, Fk.ek_if1, Fk.ek_if0, Fk.ev_for, Fk.ek_for, Fk.ev_brk, Fk.ev_cont, Fk.ev_while, Fk.ev_frz, Fk.ek_frz, Fk.ek_frzp, Fk.ek_frz2, Fk.ev_raise, Fk.ek_raise, Fk.ek_raise2, Fk.ek_xp0, Fk.ek_xp1, Fk.ev_try, Fk.ek_try0, Fk.ek_tryx, Fk.ek_try1, Fk.ek_tryf, Fk.ek_endr, Fk.ek_endn, Fk.ek_endb, Fk.ek_endc, Fk.ev_forB, Fk.ev_forB2, Fk.ev_tB, Fk.ek_tB1, Fk.ek_tB0, Fk.ek_tB2, Fk.gv_0, Fk.gv_s, Fk.op_add, Fk.op_sub, Fk.op_mul, Fk.op_fdiv, Fk.op_fdivs, Fk.op_mod, Fk.op_pow, Fk.op_lt, Fk.op_le, Fk.op_gt, Fk.op_ge, Fk.op_eqi, Fk.op_eqb, Fk.op_eqs, Fk.op_nei, Fk.op_neb, Fk.op_nes, Fk.op_addl, Fk.op_addt, Fk.op_adds, Fk.tr_bl, Fk.tr_non, Fk.tr_int, Fk.tr_lst, Fk.tr_tup, Fk.va_nil, Fk.va_cons, Fk.pu_nil, Fk.pu_cons, Fk.bi_lenl, Fk.bi_lent, Fk.bi_lenr, Fk.bi_lenp, Fk.ek_lenr, Fk.bi_int, Fk.bi_min, Fk.bi_max, Fk.bi_listl, Fk.bi_listt, Fk.bi_tupl, Fk.bi_tupt, Fk.bi_tupp, Fk.ek_tupr, Fk.bi_lisp, Fk.ek_lisr, Fk.bi_str, Fk.new_f, Fk.new_t, Fk.newK_f, Fk.ix_t, Fk.ix_l, Fk.ix_r, Fk.ix_p, Fk.ek_ixr, Fk.at_0, Fk.at_1, Fk.at_2, Fk.set_l, Fk.ek_st, Fk.ek_st2, Fk.ixN_0, Fk.ixN_1, Fk.ixN_2, Fk.me_app, Fk.ek_app, Fk.ty_app, Fk.ek_tyl, Fk.me_joinl, Fk.ek_join, Fk.ty_join, Fk.it_seql, Fk.it_seqt, Fk.it_seqr, Fk.it_rngn, Fk.it_rng, Fk.it_rng2, Fk.it_rev, Fk.it_revt, Fk.it_ziptl, Fk.it_zipll, Fk.it_ziptt, Fk.lk_p, Fk.sl_t, Fk.sl_l, Fk.cut_to, Fk.cut_from1, Fk.cut_1, Fk.cut_from, Fk.hl_get, Fk.hl_set, Fk.op_eqL, Fk.op_neL, Fk.op_eqT, Fk.op_neT, tyP, R.bind_ok, R.bind_ex, R.st_ok, R.st_ex, RS2.seq_nx, RS2.seq_rt, RS2.seq_ex, RS2.seq_bk, RS2.seq_ct, List.set_cons_zero, List.set_cons_succ, List.getElem?_cons_zero, List.getElem?_cons_succ, Option.map_some, reduceCtorEq, imp_self, implies_true, Bool.not_true, Bool.not_false, decide_true, decide_false, Nat.reduceAdd, Nat.reduceSub, Nat.reduceLT, Nat.reduceLeDiff, Nat.reduceEqDiff, Int.reduceLT, Int.reduceLE, Int.reduceEq, Int.reduceNeg, Int.reduceToNat, Nat.reduceBEq, and_self, true_and, and_true, Nat.reducePow, Int.reducePow, Int.reduceAdd, Int.reduceSub, Int.reduceMul, List.length_cons, List.length_nil, List.cons_append, List.nil_append, List.append_nil, e, Nat.zero_le]
  exact en_rtN hc
/-! what pack refuses -/
def Bad (x : P) (zs : List Int) : Prop := ∀ (n : Nat) (L : Hl), run S (n + 2) 9 [.v (.p x), .v (.p (.lst (iP zs)))] L = .ex 11 [] L
theorem pk_mid : ∀ {ms zs : List Int} {j : Nat} {x : P} {a z : Int}, Vs ms zs → zs[j]? = some z → okm x z = false → pk ((iP ms).take j ++ x :: (iP ms).drop (j + 1)) zs a = none
  | [], [], _, _, _, _, _, h, _ => by simp at h
  | m :: ms, z' :: zs, 0, x, a, z, _, h, ho => by
    simp only [List.getElem?_cons_zero, Option.some.injEq] at h
    subst h
    rw [List.take_zero, List.nil_append, pk_step]
    cases x <;> first | rfl | skip
    dsimp only
    rw [ho, if_neg (by decide)]
  | m :: ms, z' :: zs, j + 1, x, a, z, hv, h, ho => by
    simp only [iP, List.map_cons, List.take_succ_cons, List.drop_succ_cons, List.cons_append, pk]
    rw [if_pos ⟨hv.1, hv.2.1⟩]
    exact pk_mid hv.2.2 (by simpa using h) ho
  | [], _ :: _, _, _, _, _, h, _, _ => h.elim
  | _ :: _, [], _, _, _, _, h, _, _ => h.elim
theorem bad_mid {ms zs : List Int} {j : Nat} {x : P} {z : Int} (hz : Sz zs) (hv : Vs ms zs) (hj : zs[j]? = some z) (ht : (tyP x .int).isSome = true) (ho : okm x z = false) : Bad (.tup ((iP ms).take j ++ [x] ++ (iP ms).drop (j + 1))) zs := fun n L => by
  have hlt := (List.getElem?_eq_some_iff.mp hj).1
  have hl := hv.len
  rw [List.append_assoc, List.cons_append, List.nil_append]
  have := pack_tup (n := n) (L := L) (ms := (iP ms).take j ++ x :: (iP ms).drop (j + 1)) hz (fun m hm => by
    rcases List.mem_append.mp hm with hm | hm
    · exact typ_ip ms m (List.mem_of_mem_take hm)
    · rcases List.mem_cons.mp hm with rfl | hm
      · exact ht
      · exact typ_ip ms m (List.mem_of_mem_drop hm)) (by simp [iP]; omega)
  rw [pk_mid hv hj ho] at this
  exact this
theorem bad_refused {n : Nat} {x : P} {zs : List Int} {L : Hl} (h : Bad x zs) : run S (n + 3) 8 [.v (.p (.int 0)), .v (.p x), .v (.p (.lst (iP zs)))] L = .ok (.p (.bl true)) L := refused_0 (h n L)
theorem marks_bad {n m : Nat} {b : List P} {ms zs ks : List Int} {T : Hl} (hb : BagOk m b) (hm : m < 2 ^ 59) (hz : Sz zs) (hv : Vs ms zs) (hk : ∀ k ∈ ks, 0 ≤ k ∧ k < zs.length) :
    ∃ b', BagOk (m + 1) b' ∧ run S (n + 4) 17 [.v (.ref 0), .v (.p (.tup (iP ms))), .v (.p (.lst (iP ks))), .v (.p (.lst (iP zs)))] (.lst b :: T) = .ok (.p (.bl true)) (.lst b' :: T) := by
  rw [r17_4]
  obtain ⟨d, b', hd0, hd, hb', e0⟩ := draw_ok (n := n + 2) (T := T) (s := 1000000000) hb (by omega) (by decide) (by decide)
  refine ⟨b', hb', ?_⟩
  have h9 : 9 ≤ sizeLine := by decide
  have h4 : 4 ≤ sizeLine := by decide
  have h1 : 1 ≤ sizeLine := by decide
  have h13 : 13 ≤ sizeLine := by decide
  have hl := hv.len
  have hz200 := hz.1
  have lp := for_mem (b := forB (run S (n + 3)) (cnOf S) (.gn 5) b17_1) (L := .lst b' :: T) (xs := iP ks) (t := [.v (.ref 0), .v (.p (.tup (iP ms))), .v (.p (.lst (iP ks))), .v (.p (.lst (iP zs))), .v (.p (.int d)), .u, .u, .u, .u, .u, .u])
    (fun t => ∃ y5 y6 y7 y8 y9 y10, t = [.v (.ref 0), .v (.p (.tup (iP ms))), .v (.p (.lst (iP ks))), .v (.p (.lst (iP zs))), .v (.p (.int d)), y5, y6, y7, y8, y9, y10])
    ⟨_, _, _, _, _, _, rfl⟩ fun x hx t hJ => by
      obtain ⟨y5, y6, y7, y8, y9, y10, rfl⟩ := hJ
      obtain ⟨k, hk', rfl⟩ := List.mem_map.mp hx
      obtain ⟨k0, kl⟩ := hk k hk'
      obtain ⟨j, rfl⟩ := Int.eq_ofNat_of_zero_le k0
      have hj : j < zs.length := by omega
      have hmj : ms[j]? = some ms[j] := List.getElem?_eq_getElem (by omega)
      have hzj : zs[j]? = some zs[j] := List.getElem?_eq_getElem hj
      have hmz := (vs_iff.mp hv).2 j _ _ hmj hzj
      have hz1 := hz.2 _ (List.getElem_mem hj)
      generalize ms[j] = mk at hmj hmz
      generalize zs[j] = sz at hzj hmz hz1
      have a1 := at_ip hmj
      have a2 := at_ip hzj
      have hs : mk.natAbs.log2 < 1920 := Nat.lt_trans (log_lt (k := 41) (by omega) (by decide)) (by decide)
      have lt : (List.take j (iP ms)).length ≤ 200 := by rw [List.length_take, iP, List.length_map]; omega
      have ld : (List.drop (j + 1) (iP ms)).length ≤ 200 := by rw [List.length_drop, iP, List.length_map]; omega
      have s1 : ∀ x : P, (List.take j (iP ms)).length + 1 ≤ sizeLine := fun x => Nat.le_trans (show _ ≤ 300 by omega) (by decide)
      have s2 : ∀ x : P, (List.take j (iP ms) ++ [x]).length + (List.drop (j + 1) (iP ms)).length ≤ sizeLine := fun x => Nat.le_trans (show _ ≤ 500 by rw [List.length_append]; simp only [List.length_cons, List.length_nil]; omega) (by decide)
      have il := for_mem (b := forB (run S (n + 3)) (cnOf S) (.gn 9) b17_0) (L := .lst b' :: T) (xs := [.int sz, .int (sz + 1), .int (sz + d), .int (-1), .int (-1 - d), .int (mk - sz), .bl true, .bl false, .non, .str (toString mk), .str "", .tup [.int mk], .lst [.int mk]])
        (t := [.v (.ref 0), .v (.p (.tup (iP ms))), .v (.p (.lst (iP ks))), .v (.p (.lst (iP zs))), .v (.p (.int d)), .v (.p (.int (j : Int))), .v (.p (.int mk)), .v (.p (.int sz)), .v (.p (.lst [.int sz, .int (sz + 1), .int (sz + d), .int (-1), .int (-1 - d), .int (mk - sz), .bl true, .bl false, .non])), y9, y10])
        (fun t => ∃ y9 y10, t = [.v (.ref 0), .v (.p (.tup (iP ms))), .v (.p (.lst (iP ks))), .v (.p (.lst (iP zs))), .v (.p (.int d)), .v (.p (.int (j : Int))), .v (.p (.int mk)), .v (.p (.int sz)), .v (.p (.lst [.int sz, .int (sz + 1), .int (sz + d), .int (-1), .int (-1 - d), .int (mk - sz), .bl true, .bl false, .non])), y9, y10])
        ⟨_, _, rfl⟩ fun x hx t hJ => by
          obtain ⟨y9, y10, rfl⟩ := hJ
          have hbad : (tyP x .int).isSome = true ∧ okm x sz = false := by
            simp only [List.mem_cons, List.not_mem_nil, or_false] at hx
            rcases hx with rfl | rfl | rfl | rfl | rfl | rfl | rfl | rfl | rfl | rfl | rfl | rfl | rfl
            all_goals refine ⟨rfl, ?_⟩
            all_goals first | rfl | (simp only [okm, Bool.and_eq_false_iff, decide_eq_false_iff_not]; omega)
          have rf := bad_refused (n := n) (L := .lst b' :: T) (bad_mid hz hv hzj hbad.1 hbad.2)
          refine ⟨[.v (.ref 0), .v (.p (.tup (iP ms))), .v (.p (.lst (iP ks))), .v (.p (.lst (iP zs))), .v (.p (.int d)), .v (.p (.int (j : Int))), .v (.p (.int mk)), .v (.p (.int sz)), .v (.p (.lst [.int sz, .int (sz + 1), .int (sz + d), .int (-1), .int (-1 - d), .int (mk - sz), .bl true, .bl false, .non])), .v (.p x), .v (.p (.tup ((iP ms).take j ++ [x] ++ (iP ms).drop (j + 1))))], ?_, _, _, rfl⟩
          simp -implicitDefEqProofs only [b17_0, Fk.ev_var, Fk.ev_lit, Fk.ev_con, Fk.ek_ofO, Fk.ev_op, Fk.ek_op, Fk.ev_neg, Fk.ek_neg, Fk.ev_notv, Fk.ek_not, Fk.ek_not2, Fk.ev_andv, Fk.ek_and, Fk.ek_and1, Fk.ek_and0, Fk.ev_orv, Fk.ek_or, Fk.ek_or1, Fk.ek_or0, Fk.ev_chain, Fk.ek_ch, Fk.ek_ch2, Fk.ek_ch3t, Fk.ek_ch3f, Fk.ev_ite, Fk.ek_ite1, Fk.ek_ite0, Fk.ev_call, Fk.ev_bi, Fk.ek_bi1, Fk.ek_bi2, Fk.ev_me, Fk.ek_me, Fk.ek_meb, Fk.ek_me20, Fk.ek_me21, Fk.ek_me22, Fk.ev_tup, Fk.ek_tup, Fk.ek_tup2, Fk.ev_lst, Fk.ek_lst, Fk.ek_lst2, Fk.ev_trev, Fk.ek_trev, Fk.ev_lrng, Fk.ek_lrng, Fk.ev_hsum, Fk.ek_hsum, Fk.ek_hs2, Fk.ev_dct0, Fk.ev_ix, Fk.ek_ix, Fk.ev_sl, Fk.ek_sl, Fk.ek_sl2, Fk.ek_sl3, Fk.ev_fld, Fk.ek_fld, Fk.ev_isi, Fk.ek_isi, Fk.ek_blR, Fk.ev_exi, Fk.ek_exi, Fk.ev_exf, Fk.ek_exf, Fk.ev_comp, Fk.ek_comp, Fk.ek_comp3, Fk.ev_o0, Fk.ev_o1, Fk.ek_o1, Fk.ev_a0, Fk.ev_a1, Fk.ek_a, Fk.ek_a2, Fk.ev_a2, Fk.ek_exv, Fk.ev_its, Fk.ek_its1, Fk.ek_its2, Fk.ev_tand, Fk.ek_tand1, Fk.ek_tand0, Fk.ev_tor, Fk.ek_tor1, Fk.ek_tor0, Fk.ev_tnot, Fk.ek_tnot, Fk.ev_tval, Fk.ek_tval, Fk.ek_tv2, Fk.ev_tyes, Fk.ev_pass, Fk.ev_seq, Fk.ev_expr, Fk.ek_expr, Fk.ev_asg, Fk.ek_asg, Fk.ev_seti, Fk.ek_set, Fk.ek_set2, Fk.ek_set3, Fk.ek_set4, Fk.ev_ret, Fk.ek_ret, Fk.ev_retn, Fk.ev_if, Fk.ek_if1, Fk.ek_if0, Fk.ev_for, Fk.ek_for, Fk.ev_brk, Fk.ev_cont, Fk.ev_while, Fk.ev_frz, Fk.ek_frz, Fk.ek_frzp, Fk.ek_frz2, Fk.ev_raise, Fk.ek_raise, Fk.ek_raise2, Fk.ek_xp0, Fk.ek_xp1, Fk.ev_try, Fk.ek_try0, Fk.ek_tryx, Fk.ek_try1, Fk.ek_tryf, Fk.ek_endr, Fk.ek_endn, Fk.ek_endb, Fk.ek_endc, Fk.ev_forB, Fk.ev_forB2, Fk.ev_tB, Fk.ek_tB1, Fk.ek_tB0, Fk.ek_tB2, Fk.gv_0, Fk.gv_s, Fk.op_add, Fk.op_sub, Fk.op_mul, Fk.op_fdiv, Fk.op_fdivs, Fk.op_mod, Fk.op_pow, Fk.op_lt, Fk.op_le, Fk.op_gt, Fk.op_ge, Fk.op_eqi, Fk.op_eqb, Fk.op_eqs, Fk.op_nei, Fk.op_neb, Fk.op_nes, Fk.op_addl, Fk.op_addt, Fk.op_adds, Fk.tr_bl, Fk.tr_non, Fk.tr_int, Fk.tr_lst, Fk.tr_tup, Fk.va_nil, Fk.va_cons, Fk.pu_nil, Fk.pu_cons, Fk.bi_lenl, Fk.bi_lent, Fk.bi_lenr, Fk.bi_lenp, Fk.ek_lenr, Fk.bi_int, Fk.bi_min, Fk.bi_max, Fk.bi_listl, Fk.bi_listt, Fk.bi_tupl, Fk.bi_tupt, Fk.bi_tupp, Fk.ek_tupr, Fk.bi_lisp, Fk.ek_lisr, Fk.bi_str, Fk.new_f, Fk.new_t, Fk.newK_f, Fk.ix_t, Fk.ix_l, Fk.ix_r, Fk.ix_p, Fk.ek_ixr, Fk.at_0, Fk.at_1, Fk.at_2, Fk.set_l, Fk.ek_st, Fk.ek_st2, Fk.ixN_0, Fk.ixN_1, Fk.ixN_2, Fk.me_app, Fk.ek_app, Fk.ty_app, Fk.ek_tyl, Fk.me_joinl, Fk.ek_join, Fk.ty_join, Fk.it_seql, Fk.it_seqt, Fk.it_seqr, Fk.it_rngn, Fk.it_rng, Fk.it_rng2, Fk.it_rev, Fk.it_revt, Fk.it_ziptl, Fk.it_zipll, Fk.it_ziptt, Fk.lk_p, Fk.sl_t, Fk.sl_l, Fk.cut_to, Fk.cut_from1, Fk.cut_1, Fk.cut_from, Fk.hl_get, Fk.hl_set, Fk.op_eqL, Fk.op_neL, Fk.op_eqT, Fk.op_neT, tyP, R.bind_ok, R.bind_ex, R.st_ok, R.st_ex, RS2.seq_nx, RS2.seq_rt, RS2.seq_ex, RS2.seq_bk, RS2.seq_ct, List.set_cons_zero, List.set_cons_succ, List.getElem?_cons_zero, List.getElem?_cons_succ, Option.map_some, reduceCtorEq, imp_self, implies_true, Bool.not_true, Bool.not_false, decide_true, decide_false, Nat.reduceAdd, Nat.reduceSub, Nat.reduceLT, Nat.reduceLeDiff, Nat.reduceEqDiff, Int.reduceLT, Int.reduceLE, Int.reduceEq, Int.reduceNeg, Int.reduceToNat, Nat.reduceBEq, and_self, true_and, and_true, Nat.reducePow, Int.reducePow, Int.reduceAdd, Int.reduceSub, Int.reduceMul, List.length_cons, List.length_nil, List.cons_append, List.nil_append, List.append_nil, h1, s1 x, s2 x, rf]
      obtain ⟨t', e, y9', y10', rfl⟩ := il
      refine ⟨[.v (.ref 0), .v (.p (.tup (iP ms))), .v (.p (.lst (iP ks))), .v (.p (.lst (iP zs))), .v (.p (.int d)), .v (.p (.int (j : Int))), .v (.p (.int mk)), .v (.p (.int sz)), .v (.p (.lst [.int sz, .int (sz + 1), .int (sz + d), .int (-1), .int (-1 - d), .int (mk - sz), .bl true, .bl false, .non])), y9', y10'], ?_, _, _, _, _, _, _, rfl⟩
      simp -implicitDefEqProofs only [b17_1, Fk.ev_var, Fk.ev_lit, Fk.ev_con, Fk.ek_ofO, Fk.ev_op, Fk.ek_op, Fk.ev_neg, Fk.ek_neg, Fk.ev_notv, Fk.ek_not, Fk.ek_not2, Fk.ev_andv, Fk.ek_and, Fk.ek_and1, Fk.ek_and0, Fk.ev_orv, Fk.ek_or, Fk.ek_or1, Fk.ek_or0, Fk.ev_chain, Fk.ek_ch, Fk.ek_ch2, Fk.ek_ch3t, Fk.ek_ch3f, Fk.ev_ite, Fk.ek_ite1, Fk.ek_ite0, Fk.ev_call, Fk.ev_bi, Fk.ek_bi1, Fk.ek_bi2, Fk.ev_me, Fk.ek_me, Fk.ek_meb, Fk.ek_me20, Fk.ek_me21, Fk.ek_me22, Fk.ev_tup, Fk.ek_tup, Fk.ek_tup2, Fk.ev_lst, Fk.ek_lst, Fk.ek_lst2, Fk.ev_trev, Fk.ek_trev, Fk.ev_lrng, Fk.ek_lrng, Fk.ev_hsum, Fk.ek_hsum, Fk.ek_hs2, Fk.ev_dct0, Fk.ev_ix, Fk.ek_ix, Fk.ev_sl, Fk.ek_sl, Fk.ek_sl2, Fk.ek_sl3, Fk.ev_fld, Fk.ek_fld, Fk.ev_isi, Fk.ek_isi, Fk.ek_blR, Fk.ev_exi, Fk.ek_exi, Fk.ev_exf, Fk.ek_exf, Fk.ev_comp, Fk.ek_comp, Fk.ek_comp3, Fk.ev_o0, Fk.ev_o1, Fk.ek_o1, Fk.ev_a0, Fk.ev_a1, Fk.ek_a, Fk.ek_a2, Fk.ev_a2, Fk.ek_exv, Fk.ev_its, Fk.ek_its1, Fk.ek_its2, Fk.ev_tand, Fk.ek_tand1, Fk.ek_tand0, Fk.ev_tor, Fk.ek_tor1, Fk.ek_tor0, Fk.ev_tnot, Fk.ek_tnot, Fk.ev_tval, Fk.ek_tval, Fk.ek_tv2, Fk.ev_tyes, Fk.ev_pass, Fk.ev_seq, Fk.ev_expr, Fk.ek_expr, Fk.ev_asg, Fk.ek_asg, Fk.ev_seti, Fk.ek_set, Fk.ek_set2, Fk.ek_set3, Fk.ek_set4, Fk.ev_ret, Fk.ek_ret, Fk.ev_retn, Fk.ev_if, Fk.ek_if1, Fk.ek_if0, Fk.ev_for, Fk.ek_for, Fk.ev_brk, Fk.ev_cont, Fk.ev_while, Fk.ev_frz, Fk.ek_frz, Fk.ek_frzp, Fk.ek_frz2, Fk.ev_raise, Fk.ek_raise, Fk.ek_raise2, Fk.ek_xp0, Fk.ek_xp1, Fk.ev_try, Fk.ek_try0, Fk.ek_tryx, Fk.ek_try1, Fk.ek_tryf, Fk.ek_endr, Fk.ek_endn, Fk.ek_endb, Fk.ek_endc, Fk.ev_forB, Fk.ev_forB2, Fk.ev_tB, Fk.ek_tB1, Fk.ek_tB0, Fk.ek_tB2, Fk.gv_0, Fk.gv_s, Fk.op_add, Fk.op_sub, Fk.op_mul, Fk.op_fdiv, Fk.op_fdivs, Fk.op_mod, Fk.op_pow, Fk.op_lt, Fk.op_le, Fk.op_gt, Fk.op_ge, Fk.op_eqi, Fk.op_eqb, Fk.op_eqs, Fk.op_nei, Fk.op_neb, Fk.op_nes, Fk.op_addl, Fk.op_addt, Fk.op_adds, Fk.tr_bl, Fk.tr_non, Fk.tr_int, Fk.tr_lst, Fk.tr_tup, Fk.va_nil, Fk.va_cons, Fk.pu_nil, Fk.pu_cons, Fk.bi_lenl, Fk.bi_lent, Fk.bi_lenr, Fk.bi_lenp, Fk.ek_lenr, Fk.bi_int, Fk.bi_min, Fk.bi_max, Fk.bi_listl, Fk.bi_listt, Fk.bi_tupl, Fk.bi_tupt, Fk.bi_tupp, Fk.ek_tupr, Fk.bi_lisp, Fk.ek_lisr, Fk.bi_str, Fk.new_f, Fk.new_t, Fk.newK_f, Fk.ix_t, Fk.ix_l, Fk.ix_r, Fk.ix_p, Fk.ek_ixr, Fk.at_0, Fk.at_1, Fk.at_2, Fk.set_l, Fk.ek_st, Fk.ek_st2, Fk.ixN_0, Fk.ixN_1, Fk.ixN_2, Fk.me_app, Fk.ek_app, Fk.ty_app, Fk.ek_tyl, Fk.me_joinl, Fk.ek_join, Fk.ty_join, Fk.it_seql, Fk.it_seqt, Fk.it_seqr, Fk.it_rngn, Fk.it_rng, Fk.it_rng2, Fk.it_rev, Fk.it_revt, Fk.it_ziptl, Fk.it_zipll, Fk.it_ziptt, Fk.lk_p, Fk.sl_t, Fk.sl_l, Fk.cut_to, Fk.cut_from1, Fk.cut_1, Fk.cut_from, Fk.hl_get, Fk.hl_set, Fk.op_eqL, Fk.op_neL, Fk.op_eqT, Fk.op_neT, tyP, R.bind_ok, R.bind_ex, R.st_ok, R.st_ex, RS2.seq_nx, RS2.seq_rt, RS2.seq_ex, RS2.seq_bk, RS2.seq_ct, List.set_cons_zero, List.set_cons_succ, List.getElem?_cons_zero, List.getElem?_cons_succ, Option.map_some, reduceCtorEq, imp_self, implies_true, Bool.not_true, Bool.not_false, decide_true, decide_false, Nat.reduceAdd, Nat.reduceSub, Nat.reduceLT, Nat.reduceLeDiff, Nat.reduceEqDiff, Int.reduceLT, Int.reduceLE, Int.reduceEq, Int.reduceNeg, Int.reduceToNat, Nat.reduceBEq, and_self, true_and, and_true, Nat.reducePow, Int.reducePow, Int.reduceAdd, Int.reduceSub, Int.reduceMul, List.length_cons, List.length_nil, List.cons_append, List.nil_append, List.append_nil, a1, a2, h9, h4, h1, h13, hs]
      rw [e]
      simp -implicitDefEqProofs only [Fk.ev_var, Fk.ev_lit, Fk.ev_con, Fk.ek_ofO, Fk.ev_op, Fk.ek_op, Fk.ev_neg, Fk.ek_neg, Fk.ev_notv, Fk.ek_not, Fk.ek_not2, Fk.ev_andv, Fk.ek_and, Fk.ek_and1, Fk.ek_and0, Fk.ev_orv, Fk.ek_or, Fk.ek_or1, Fk.ek_or0, Fk.ev_chain, Fk.ek_ch, Fk.ek_ch2, Fk.ek_ch3t, Fk.ek_ch3f, Fk.ev_ite, Fk.ek_ite1, Fk.ek_ite0, Fk.ev_call, Fk.ev_bi, Fk.ek_bi1, Fk.ek_bi2, Fk.ev_me, Fk.ek_me, Fk.ek_meb, Fk.ek_me20, Fk.ek_me21, Fk.ek_me22, Fk.ev_tup, Fk.ek_tup, Fk.ek_tup2, Fk.ev_lst, Fk.ek_lst, Fk.ek_lst2, Fk.ev_trev, Fk.ek_trev, Fk.ev_lrng, Fk.ek_lrng, Fk.ev_hsum, Fk.ek_hsum, Fk.ek_hs2, Fk.ev_dct0, Fk.ev_ix, Fk.ek_ix, Fk.ev_sl, Fk.ek_sl, Fk.ek_sl2, Fk.ek_sl3, Fk.ev_fld, Fk.ek_fld, Fk.ev_isi, Fk.ek_isi, Fk.ek_blR, Fk.ev_exi, Fk.ek_exi, Fk.ev_exf, Fk.ek_exf, Fk.ev_comp, Fk.ek_comp, Fk.ek_comp3, Fk.ev_o0, Fk.ev_o1, Fk.ek_o1, Fk.ev_a0, Fk.ev_a1, Fk.ek_a, Fk.ek_a2, Fk.ev_a2, Fk.ek_exv, Fk.ev_its, Fk.ek_its1, Fk.ek_its2, Fk.ev_tand, Fk.ek_tand1, Fk.ek_tand0, Fk.ev_tor, Fk.ek_tor1, Fk.ek_tor0, Fk.ev_tnot, Fk.ek_tnot, Fk.ev_tval, Fk.ek_tval, Fk.ek_tv2, Fk.ev_tyes, Fk.ev_pass, Fk.ev_seq, Fk.ev_expr, Fk.ek_expr, Fk.ev_asg, Fk.ek_asg, Fk.ev_seti, Fk.ek_set, Fk.ek_set2, Fk.ek_set3, Fk.ek_set4, Fk.ev_ret, Fk.ek_ret, Fk.ev_retn, Fk.ev_if, Fk.ek_if1, Fk.ek_if0, Fk.ev_for, Fk.ek_for, Fk.ev_brk, Fk.ev_cont, Fk.ev_while, Fk.ev_frz, Fk.ek_frz, Fk.ek_frzp, Fk.ek_frz2, Fk.ev_raise, Fk.ek_raise, Fk.ek_raise2, Fk.ek_xp0, Fk.ek_xp1, Fk.ev_try, Fk.ek_try0, Fk.ek_tryx, Fk.ek_try1, Fk.ek_tryf, Fk.ek_endr, Fk.ek_endn, Fk.ek_endb, Fk.ek_endc, Fk.ev_forB, Fk.ev_forB2, Fk.ev_tB, Fk.ek_tB1, Fk.ek_tB0, Fk.ek_tB2, Fk.gv_0, Fk.gv_s, Fk.op_add, Fk.op_sub, Fk.op_mul, Fk.op_fdiv, Fk.op_fdivs, Fk.op_mod, Fk.op_pow, Fk.op_lt, Fk.op_le, Fk.op_gt, Fk.op_ge, Fk.op_eqi, Fk.op_eqb, Fk.op_eqs, Fk.op_nei, Fk.op_neb, Fk.op_nes, Fk.op_addl, Fk.op_addt, Fk.op_adds, Fk.tr_bl, Fk.tr_non, Fk.tr_int, Fk.tr_lst, Fk.tr_tup, Fk.va_nil, Fk.va_cons, Fk.pu_nil, Fk.pu_cons, Fk.bi_lenl, Fk.bi_lent, Fk.bi_lenr, Fk.bi_lenp, Fk.ek_lenr, Fk.bi_int, Fk.bi_min, Fk.bi_max, Fk.bi_listl, Fk.bi_listt, Fk.bi_tupl, Fk.bi_tupt, Fk.bi_tupp, Fk.ek_tupr, Fk.bi_lisp, Fk.ek_lisr, Fk.bi_str, Fk.new_f, Fk.new_t, Fk.newK_f, Fk.ix_t, Fk.ix_l, Fk.ix_r, Fk.ix_p, Fk.ek_ixr, Fk.at_0, Fk.at_1, Fk.at_2, Fk.set_l, Fk.ek_st, Fk.ek_st2, Fk.ixN_0, Fk.ixN_1, Fk.ixN_2, Fk.me_app, Fk.ek_app, Fk.ty_app, Fk.ek_tyl, Fk.me_joinl, Fk.ek_join, Fk.ty_join, Fk.it_seql, Fk.it_seqt, Fk.it_seqr, Fk.it_rngn, Fk.it_rng, Fk.it_rng2, Fk.it_rev, Fk.it_revt, Fk.it_ziptl, Fk.it_zipll, Fk.it_ziptt, Fk.lk_p, Fk.sl_t, Fk.sl_l, Fk.cut_to, Fk.cut_from1, Fk.cut_1, Fk.cut_from, Fk.hl_get, Fk.hl_set, Fk.op_eqL, Fk.op_neL, Fk.op_eqT, Fk.op_neT, tyP, R.bind_ok, R.bind_ex, R.st_ok, R.st_ex, RS2.seq_nx, RS2.seq_rt, RS2.seq_ex, RS2.seq_bk, RS2.seq_ct, List.set_cons_zero, List.set_cons_succ, List.getElem?_cons_zero, List.getElem?_cons_succ, Option.map_some, reduceCtorEq, imp_self, implies_true, Bool.not_true, Bool.not_false, decide_true, decide_false, Nat.reduceAdd, Nat.reduceSub, Nat.reduceLT, Nat.reduceLeDiff, Nat.reduceEqDiff, Int.reduceLT, Int.reduceLE, Int.reduceEq, Int.reduceNeg, Int.reduceToNat, Nat.reduceBEq, and_self, true_and, and_true, Nat.reducePow, Int.reducePow, Int.reduceAdd, Int.reduceSub, Int.reduceMul, List.length_cons, List.length_nil, List.cons_append, List.nil_append, List.append_nil]
  obtain ⟨t', e, y5, y6, y7, y8, y9, y10, rfl⟩ := lp
  simp -implicitDefEqProofs only [b17, Fk.ev_var, Fk.ev_lit, Fk.ev_con, Fk.ek_ofO, Fk.ev_op, Fk.ek_op, Fk.ev_neg, Fk.ek_neg, Fk.ev_notv, Fk.ek_not, Fk.ek_not2, Fk.ev_andv, Fk.ek_and, Fk.ek_and1, Fk.ek_and0, Fk.ev_orv, Fk.ek_or, Fk.ek_or1, Fk.ek_or0, Fk.ev_chain, Fk.ek_ch, Fk.ek_ch2, Fk.ek_ch3t, Fk.ek_ch3f, Fk.ev_ite, Fk.ek_ite1, Fk.ek_ite0, Fk.ev_call, Fk.ev_bi, Fk.ek_bi1, Fk.ek_bi2, Fk.ev_me, Fk.ek_me, Fk.ek_meb, Fk.ek_me20, Fk.ek_me21, Fk.ek_me22, Fk.ev_tup, Fk.ek_tup, Fk.ek_tup2, Fk.ev_lst, Fk.ek_lst, Fk.ek_lst2, Fk.ev_trev, Fk.ek_trev, Fk.ev_lrng, Fk.ek_lrng, Fk.ev_hsum, Fk.ek_hsum, Fk.ek_hs2, Fk.ev_dct0, Fk.ev_ix, Fk.ek_ix, Fk.ev_sl, Fk.ek_sl, Fk.ek_sl2, Fk.ek_sl3, Fk.ev_fld, Fk.ek_fld, Fk.ev_isi, Fk.ek_isi, Fk.ek_blR, Fk.ev_exi, Fk.ek_exi, Fk.ev_exf, Fk.ek_exf, Fk.ev_comp, Fk.ek_comp, Fk.ek_comp3, Fk.ev_o0, Fk.ev_o1, Fk.ek_o1, Fk.ev_a0, Fk.ev_a1, Fk.ek_a, Fk.ek_a2, Fk.ev_a2, Fk.ek_exv, Fk.ev_its, Fk.ek_its1, Fk.ek_its2, Fk.ev_tand, Fk.ek_tand1, Fk.ek_tand0, Fk.ev_tor, Fk.ek_tor1, Fk.ek_tor0, Fk.ev_tnot, Fk.ek_tnot, Fk.ev_tval, Fk.ek_tval, Fk.ek_tv2, Fk.ev_tyes, Fk.ev_pass, Fk.ev_seq, Fk.ev_expr, Fk.ek_expr, Fk.ev_asg, Fk.ek_asg, Fk.ev_seti, Fk.ek_set, Fk.ek_set2, Fk.ek_set3, Fk.ek_set4, Fk.ev_ret, Fk.ek_ret, Fk.ev_retn, Fk.ev_if, Fk.ek_if1, Fk.ek_if0, Fk.ev_for, Fk.ek_for, Fk.ev_brk, Fk.ev_cont, Fk.ev_while, Fk.ev_frz, Fk.ek_frz, Fk.ek_frzp, Fk.ek_frz2, Fk.ev_raise, Fk.ek_raise, Fk.ek_raise2, Fk.ek_xp0, Fk.ek_xp1, Fk.ev_try, Fk.ek_try0, Fk.ek_tryx, Fk.ek_try1, Fk.ek_tryf, Fk.ek_endr, Fk.ek_endn, Fk.ek_endb, Fk.ek_endc, Fk.ev_forB, Fk.ev_forB2, Fk.ev_tB, Fk.ek_tB1, Fk.ek_tB0, Fk.ek_tB2, Fk.gv_0, Fk.gv_s, Fk.op_add, Fk.op_sub, Fk.op_mul, Fk.op_fdiv, Fk.op_fdivs, Fk.op_mod, Fk.op_pow, Fk.op_lt, Fk.op_le, Fk.op_gt, Fk.op_ge, Fk.op_eqi, Fk.op_eqb, Fk.op_eqs, Fk.op_nei, Fk.op_neb, Fk.op_nes, Fk.op_addl, Fk.op_addt, Fk.op_adds, Fk.tr_bl, Fk.tr_non, Fk.tr_int, Fk.tr_lst, Fk.tr_tup, Fk.va_nil, Fk.va_cons, Fk.pu_nil, Fk.pu_cons, Fk.bi_lenl, Fk.bi_lent, Fk.bi_lenr, Fk.bi_lenp, Fk.ek_lenr, Fk.bi_int, Fk.bi_min, Fk.bi_max, Fk.bi_listl, Fk.bi_listt, Fk.bi_tupl, Fk.bi_tupt, Fk.bi_tupp, Fk.ek_tupr, Fk.bi_lisp, Fk.ek_lisr, Fk.bi_str, Fk.new_f, Fk.new_t, Fk.newK_f, Fk.ix_t, Fk.ix_l, Fk.ix_r, Fk.ix_p, Fk.ek_ixr, Fk.at_0, Fk.at_1, Fk.at_2, Fk.set_l, Fk.ek_st, Fk.ek_st2, Fk.ixN_0, Fk.ixN_1, Fk.ixN_2, Fk.me_app, Fk.ek_app, Fk.ty_app, Fk.ek_tyl, Fk.me_joinl, Fk.ek_join, Fk.ty_join, Fk.it_seql, Fk.it_seqt, Fk.it_seqr, Fk.it_rngn, Fk.it_rng, Fk.it_rng2, Fk.it_rev, Fk.it_revt, Fk.it_ziptl, Fk.it_zipll, Fk.it_ziptt, Fk.lk_p, Fk.sl_t, Fk.sl_l, Fk.cut_to, Fk.cut_from1, Fk.cut_1, Fk.cut_from, Fk.hl_get, Fk.hl_set, Fk.op_eqL, Fk.op_neL, Fk.op_eqT, Fk.op_neT, tyP, R.bind_ok, R.bind_ex, R.st_ok, R.st_ex, RS2.seq_nx, RS2.seq_rt, RS2.seq_ex, RS2.seq_bk, RS2.seq_ct, List.set_cons_zero, List.set_cons_succ, List.getElem?_cons_zero, List.getElem?_cons_succ, Option.map_some, reduceCtorEq, imp_self, implies_true, Bool.not_true, Bool.not_false, decide_true, decide_false, Nat.reduceAdd, Nat.reduceSub, Nat.reduceLT, Nat.reduceLeDiff, Nat.reduceEqDiff, Int.reduceLT, Int.reduceLE, Int.reduceEq, Int.reduceNeg, Int.reduceToNat, Nat.reduceBEq, and_self, true_and, and_true, Nat.reducePow, Int.reducePow, Int.reduceAdd, Int.reduceSub, Int.reduceMul, List.length_cons, List.length_nil, List.cons_append, List.nil_append, List.append_nil, show (10 : Int).natAbs < 2 ^ 64 from by decide, show (10 : Int) ^ (Int.toNat 9) = 1000000000 from rfl, e0, e]
  exact en_rt rfl
end Lw

set_option Elab.async false
set_option linter.all false
set_option autoImplicit false
set_option maxRecDepth 100000
set_option maxHeartbeats 2000000
namespace Lw
open PySem PySem.Spec PyProof.Rows L2 Fk
theorem bad_not {x : P} {zs : List Int} (h : tyP x .tup = some false) : Bad x zs := fun n L => pack_not h
theorem bad_len {ms : List P} {zs : List Int} (h : ms.length ≠ zs.length) : Bad (.tup ms) zs := fun n L => pack_len h
theorem bad_one {xs : List P} {zs : List Int} (hz : Sz zs) : Bad (.tup [.tup xs]) zs := by
  by_cases h : zs.length = 1
  · intro n L
    obtain ⟨z, rfl⟩ := List.length_eq_one_iff.mp h
    have := pack_tup (n := n) (L := L) (ms := [.tup xs]) hz (fun m hm => by rw [List.mem_singleton.mp hm]; rfl) rfl
    exact this
  · exact bad_len (by simp; omega)
theorem strs_map : ∀ ms : List Int, strsP ((iP ms).map fun x => match x with | .int i => .str (toString i) | x => x) = some (ms.map fun i => Str.ofString (toString i))
  | [] => rfl
  | m :: ms => by
    simp only [iP, List.map_cons, strsP]
    rw [show (List.map P.int ms) = iP ms from rfl, strs_map ms]
    rfl
theorem strs_sum : ∀ {ms : List Int}, (∀ m ∈ ms, 0 ≤ m ∧ m < 2 ^ 40) → ((ms.map fun i => Str.ofString (toString i)).map (·.length)).sum ≤ 13 * ms.length
  | [], _ => by simp
  | m :: ms, h => by
    have h1 := h m List.mem_cons_self
    have h2 := strs_sum fun y hy => h y (List.mem_cons_of_mem _ hy)
    have h3 := str_len (i := m) (k := 13) h1.1 (by omega) (by decide)
    simp only [List.map_cons, List.sum_cons, List.length_cons]
    omega
theorem Vs.small {ms zs : List Int} (hz : Sz zs) (hv : Vs ms zs) : ∀ m ∈ ms, 0 ≤ m ∧ m < 2 ^ 40 := fun m hm => by
  obtain ⟨i, hi⟩ := List.getElem?_of_mem hm
  have hlt := (List.getElem?_eq_some_iff.mp hi).1
  have hl := hv.len
  have e := List.getElem?_eq_getElem (l := zs) (i := i) (by omega)
  have h1 := (vs_iff.mp hv).2 i _ _ hi e
  have h2 := hz.2 zs[i] (List.getElem_mem _)
  omega
theorem states_loop {n : Nat} {zs : List Int} {L : Hl} (S0 : Sl) (S2 S3 S4 S5 : Sl) {xs : List P} (h : ∀ x ∈ xs, Bad x zs) (y : Sl) : ∃ y', forL (forB (run S (n + 3)) (cnOf S) (.gn 6) b18_0) xs [S0, .v (.p (.lst (iP zs))), S2, S3, S4, S5, y] L = .ok (.nx [S0, .v (.p (.lst (iP zs))), S2, S3, S4, S5, y']) L := by
  obtain ⟨t', e, y', rfl⟩ := for_mem (b := forB (run S (n + 3)) (cnOf S) (.gn 6) b18_0) (L := L) (xs := xs) (t := [S0, .v (.p (.lst (iP zs))), S2, S3, S4, S5, y])
    (fun t => ∃ y, t = [S0, .v (.p (.lst (iP zs))), S2, S3, S4, S5, y]) ⟨_, rfl⟩ fun x hx t hJ => by
      obtain ⟨y, rfl⟩ := hJ
      have rf := bad_refused (n := n) (L := L) (h x hx)
      refine ⟨[S0, .v (.p (.lst (iP zs))), S2, S3, S4, S5, .v (.p x)], ?_, _, rfl⟩
      simp -implicitDefEqProofs only [b18_0, Fk.ev_var, Fk.ev_lit, Fk.ev_con, Fk.ek_ofO, Fk.ev_op, Fk.ek_op, Fk.ev_neg, Fk.ek_neg, Fk.ev_notv, Fk.ek_not, Fk.ek_not2, Fk.ev_andv, Fk.ek_and, Fk.ek_and1, Fk.ek_and0, Fk.ev_orv, Fk.ek_or, Fk.ek_or1, Fk.ek_or0, Fk.ev_chain, Fk.ek_ch, Fk.ek_ch2, Fk.ek_ch3t, Fk.ek_ch3f, Fk.ev_ite, Fk.ek_ite1, Fk.ek_ite0, Fk.ev_call, Fk.ev_bi, Fk.ek_bi1, Fk.ek_bi2, Fk.ev_me, Fk.ek_me, Fk.ek_meb, Fk.ek_me20, Fk.ek_me21, Fk.ek_me22, Fk.ev_tup, Fk.ek_tup, Fk.ek_tup2, Fk.ev_lst, Fk.ek_lst, Fk.ek_lst2, Fk.ev_trev, Fk.ek_trev, Fk.ev_lrng, Fk.ek_lrng, Fk.ev_hsum, Fk.ek_hsum, Fk.ek_hs2, Fk.ev_dct0, Fk.ev_ix, Fk.ek_ix, Fk.ev_sl, Fk.ek_sl, Fk.ek_sl2, Fk.ek_sl3, Fk.ev_fld, Fk.ek_fld, Fk.ev_isi, Fk.ek_isi, Fk.ek_blR, Fk.ev_exi, Fk.ek_exi, Fk.ev_exf, Fk.ek_exf, Fk.ev_comp, Fk.ek_comp, Fk.ek_comp3, Fk.ev_o0, Fk.ev_o1, Fk.ek_o1, Fk.ev_a0, Fk.ev_a1, Fk.ek_a, Fk.ek_a2, Fk.ev_a2, Fk.ek_exv, Fk.ev_its, Fk.ek_its1, Fk.ek_its2, Fk.ev_tand, Fk.ek_tand1, Fk.ek_tand0, Fk.ev_tor, Fk.ek_tor1, Fk.ek_tor0, Fk.ev_tnot, Fk.ek_tnot, Fk.ev_tval, Fk.ek_tval, Fk.ek_tv2, Fk.ev_tyes, Fk.ev_pass, Fk.ev_seq, Fk.ev_expr, Fk.ek_expr, Fk.ev_asg, Fk.ek_asg, Fk.ev_seti, Fk.ek_set, Fk.ek_set2, Fk.ek_set3, Fk.ek_set4, Fk.ev_ret, Fk.ek_ret, Fk.ev_retn, Fk.ev_if, Fk.ek_if1, Fk.ek_if0, Fk.ev_for, Fk.ek_for, Fk.ev_brk, Fk.ev_cont, Fk.ev_while, Fk.ev_frz, Fk.ek_frz, Fk.ek_frzp, Fk.ek_frz2, Fk.ev_raise, Fk.ek_raise, Fk.ek_raise2, Fk.ek_xp0, Fk.ek_xp1, Fk.ev_try, Fk.ek_try0, Fk.ek_tryx, Fk.ek_try1, Fk.ek_tryf, Fk.ek_endr, Fk.ek_endn, Fk.ek_endb, Fk.ek_endc, Fk.ev_forB, Fk.ev_forB2, Fk.ev_tB, Fk.ek_tB1, Fk.ek_tB0, Fk.ek_tB2, Fk.gv_0, Fk.gv_s, Fk.op_add, Fk.op_sub, Fk.op_mul, Fk.op_fdiv, Fk.op_fdivs, Fk.op_mod, Fk.op_pow, Fk.op_lt, Fk.op_le, Fk.op_gt, Fk.op_ge, Fk.op_eqi, Fk.op_eqb, Fk.op_eqs, Fk.op_nei, Fk.op_neb, Fk.op_nes, Fk.op_addl, Fk.op_addt, Fk.op_adds, Fk.tr_bl, Fk.tr_non, Fk.tr_int, Fk.tr_lst, Fk.tr_tup, Fk.va_nil, Fk.va_cons, Fk.pu_nil, Fk.pu_cons, Fk.bi_lenl, Fk.bi_lent, Fk.bi_lenr, Fk.bi_lenp, Fk.ek_lenr, Fk.bi_int, Fk.bi_min, Fk.bi_max, Fk.bi_listl, Fk.bi_listt, Fk.bi_tupl, Fk.bi_tupt, Fk.bi_tupp, Fk.ek_tupr, Fk.bi_lisp, Fk.ek_lisr, Fk.bi_str, Fk.new_f, Fk.new_t, Fk.newK_f, Fk.ix_t, Fk.ix_l, Fk.ix_r, Fk.ix_p, Fk.ek_ixr, Fk.at_0, Fk.at_1, Fk.at_2, Fk.set_l, Fk.ek_st, Fk.ek_st2, Fk.ixN_0, Fk.ixN_1, Fk.ixN_2, Fk.me_app, Fk.ek_app, Fk.ty_app, Fk.ek_tyl, Fk.me_joinl, Fk.ek_join, Fk.ty_join, Fk.it_seql, Fk.it_seqt, Fk.it_seqr, Fk.it_rngn, Fk.it_rng, Fk.it_rng2, Fk.it_rev, Fk.it_revt, Fk.it_ziptl, Fk.it_zipll, Fk.it_ziptt, Fk.lk_p, Fk.sl_t, Fk.sl_l, Fk.cut_to, Fk.cut_from1, Fk.cut_1, Fk.cut_from, Fk.hl_get, Fk.hl_set, Fk.op_eqL, Fk.op_neL, Fk.op_eqT, Fk.op_neT, tyP, R.bind_ok, R.bind_ex, R.st_ok, R.st_ex, RS2.seq_nx, RS2.seq_rt, RS2.seq_ex, RS2.seq_bk, RS2.seq_ct, List.set_cons_zero, List.set_cons_succ, List.getElem?_cons_zero, List.getElem?_cons_succ, Option.map_some, reduceCtorEq, imp_self, implies_true, Bool.not_true, Bool.not_false, decide_true, decide_false, Nat.reduceAdd, Nat.reduceSub, Nat.reduceLT, Nat.reduceLeDiff, Nat.reduceEqDiff, Int.reduceLT, Int.reduceLE, Int.reduceEq, Int.reduceNeg, Int.reduceToNat, Nat.reduceBEq, and_self, true_and, and_true, Nat.reducePow, Int.reducePow, Int.reduceAdd, Int.reduceSub, Int.reduceMul, List.length_cons, List.length_nil, List.cons_append, List.nil_append, List.append_nil, rf]
  exact ⟨y', e⟩
theorem states_bad {n : Nat} {ms zs : List Int} {L : Hl} (hz : Sz zs) (hv : Vs ms zs) (hc : Clo L) :
    run S (n + 4) 18 [.v (.p (.tup (iP ms))), .v (.p (.lst (iP zs)))] L = .ok (.p (.bl true)) L := by
  rw [r18_2]
  have hl := hv.len
  have hz200 := hz.1
  have h9 : 9 ≤ sizeLine := by decide
  have h3 : 3 ≤ sizeLine := by decide
  have h4 : 4 ≤ sizeLine := by decide
  have h1 : 1 ≤ sizeLine := by decide
  have h0 : 0 ≤ sizeLine := by decide
  have h12 : 12 ≤ sizeLine := by decide
  have h16 : 16 ≤ sizeLine := by decide
  have li : (iP ms).length = zs.length := by rw [iP, List.length_map, hl]
  have k1 : zs.length + 1 ≤ sizeLine := Nat.le_trans (show _ ≤ 300 by omega) (by decide)
  have k2 : 1 + zs.length ≤ sizeLine := Nat.le_trans (show _ ≤ 300 by omega) (by decide)
  have k3 : zs.length + zs.length ≤ sizeLine := Nat.le_trans (show _ ≤ 500 by omega) (by decide)
  have nb := number_ok (n := n + 2) (L := L) hz hv
  have c1 : compL (tB (run S (n + 3)) (cnOf S) [.v (.p (.tup (iP ms))), .v (.p (.lst (iP zs))), .v (.p (.int (val ms zs))), .u, .u, .u, .u] [3] (.gn 3) .tyes (.bi .str (.cons (.var 3) .nil))) L.length (iP ms) (L ++ [.lst []]) = .ok () (L ++ [.lst ((iP ms).map fun x => match x with | .int i => .str (toString i) | x => x)]) := comp_all _ (fun x hx acc => by
    obtain ⟨i, hi, rfl⟩ := List.mem_map.mp hx
    have hs := hv.small hz i hi
    have hs : i.natAbs.log2 < 1920 := Nat.lt_trans (log_lt (k := 41) (by omega) (by decide)) (by decide)
    simp -implicitDefEqProofs only [Fk.ev_var, Fk.ev_lit, Fk.ev_con, Fk.ek_ofO, Fk.ev_op, Fk.ek_op, Fk.ev_neg, Fk.ek_neg, Fk.ev_notv, Fk.ek_not, Fk.ek_not2, Fk.ev_andv, Fk.ek_and, Fk.ek_and1, Fk.ek_and0, Fk.ev_orv, Fk.ek_or, Fk.ek_or1, Fk.ek_or0, Fk.ev_chain, Fk.ek_ch, Fk.ek_ch2, Fk.ek_ch3t, Fk.ek_ch3f, Fk.ev_ite, Fk.ek_ite1, Fk.ek_ite0, Fk.ev_call, Fk.ev_bi, Fk.ek_bi1, Fk.ek_bi2, Fk.ev_me, Fk.ek_me, Fk.ek_meb, Fk.ek_me20, Fk.ek_me21, Fk.ek_me22, Fk.ev_tup, Fk.ek_tup, Fk.ek_tup2, Fk.ev_lst, Fk.ek_lst, Fk.ek_lst2, Fk.ev_trev, Fk.ek_trev, Fk.ev_lrng, Fk.ek_lrng, Fk.ev_hsum, Fk.ek_hsum, Fk.ek_hs2, Fk.ev_dct0, Fk.ev_ix, Fk.ek_ix, Fk.ev_sl, Fk.ek_sl, Fk.ek_sl2, Fk.ek_sl3, Fk.ev_fld, Fk.ek_fld, Fk.ev_isi, Fk.ek_isi, Fk.ek_blR, Fk.ev_exi, Fk.ek_exi, Fk.ev_exf, Fk.ek_exf, Fk.ev_comp, Fk.ek_comp, Fk.ek_comp3, Fk.ev_o0, Fk.ev_o1, Fk.ek_o1, Fk.ev_a0, Fk.ev_a1, Fk.ek_a, Fk.ek_a2, Fk.ev_a2, Fk.ek_exv, Fk.ev_its, Fk.ek_its1, Fk.ek_its2, Fk.ev_tand, Fk.ek_tand1, Fk.ek_tand0, Fk.ev_tor, Fk.ek_tor1, Fk.ek_tor0, Fk.ev_tnot, Fk.ek_tnot, Fk.ev_tval, Fk.ek_tval, Fk.ek_tv2, Fk.ev_tyes, Fk.ev_pass, Fk.ev_seq, Fk.ev_expr, Fk.ek_expr, Fk.ev_asg, Fk.ek_asg, Fk.ev_seti, Fk.ek_set, Fk.ek_set2, Fk.ek_set3, Fk.ek_set4, Fk.ev_ret, Fk.ek_ret, Fk.ev_retn, Fk.ev_if, Fk.ek_if1, Fk.ek_if0, Fk.ev_for, Fk.ek_for, Fk.ev_brk, Fk.ev_cont, Fk.ev_while, Fk.ev_frz, Fk.ek_frz, Fk.ek_frzp, Fk.ek_frz2, Fk.ev_raise, Fk.ek_raise, Fk.ek_raise2, Fk.ek_xp0, Fk.ek_xp1, Fk.ev_try, Fk.ek_try0, Fk.ek_tryx, Fk.ek_try1, Fk.ek_tryf, Fk.ek_endr, Fk.ek_endn, Fk.ek_endb, Fk.ek_endc, Fk.ev_forB, Fk.ev_forB2, Fk.ev_tB, Fk.ek_tB1, Fk.ek_tB0, Fk.ek_tB2, Fk.gv_0, Fk.gv_s, Fk.op_add, Fk.op_sub, Fk.op_mul, Fk.op_fdiv, Fk.op_fdivs, Fk.op_mod, Fk.op_pow, Fk.op_lt, Fk.op_le, Fk.op_gt, Fk.op_ge, Fk.op_eqi, Fk.op_eqb, Fk.op_eqs, Fk.op_nei, Fk.op_neb, Fk.op_nes, Fk.op_addl, Fk.op_addt, Fk.op_adds, Fk.tr_bl, Fk.tr_non, Fk.tr_int, Fk.tr_lst, Fk.tr_tup, Fk.va_nil, Fk.va_cons, Fk.pu_nil, Fk.pu_cons, Fk.bi_lenl, Fk.bi_lent, Fk.bi_lenr, Fk.bi_lenp, Fk.ek_lenr, Fk.bi_int, Fk.bi_min, Fk.bi_max, Fk.bi_listl, Fk.bi_listt, Fk.bi_tupl, Fk.bi_tupt, Fk.bi_tupp, Fk.ek_tupr, Fk.bi_lisp, Fk.ek_lisr, Fk.bi_str, Fk.new_f, Fk.new_t, Fk.newK_f, Fk.ix_t, Fk.ix_l, Fk.ix_r, Fk.ix_p, Fk.ek_ixr, Fk.at_0, Fk.at_1, Fk.at_2, Fk.set_l, Fk.ek_st, Fk.ek_st2, Fk.ixN_0, Fk.ixN_1, Fk.ixN_2, Fk.me_app, Fk.ek_app, Fk.ty_app, Fk.ek_tyl, Fk.me_joinl, Fk.ek_join, Fk.ty_join, Fk.it_seql, Fk.it_seqt, Fk.it_seqr, Fk.it_rngn, Fk.it_rng, Fk.it_rng2, Fk.it_rev, Fk.it_revt, Fk.it_ziptl, Fk.it_zipll, Fk.it_ziptt, Fk.lk_p, Fk.sl_t, Fk.sl_l, Fk.cut_to, Fk.cut_from1, Fk.cut_1, Fk.cut_from, Fk.hl_get, Fk.hl_set, Fk.op_eqL, Fk.op_neL, Fk.op_eqT, Fk.op_neT, tyP, R.bind_ok, R.bind_ex, R.st_ok, R.st_ex, RS2.seq_nx, RS2.seq_rt, RS2.seq_ex, RS2.seq_bk, RS2.seq_ct, List.set_cons_zero, List.set_cons_succ, List.getElem?_cons_zero, List.getElem?_cons_succ, Option.map_some, reduceCtorEq, imp_self, implies_true, Bool.not_true, Bool.not_false, decide_true, decide_false, Nat.reduceAdd, Nat.reduceSub, Nat.reduceLT, Nat.reduceLeDiff, Nat.reduceEqDiff, Int.reduceLT, Int.reduceLE, Int.reduceEq, Int.reduceNeg, Int.reduceToNat, Nat.reduceBEq, and_self, true_and, and_true, Nat.reducePow, Int.reducePow, Int.reduceAdd, Int.reduceSub, Int.reduceMul, List.length_cons, List.length_nil, List.cons_append, List.nil_append, List.append_nil, wipeS, hs]) (Nat.le_trans (show (iP ms).length ≤ 300 by omega) (by decide))
  have js : ((ms.map fun i => Str.ofString (toString i)).map (·.length)).sum + (ms.map fun i => Str.ofString (toString i)).length * ("" : Str).length ≤ 16777216 := by
    have := strs_sum (hv.small hz)
    rw [show ("" : Str).length = 0 from rfl]
    omega
  generalize hB : ([.lst (iP ms), .non, .int (val ms zs), .int (-1), .bl true, .str (Txt.join "" (ms.map fun i => Str.ofString (toString i))), .dct [], .tup [.tup (iP ms)], .lst [.tup (iP ms)], .tup (iP ms ++ [.int 0]), .tup (.int 0 :: iP ms), .tup (iP ms ++ [.non])] : List P) = B
  have hBad : ∀ x ∈ B, Bad x zs := fun x hx => by
    subst hB
    simp only [List.mem_cons, List.not_mem_nil, or_false] at hx
    rcases hx with rfl | rfl | rfl | rfl | rfl | rfl | rfl | rfl | rfl | rfl | rfl | rfl
    all_goals first
      | exact bad_not rfl
      | exact bad_one hz
      | exact bad_len (by simp only [List.length_append, List.length_cons, List.length_nil, li]; omega)
  by_cases hp : zs.length = 0
  · have hm0 : ms.length = 0 := by omega
    obtain ⟨y', e⟩ := states_loop (n := n) (L := L) (.v (.p (.tup (iP ms)))) (.v (.p (.int (val ms zs)))) .u (.v (.p (.str (Txt.join "" (ms.map fun i => Str.ofString (toString i)))))) (.v (.p (.lst B))) hBad .u
    rw [← hB] at e
    simp -implicitDefEqProofs only [b18, Fk.ev_var, Fk.ev_lit, Fk.ev_con, Fk.ek_ofO, Fk.ev_op, Fk.ek_op, Fk.ev_neg, Fk.ek_neg, Fk.ev_notv, Fk.ek_not, Fk.ek_not2, Fk.ev_andv, Fk.ek_and, Fk.ek_and1, Fk.ek_and0, Fk.ev_orv, Fk.ek_or, Fk.ek_or1, Fk.ek_or0, Fk.ev_chain, Fk.ek_ch, Fk.ek_ch2, Fk.ek_ch3t, Fk.ek_ch3f, Fk.ev_ite, Fk.ek_ite1, Fk.ek_ite0, Fk.ev_call, Fk.ev_bi, Fk.ek_bi1, Fk.ek_bi2, Fk.ev_me, Fk.ek_me, Fk.ek_meb, Fk.ek_me20, Fk.ek_me21, Fk.ek_me22, Fk.ev_tup, Fk.ek_tup, Fk.ek_tup2, Fk.ev_lst, Fk.ek_lst, Fk.ek_lst2, Fk.ev_trev, Fk.ek_trev, Fk.ev_lrng, Fk.ek_lrng, Fk.ev_hsum, Fk.ek_hsum, Fk.ek_hs2, Fk.ev_dct0, Fk.ev_ix, Fk.ek_ix, Fk.ev_sl, Fk.ek_sl, Fk.ek_sl2, Fk.ek_sl3, Fk.ev_fld, Fk.ek_fld, Fk.ev_isi, Fk.ek_isi, Fk.ek_blR, Fk.ev_exi, Fk.ek_exi, Fk.ev_exf, Fk.ek_exf, Fk.ev_comp, Fk.ek_comp, Fk.ek_comp3, Fk.ev_o0, Fk.ev_o1, Fk.ek_o1, Fk.ev_a0, Fk.ev_a1, Fk.ek_a, Fk.ek_a2, Fk.ev_a2, Fk.ek_exv, Fk.ev_its, Fk.ek_its1, Fk.ek_its2, Fk.ev_tand, Fk.ek_tand1, Fk.ek_tand0, Fk.ev_tor, Fk.ek_tor1, Fk.ek_tor0, Fk.ev_tnot, Fk.ek_tnot, Fk.ev_tval, Fk.ek_tval, Fk.ek_tv2, Fk.ev_tyes, Fk.ev_pass, Fk.ev_seq, Fk.ev_expr, Fk.ek_expr, Fk.ev_asg, Fk.ek_asg, Fk.ev_seti, Fk.ek_set, Fk.ek_set2, Fk.ek_set3, Fk.ek_set4, Fk.ev_ret, Fk.ek_ret, Fk.ev_retn, Fk.ev_if, Fk.ek_if1, Fk.ek_if0, Fk.ev_for, Fk.ek_for, Fk.ev_brk, Fk.ev_cont, Fk.ev_while, Fk.ev_frz, Fk.ek_frz, Fk.ek_frzp, Fk.ek_frz2, Fk.ev_raise, Fk.ek_raise, Fk.ek_raise2, Fk.ek_xp0, Fk.ek_xp1, Fk.ev_try, Fk.ek_try0, Fk.ek_tryx, Fk.ek_try1, Fk.ek_tryf, Fk.ek_endr, Fk.ek_endn, Fk.ek_endb, Fk.ek_endc, Fk.ev_forB, Fk.ev_forB2, Fk.ev_tB, Fk.ek_tB1, Fk.ek_tB0, Fk.ek_tB2, Fk.gv_0, Fk.gv_s, Fk.op_add, Fk.op_sub, Fk.op_mul, Fk.op_fdiv, Fk.op_fdivs, Fk.op_mod, Fk.op_pow, Fk.op_lt, Fk.op_le, Fk.op_gt, Fk.op_ge, Fk.op_eqi, Fk.op_eqb, Fk.op_eqs, Fk.op_nei, Fk.op_neb, Fk.op_nes, Fk.op_addl, Fk.op_addt, Fk.op_adds, Fk.tr_bl, Fk.tr_non, Fk.tr_int, Fk.tr_lst, Fk.tr_tup, Fk.va_nil, Fk.va_cons, Fk.pu_nil, Fk.pu_cons, Fk.bi_lenl, Fk.bi_lent, Fk.bi_lenr, Fk.bi_lenp, Fk.ek_lenr, Fk.bi_int, Fk.bi_min, Fk.bi_max, Fk.bi_listl, Fk.bi_listt, Fk.bi_tupl, Fk.bi_tupt, Fk.bi_tupp, Fk.ek_tupr, Fk.bi_lisp, Fk.ek_lisr, Fk.bi_str, Fk.new_f, Fk.new_t, Fk.newK_f, Fk.ix_t, Fk.ix_l, Fk.ix_r, Fk.ix_p, Fk.ek_ixr, Fk.at_0, Fk.at_1, Fk.at_2, Fk.set_l, Fk.ek_st, Fk.ek_st2, Fk.ixN_0, Fk.ixN_1, Fk.ixN_2, Fk.me_app, Fk.ek_app, Fk.ty_app, Fk.ek_tyl, Fk.me_joinl, Fk.ek_join, Fk.ty_join, Fk.it_seql, Fk.it_seqt, Fk.it_seqr, Fk.it_rngn, Fk.it_rng, Fk.it_rng2, Fk.it_rev, Fk.it_revt, Fk.it_ziptl, Fk.it_zipll, Fk.it_ziptt, Fk.lk_p, Fk.sl_t, Fk.sl_l, Fk.cut_to, Fk.cut_from1, Fk.cut_1, Fk.cut_from, Fk.hl_get, Fk.hl_set, Fk.op_eqL, Fk.op_neL, Fk.op_eqT, Fk.op_neT, tyP, R.bind_ok, R.bind_ex, R.st_ok, R.st_ex, RS2.seq_nx, RS2.seq_rt, RS2.seq_ex, RS2.seq_bk, RS2.seq_ct, List.set_cons_zero, List.set_cons_succ, List.getElem?_cons_zero, List.getElem?_cons_succ, Option.map_some, reduceCtorEq, imp_self, implies_true, Bool.not_true, Bool.not_false, decide_true, decide_false, Nat.reduceAdd, Nat.reduceSub, Nat.reduceLT, Nat.reduceLeDiff, Nat.reduceEqDiff, Int.reduceLT, Int.reduceLE, Int.reduceEq, Int.reduceNeg, Int.reduceToNat, Nat.reduceBEq, and_self, true_and, and_true, Nat.reducePow, Int.reducePow, Int.reduceAdd, Int.reduceSub, Int.reduceMul, List.length_cons, List.length_nil, List.cons_append, List.nil_append, List.append_nil, nb, c1, comp_end hc, strs_map, js, h9, h3, h1, h12, li, k1, k2, hp, show ((0 : Nat) : Int) = 0 from rfl, Int.lt_irrefl] at e ⊢
    rw [e]
    simp -implicitDefEqProofs only [Fk.ev_var, Fk.ev_lit, Fk.ev_con, Fk.ek_ofO, Fk.ev_op, Fk.ek_op, Fk.ev_neg, Fk.ek_neg, Fk.ev_notv, Fk.ek_not, Fk.ek_not2, Fk.ev_andv, Fk.ek_and, Fk.ek_and1, Fk.ek_and0, Fk.ev_orv, Fk.ek_or, Fk.ek_or1, Fk.ek_or0, Fk.ev_chain, Fk.ek_ch, Fk.ek_ch2, Fk.ek_ch3t, Fk.ek_ch3f, Fk.ev_ite, Fk.ek_ite1, Fk.ek_ite0, Fk.ev_call, Fk.ev_bi, Fk.ek_bi1, Fk.ek_bi2, Fk.ev_me, Fk.ek_me, Fk.ek_meb, Fk.ek_me20, Fk.ek_me21, Fk.ek_me22, Fk.ev_tup, Fk.ek_tup, Fk.ek_tup2, Fk.ev_lst, Fk.ek_lst, Fk.ek_lst2, Fk.ev_trev, Fk.ek_trev, Fk.ev_lrng, Fk.ek_lrng, Fk.ev_hsum, Fk.ek_hsum, Fk.ek_hs2, Fk.ev_dct0, Fk.ev_ix, Fk.ek_ix, Fk.ev_sl, Fk.ek_sl, Fk.ek_sl2, Fk.ek_sl3, Fk.ev_fld, Fk.ek_fld, Fk.ev_isi, Fk.ek_isi, Fk.ek_blR, Fk.ev_exi, Fk.ek_exi, Fk.ev_exf, Fk.ek_exf, Fk.ev_comp, Fk.ek_comp, Fk.ek_comp3, Fk.ev_o0, Fk.ev_o1, Fk.ek_o1, Fk.ev_a0, Fk.ev_a1, Fk.ek_a, Fk.ek_a2, Fk.ev_a2, Fk.ek_exv, Fk.ev_its, Fk.ek_its1, Fk.ek_its2, Fk.ev_tand, Fk.ek_tand1, Fk.ek_tand0, Fk.ev_tor, Fk.ek_tor1, Fk.ek_tor0, Fk.ev_tnot, Fk.ek_tnot, Fk.ev_tval, Fk.ek_tval, Fk.ek_tv2, Fk.ev_tyes, Fk.ev_pass, Fk.ev_seq, Fk.ev_expr, Fk.ek_expr, Fk.ev_asg, Fk.ek_asg, Fk.ev_seti, Fk.ek_set, Fk.ek_set2, Fk.ek_set3, Fk.ek_set4, Fk.ev_ret, Fk.ek_ret, Fk.ev_retn, Fk.ev_if, Fk.ek_if1, Fk.ek_if0, Fk.ev_for, Fk.ek_for, Fk.ev_brk, Fk.ev_cont, Fk.ev_while, Fk.ev_frz, Fk.ek_frz, Fk.ek_frzp, Fk.ek_frz2, Fk.ev_raise, Fk.ek_raise, Fk.ek_raise2, Fk.ek_xp0, Fk.ek_xp1, Fk.ev_try, Fk.ek_try0, Fk.ek_tryx, Fk.ek_try1, Fk.ek_tryf, Fk.ek_endr, Fk.ek_endn, Fk.ek_endb, Fk.ek_endc, Fk.ev_forB, Fk.ev_forB2, Fk.ev_tB, Fk.ek_tB1, Fk.ek_tB0, Fk.ek_tB2, Fk.gv_0, Fk.gv_s, Fk.op_add, Fk.op_sub, Fk.op_mul, Fk.op_fdiv, Fk.op_fdivs, Fk.op_mod, Fk.op_pow, Fk.op_lt, Fk.op_le, Fk.op_gt, Fk.op_ge, Fk.op_eqi, Fk.op_eqb, Fk.op_eqs, Fk.op_nei, Fk.op_neb, Fk.op_nes, Fk.op_addl, Fk.op_addt, Fk.op_adds, Fk.tr_bl, Fk.tr_non, Fk.tr_int, Fk.tr_lst, Fk.tr_tup, Fk.va_nil, Fk.va_cons, Fk.pu_nil, Fk.pu_cons, Fk.bi_lenl, Fk.bi_lent, Fk.bi_lenr, Fk.bi_lenp, Fk.ek_lenr, Fk.bi_int, Fk.bi_min, Fk.bi_max, Fk.bi_listl, Fk.bi_listt, Fk.bi_tupl, Fk.bi_tupt, Fk.bi_tupp, Fk.ek_tupr, Fk.bi_lisp, Fk.ek_lisr, Fk.bi_str, Fk.new_f, Fk.new_t, Fk.newK_f, Fk.ix_t, Fk.ix_l, Fk.ix_r, Fk.ix_p, Fk.ek_ixr, Fk.at_0, Fk.at_1, Fk.at_2, Fk.set_l, Fk.ek_st, Fk.ek_st2, Fk.ixN_0, Fk.ixN_1, Fk.ixN_2, Fk.me_app, Fk.ek_app, Fk.ty_app, Fk.ek_tyl, Fk.me_joinl, Fk.ek_join, Fk.ty_join, Fk.it_seql, Fk.it_seqt, Fk.it_seqr, Fk.it_rngn, Fk.it_rng, Fk.it_rng2, Fk.it_rev, Fk.it_revt, Fk.it_ziptl, Fk.it_zipll, Fk.it_ziptt, Fk.lk_p, Fk.sl_t, Fk.sl_l, Fk.cut_to, Fk.cut_from1, Fk.cut_1, Fk.cut_from, Fk.hl_get, Fk.hl_set, Fk.op_eqL, Fk.op_neL, Fk.op_eqT, Fk.op_neT, tyP, R.bind_ok, R.bind_ex, R.st_ok, R.st_ex, RS2.seq_nx, RS2.seq_rt, RS2.seq_ex, RS2.seq_bk, RS2.seq_ct, List.set_cons_zero, List.set_cons_succ, List.getElem?_cons_zero, List.getElem?_cons_succ, Option.map_some, reduceCtorEq, imp_self, implies_true, Bool.not_true, Bool.not_false, decide_true, decide_false, Nat.reduceAdd, Nat.reduceSub, Nat.reduceLT, Nat.reduceLeDiff, Nat.reduceEqDiff, Int.reduceLT, Int.reduceLE, Int.reduceEq, Int.reduceNeg, Int.reduceToNat, Nat.reduceBEq, and_self, true_and, and_true, Nat.reducePow, Int.reducePow, Int.reduceAdd, Int.reduceSub, Int.reduceMul, List.length_cons, List.length_nil, List.cons_append, List.nil_append, List.append_nil]
    exact en_rt rfl
  · have hp' : (0 : Int) < (zs.length : Int) := by omega
    have hBad2 : ∀ x ∈ B ++ [.tup ((iP ms).drop 1), .tup ((iP ms).take (zs.length - 1)), .tup [], .tup (iP ms ++ iP ms)], Bad x zs := fun x hx => by
      rcases List.mem_append.mp hx with hx | hx
      · exact hBad x hx
      · simp only [List.mem_cons, List.not_mem_nil, or_false] at hx
        rcases hx with rfl | rfl | rfl | rfl
        all_goals exact bad_len (by simp only [List.length_append, List.length_drop, List.length_take, List.length_nil, li]; omega)
    obtain ⟨y', e⟩ := states_loop (n := n) (L := L) (.v (.p (.tup (iP ms)))) (.v (.p (.int (val ms zs)))) .u (.v (.p (.str (Txt.join "" (ms.map fun i => Str.ofString (toString i)))))) (.v (.p (.lst (B ++ [.tup ((iP ms).drop 1), .tup ((iP ms).take (zs.length - 1)), .tup [], .tup (iP ms ++ iP ms)])))) hBad2 .u
    have ki : ((zs.length : Int) - 1) = ((zs.length - 1 : Nat) : Int) := by omega
    rw [← hB] at e
    simp -implicitDefEqProofs only [b18, Fk.ev_var, Fk.ev_lit, Fk.ev_con, Fk.ek_ofO, Fk.ev_op, Fk.ek_op, Fk.ev_neg, Fk.ek_neg, Fk.ev_notv, Fk.ek_not, Fk.ek_not2, Fk.ev_andv, Fk.ek_and, Fk.ek_and1, Fk.ek_and0, Fk.ev_orv, Fk.ek_or, Fk.ek_or1, Fk.ek_or0, Fk.ev_chain, Fk.ek_ch, Fk.ek_ch2, Fk.ek_ch3t, Fk.ek_ch3f, Fk.ev_ite, Fk.ek_ite1, Fk.ek_ite0, Fk.ev_call, Fk.ev_bi, Fk.ek_bi1, Fk.ek_bi2, Fk.ev_me, Fk.ek_me, Fk.ek_meb, Fk.ek_me20, Fk.ek_me21, Fk.ek_me22, Fk.ev_tup, Fk.ek_tup, Fk.ek_tup2, Fk.ev_lst, Fk.ek_lst, Fk.ek_lst2, Fk.ev_trev, Fk.ek_trev, Fk.ev_lrng, Fk.ek_lrng, Fk.ev_hsum, Fk.ek_hsum, Fk.ek_hs2, Fk.ev_dct0, Fk.ev_ix, Fk.ek_ix, Fk.ev_sl, Fk.ek_sl, Fk.ek_sl2, Fk.ek_sl3, Fk.ev_fld, Fk.ek_fld, Fk.ev_isi, Fk.ek_isi, Fk.ek_blR, Fk.ev_exi, Fk.ek_exi, Fk.ev_exf, Fk.ek_exf, Fk.ev_comp, Fk.ek_comp, Fk.ek_comp3, Fk.ev_o0, Fk.ev_o1, Fk.ek_o1, Fk.ev_a0, Fk.ev_a1, Fk.ek_a, Fk.ek_a2, Fk.ev_a2, Fk.ek_exv, Fk.ev_its, Fk.ek_its1, Fk.ek_its2, Fk.ev_tand, Fk.ek_tand1, Fk.ek_tand0, Fk.ev_tor, Fk.ek_tor1, Fk.ek_tor0, Fk.ev_tnot, Fk.ek_tnot, Fk.ev_tval, Fk.ek_tval, Fk.ek_tv2, Fk.ev_tyes, Fk.ev_pass, Fk.ev_seq, Fk.ev_expr, Fk.ek_expr, Fk.ev_asg, Fk.ek_asg, Fk.ev_seti, Fk.ek_set, Fk.ek_set2, Fk.ek_set3, Fk.ek_set4, Fk.ev_ret, Fk.ek_ret, Fk.ev_retn, Fk.ev_if, Fk.ek_if1, Fk.ek_if0, Fk.ev_for, Fk.ek_for, Fk.ev_brk, Fk.ev_cont, Fk.ev_while, Fk.ev_frz, Fk.ek_frz, Fk.ek_frzp, Fk.ek_frz2, Fk.ev_raise, Fk.ek_raise, Fk.ek_raise2, Fk.ek_xp0, Fk.ek_xp1, Fk.ev_try, Fk.ek_try0, Fk.ek_tryx, Fk.ek_try1, Fk.ek_tryf, Fk.ek_endr, Fk.ek_endn, Fk.ek_endb, Fk.ek_endc, Fk.ev_forB, Fk.ev_forB2, Fk.ev_tB, Fk.ek_tB1, Fk.ek_tB0, Fk.ek_tB2, Fk.gv_0, Fk.gv_s, Fk.op_add, Fk.op_sub, Fk.op_mul, Fk.op_fdiv, Fk.op_fdivs, Fk.op_mod, Fk.op_pow, Fk.op_lt, Fk.op_le, Fk.op_gt, Fk.op_ge, Fk.op_eqi, Fk.op_eqb, Fk.op_eqs, Fk.op_nei, Fk.op_neb, Fk.op_nes, Fk.op_addl, Fk.op_addt, Fk.op_adds, Fk.tr_bl, Fk.tr_non, Fk.tr_int, Fk.tr_lst, Fk.tr_tup, Fk.va_nil, Fk.va_cons, Fk.pu_nil, Fk.pu_cons, Fk.bi_lenl, Fk.bi_lent, Fk.bi_lenr, Fk.bi_lenp, Fk.ek_lenr, Fk.bi_int, Fk.bi_min, Fk.bi_max, Fk.bi_listl, Fk.bi_listt, Fk.bi_tupl, Fk.bi_tupt, Fk.bi_tupp, Fk.ek_tupr, Fk.bi_lisp, Fk.ek_lisr, Fk.bi_str, Fk.new_f, Fk.new_t, Fk.newK_f, Fk.ix_t, Fk.ix_l, Fk.ix_r, Fk.ix_p, Fk.ek_ixr, Fk.at_0, Fk.at_1, Fk.at_2, Fk.set_l, Fk.ek_st, Fk.ek_st2, Fk.ixN_0, Fk.ixN_1, Fk.ixN_2, Fk.me_app, Fk.ek_app, Fk.ty_app, Fk.ek_tyl, Fk.me_joinl, Fk.ek_join, Fk.ty_join, Fk.it_seql, Fk.it_seqt, Fk.it_seqr, Fk.it_rngn, Fk.it_rng, Fk.it_rng2, Fk.it_rev, Fk.it_revt, Fk.it_ziptl, Fk.it_zipll, Fk.it_ziptt, Fk.lk_p, Fk.sl_t, Fk.sl_l, Fk.cut_to, Fk.cut_from1, Fk.cut_1, Fk.cut_from, Fk.hl_get, Fk.hl_set, Fk.op_eqL, Fk.op_neL, Fk.op_eqT, Fk.op_neT, tyP, R.bind_ok, R.bind_ex, R.st_ok, R.st_ex, RS2.seq_nx, RS2.seq_rt, RS2.seq_ex, RS2.seq_bk, RS2.seq_ct, List.set_cons_zero, List.set_cons_succ, List.getElem?_cons_zero, List.getElem?_cons_succ, Option.map_some, reduceCtorEq, imp_self, implies_true, Bool.not_true, Bool.not_false, decide_true, decide_false, Nat.reduceAdd, Nat.reduceSub, Nat.reduceLT, Nat.reduceLeDiff, Nat.reduceEqDiff, Int.reduceLT, Int.reduceLE, Int.reduceEq, Int.reduceNeg, Int.reduceToNat, Nat.reduceBEq, and_self, true_and, and_true, Nat.reducePow, Int.reducePow, Int.reduceAdd, Int.reduceSub, Int.reduceMul, List.length_cons, List.length_nil, List.cons_append, List.nil_append, List.append_nil, nb, c1, comp_end hc, strs_map, js, h9, h3, h4, h0, h1, h12, h16, li, k1, k2, k3, hp', ki] at e ⊢
    rw [e]
    simp -implicitDefEqProofs only [Fk.ev_var, Fk.ev_lit, Fk.ev_con, Fk.ek_ofO, Fk.ev_op, Fk.ek_op, Fk.ev_neg, Fk.ek_neg, Fk.ev_notv, Fk.ek_not, Fk.ek_not2, Fk.ev_andv, Fk.ek_and, Fk.ek_and1, Fk.ek_and0, Fk.ev_orv, Fk.ek_or, Fk.ek_or1, Fk.ek_or0, Fk.ev_chain, Fk.ek_ch, Fk.ek_ch2, Fk.ek_ch3t, Fk.ek_ch3f, Fk.ev_ite, Fk.ek_ite1, Fk.ek_ite0, Fk.ev_call, Fk.ev_bi, Fk.ek_bi1, Fk.ek_bi2, Fk.ev_me, Fk.ek_me, Fk.ek_meb, Fk.ek_me20, Fk.ek_me21, Fk.ek_me22, Fk.ev_tup, Fk.ek_tup, Fk.ek_tup2, Fk.ev_lst, Fk.ek_lst, Fk.ek_lst2, Fk.ev_trev, Fk.ek_trev, Fk.ev_lrng, Fk.ek_lrng, Fk.ev_hsum, Fk.ek_hsum, Fk.ek_hs2, Fk.ev_dct0, Fk.ev_ix, Fk.ek_ix, Fk.ev_sl, Fk.ek_sl, Fk.ek_sl2, Fk.ek_sl3, Fk.ev_fld, Fk.ek_fld, Fk.ev_isi, Fk.ek_isi, Fk.ek_blR, Fk.ev_exi, Fk.ek_exi, Fk.ev_exf, Fk.ek_exf, Fk.ev_comp, Fk.ek_comp, Fk.ek_comp3, Fk.ev_o0, Fk.ev_o1, Fk.ek_o1, Fk.ev_a0, Fk.ev_a1, Fk.ek_a, Fk.ek_a2, Fk.ev_a2, Fk.ek_exv, Fk.ev_its, Fk.ek_its1, Fk.ek_its2, Fk.ev_tand, Fk.ek_tand1, Fk.ek_tand0, Fk.ev_tor, Fk.ek_tor1, Fk.ek_tor0, Fk.ev_tnot, Fk.ek_tnot, Fk.ev_tval, Fk.ek_tval, Fk.ek_tv2, Fk.ev_tyes, Fk.ev_pass, Fk.ev_seq, Fk.ev_expr, Fk.ek_expr, Fk.ev_asg, Fk.ek_asg, Fk.ev_seti, Fk.ek_set, Fk.ek_set2, Fk.ek_set3, Fk.ek_set4, Fk.ev_ret, Fk.ek_ret, Fk.ev_retn, Fk.ev_if, Fk.ek_if1, Fk.ek_if0, Fk.ev_for, Fk.ek_for, Fk.ev_brk, Fk.ev_cont, Fk.ev_while, Fk.ev_frz, Fk.ek_frz, Fk.ek_frzp, Fk.ek_frz2, Fk.ev_raise, Fk.ek_raise, Fk.ek_raise2, Fk.ek_xp0, Fk.ek_xp1, Fk.ev_try, Fk.ek_try0, Fk.ek_tryx, Fk.ek_try1, Fk.ek_tryf, Fk.ek_endr, Fk.ek_endn, Fk.ek_endb, Fk.ek_endc, Fk.ev_forB, Fk.ev_forB2, Fk.ev_tB, Fk.ek_tB1, Fk.ek_tB0, Fk.ek_tB2, Fk.gv_0, Fk.gv_s, Fk.op_add, Fk.op_sub, Fk.op_mul, Fk.op_fdiv, Fk.op_fdivs, Fk.op_mod, Fk.op_pow, Fk.op_lt, Fk.op_le, Fk.op_gt, Fk.op_ge, Fk.op_eqi, Fk.op_eqb, Fk.op_eqs, Fk.op_nei, Fk.op_neb, Fk.op_nes, Fk.op_addl, Fk.op_addt, Fk.op_adds, Fk.tr_bl, Fk.tr_non, Fk.tr_int, Fk.tr_lst, Fk.tr_tup, Fk.va_nil, Fk.va_cons, Fk.pu_nil, Fk.pu_cons, Fk.bi_lenl, Fk.bi_lent, Fk.bi_lenr, Fk.bi_lenp, Fk.ek_lenr, Fk.bi_int, Fk.bi_min, Fk.bi_max, Fk.bi_listl, Fk.bi_listt, Fk.bi_tupl, Fk.bi_tupt, Fk.bi_tupp, Fk.ek_tupr, Fk.bi_lisp, Fk.ek_lisr, Fk.bi_str, Fk.new_f, Fk.new_t, Fk.newK_f, Fk.ix_t, Fk.ix_l, Fk.ix_r, Fk.ix_p, Fk.ek_ixr, Fk.at_0, Fk.at_1, Fk.at_2, Fk.set_l, Fk.ek_st, Fk.ek_st2, Fk.ixN_0, Fk.ixN_1, Fk.ixN_2, Fk.me_app, Fk.ek_app, Fk.ty_app, Fk.ek_tyl, Fk.me_joinl, Fk.ek_join, Fk.ty_join, Fk.it_seql, Fk.it_seqt, Fk.it_seqr, Fk.it_rngn, Fk.it_rng, Fk.it_rng2, Fk.it_rev, Fk.it_revt, Fk.it_ziptl, Fk.it_zipll, Fk.it_ziptt, Fk.lk_p, Fk.sl_t, Fk.sl_l, Fk.cut_to, Fk.cut_from1, Fk.cut_1, Fk.cut_from, Fk.hl_get, Fk.hl_set, Fk.op_eqL, Fk.op_neL, Fk.op_eqT, Fk.op_neT, tyP, R.bind_ok, R.bind_ex, R.st_ok, R.st_ex, RS2.seq_nx, RS2.seq_rt, RS2.seq_ex, RS2.seq_bk, RS2.seq_ct, List.set_cons_zero, List.set_cons_succ, List.getElem?_cons_zero, List.getElem?_cons_succ, Option.map_some, reduceCtorEq, imp_self, implies_true, Bool.not_true, Bool.not_false, decide_true, decide_false, Nat.reduceAdd, Nat.reduceSub, Nat.reduceLT, Nat.reduceLeDiff, Nat.reduceEqDiff, Int.reduceLT, Int.reduceLE, Int.reduceEq, Int.reduceNeg, Int.reduceToNat, Nat.reduceBEq, and_self, true_and, and_true, Nat.reducePow, Int.reducePow, Int.reduceAdd, Int.reduceSub, Int.reduceMul, List.length_cons, List.length_nil, List.cons_append, List.nil_append, List.append_nil]
    exact en_rt rfl
theorem numbers_bad {n m : Nat} {b : List P} {zs : List Int} {T : Hl} (hb : BagOk m b) (hm : m < 2 ^ 59) (hz : Sz zs) :
    ∃ b', BagOk (m + 1) b' ∧ run S (n + 4) 6 [.v (.ref 0), .v (.p (.lst (iP zs)))] (.lst b :: T) = .ok (.p (.bl true)) (.lst b' :: T) := by
  rw [r6_2]
  obtain ⟨d, b', hd0, hd, hb', e0⟩ := draw_ok (n := n + 2) (T := T) (s := 1000000000) hb (by omega) (by decide) (by decide)
  refine ⟨b', hb', ?_⟩
  have pr := product_ok (n := n + 2) (L := .lst b :: T) hz
  have hp := prd_pos fun z hz' => (hz.2 z hz').1
  have pa := prd_abs hz.abs
  have hz200 := hz.1
  have un := fun x ht ho => unpack_not (n := n) (x := x) (zs := zs) (L := .lst b' :: T) hz ht ho
  generalize prd zs = c at pr hp pa un
  have g1 : c.natAbs.log2 + (2 : Int).natAbs.log2 < 1000000 := mul_lt (40 * zs.length + 1) 2 pa (by decide) (by omega) (by decide) (by omega)
  have g2 : c.natAbs.log2 + (d + 1).natAbs.log2 < 1000000 := mul_lt (40 * zs.length + 1) 64 pa (by omega) (by omega) (by decide) (by omega)
  have h9 : 9 ≤ sizeLine := by decide
  have h1 : 1 ≤ sizeLine := by decide
  have h10 : 10 ≤ sizeLine := by decide
  have lp := for_mem (b := forB (run S (n + 3)) (cnOf S) (.gn 5) b6_0) (L := .lst b' :: T) (xs := [.int (-1), .int (-2), .int (-1 - d), .int (-c), .int (-c - 1), .int c, .int (c + 1), .int (c + d), .int (c * 2), .int (c * (d + 1))])
    (t := [.v (.ref 0), .v (.p (.lst (iP zs))), .v (.p (.int c)), .v (.p (.int d)), .v (.p (.lst [.int (-1), .int (-2), .int (-1 - d), .int (-c), .int (-c - 1), .int c, .int (c + 1), .int (c + d), .int (c * 2)])), .u])
    (fun t => ∃ y, t = [.v (.ref 0), .v (.p (.lst (iP zs))), .v (.p (.int c)), .v (.p (.int d)), .v (.p (.lst [.int (-1), .int (-2), .int (-1 - d), .int (-c), .int (-c - 1), .int c, .int (c + 1), .int (c + d), .int (c * 2)])), y])
    ⟨_, rfl⟩ fun x hx t hJ => by
      obtain ⟨y, rfl⟩ := hJ
      have hbad : (tyP x .int).isSome = true ∧ okm x c = false := by
        have hcd : c ≤ c * (d + 1) := by
          have := Int.mul_le_mul_of_nonneg_left (show 1 ≤ d + 1 by omega) (show 0 ≤ c by omega)
          omega
        simp only [List.mem_cons, List.not_mem_nil, or_false] at hx
        rcases hx with rfl | rfl | rfl | rfl | rfl | rfl | rfl | rfl | rfl | rfl
        all_goals refine ⟨rfl, ?_⟩
        all_goals (simp only [okm, Bool.and_eq_false_iff, decide_eq_false_iff_not]; omega)
      have rf := refused_1 (n := n) (un x hbad.1 hbad.2)
      refine ⟨[.v (.ref 0), .v (.p (.lst (iP zs))), .v (.p (.int c)), .v (.p (.int d)), .v (.p (.lst [.int (-1), .int (-2), .int (-1 - d), .int (-c), .int (-c - 1), .int c, .int (c + 1), .int (c + d), .int (c * 2)])), .v (.p x)], ?_, _, rfl⟩
      simp -implicitDefEqProofs only [b6_0, Fk.ev_var, Fk.ev_lit, Fk.ev_con, Fk.ek_ofO, Fk.ev_op, Fk.ek_op, Fk.ev_neg, Fk.ek_neg, Fk.ev_notv, Fk.ek_not, Fk.ek_not2, Fk.ev_andv, Fk.ek_and, Fk.ek_and1, Fk.ek_and0, Fk.ev_orv, Fk.ek_or, Fk.ek_or1, Fk.ek_or0, Fk.ev_chain, Fk.ek_ch, Fk.ek_ch2, Fk.ek_ch3t, Fk.ek_ch3f, Fk.ev_ite, Fk.ek_ite1, Fk.ek_ite0, Fk.ev_call, Fk.ev_bi, Fk.ek_bi1, Fk.ek_bi2, Fk.ev_me, Fk.ek_me, Fk.ek_meb, Fk.ek_me20, Fk.ek_me21, Fk.ek_me22, Fk.ev_tup, Fk.ek_tup, Fk.ek_tup2, Fk.ev_lst, Fk.ek_lst, Fk.ek_lst2, Fk.ev_trev, Fk.ek_trev, Fk.ev_lrng, Fk.ek_lrng, Fk.ev_hsum, Fk.ek_hsum, Fk.ek_hs2, Fk.ev_dct0, Fk.ev_ix, Fk.ek_ix, Fk.ev_sl, Fk.ek_sl, Fk.ek_sl2, Fk.ek_sl3, Fk.ev_fld, Fk.ek_fld, Fk.ev_isi, Fk.ek_isi, Fk.ek_blR, Fk.ev_exi, Fk.ek_exi, Fk.ev_exf, Fk.ek_exf, Fk.ev_comp, Fk.ek_comp, Fk.ek_comp3, Fk.ev_o0, Fk.ev_o1, Fk.ek_o1, Fk.ev_a0, Fk.ev_a1, Fk.ek_a, Fk.ek_a2, Fk.ev_a2, Fk.ek_exv, Fk.ev_its, Fk.ek_its1, Fk.ek_its2, Fk.ev_tand, Fk.ek_tand1, Fk.ek_tand0, Fk.ev_tor, Fk.ek_tor1, Fk.ek_tor0, Fk.ev_tnot, Fk.ek_tnot, Fk.ev_tval, Fk.ek_tval, Fk.ek_tv2, Fk.ev_tyes, Fk.ev_pass, Fk.ev_seq, Fk.ev_expr, Fk.ek_expr, Fk.ev_asg, Fk.ek_asg, Fk.ev_seti, Fk.ek_set, Fk.ek_set2, Fk.ek_set3, Fk.ek_set4, Fk.ev_ret, Fk.ek_ret, Fk.ev_retn, Fk.ev_if, Fk.ek_if1, Fk.ek_if0, Fk.ev_for, Fk.ek_for, Fk.ev_brk, Fk.ev_cont, Fk.ev_while, Fk.ev_frz, Fk.ek_frz, Fk.ek_frzp, Fk.ek_frz2, Fk.ev_raise, Fk.ek_raise, Fk.ek_raise2, Fk.ek_xp0, Fk.ek_xp1, Fk.ev_try, Fk.ek_try0, Fk.ek_tryx, Fk.ek_try1, Fk.ek_tryf, Fk.ek_endr, Fk.ek_endn, Fk.ek_endb, Fk.ek_endc, Fk.ev_forB, Fk.ev_forB2, Fk.ev_tB, Fk.ek_tB1, Fk.ek_tB0, Fk.ek_tB2, Fk.gv_0, Fk.gv_s, Fk.op_add, Fk.op_sub, Fk.op_mul, Fk.op_fdiv, Fk.op_fdivs, Fk.op_mod, Fk.op_pow, Fk.op_lt, Fk.op_le, Fk.op_gt, Fk.op_ge, Fk.op_eqi, Fk.op_eqb, Fk.op_eqs, Fk.op_nei, Fk.op_neb, Fk.op_nes, Fk.op_addl, Fk.op_addt, Fk.op_adds, Fk.tr_bl, Fk.tr_non, Fk.tr_int, Fk.tr_lst, Fk.tr_tup, Fk.va_nil, Fk.va_cons, Fk.pu_nil, Fk.pu_cons, Fk.bi_lenl, Fk.bi_lent, Fk.bi_lenr, Fk.bi_lenp, Fk.ek_lenr, Fk.bi_int, Fk.bi_min, Fk.bi_max, Fk.bi_listl, Fk.bi_listt, Fk.bi_tupl, Fk.bi_tupt, Fk.bi_tupp, Fk.ek_tupr, Fk.bi_lisp, Fk.ek_lisr, Fk.bi_str, Fk.new_f, Fk.new_t, Fk.newK_f, Fk.ix_t, Fk.ix_l, Fk.ix_r, Fk.ix_p, Fk.ek_ixr, Fk.at_0, Fk.at_1, Fk.at_2, Fk.set_l, Fk.ek_st, Fk.ek_st2, Fk.ixN_0, Fk.ixN_1, Fk.ixN_2, Fk.me_app, Fk.ek_app, Fk.ty_app, Fk.ek_tyl, Fk.me_joinl, Fk.ek_join, Fk.ty_join, Fk.it_seql, Fk.it_seqt, Fk.it_seqr, Fk.it_rngn, Fk.it_rng, Fk.it_rng2, Fk.it_rev, Fk.it_revt, Fk.it_ziptl, Fk.it_zipll, Fk.it_ziptt, Fk.lk_p, Fk.sl_t, Fk.sl_l, Fk.cut_to, Fk.cut_from1, Fk.cut_1, Fk.cut_from, Fk.hl_get, Fk.hl_set, Fk.op_eqL, Fk.op_neL, Fk.op_eqT, Fk.op_neT, tyP, R.bind_ok, R.bind_ex, R.st_ok, R.st_ex, RS2.seq_nx, RS2.seq_rt, RS2.seq_ex, RS2.seq_bk, RS2.seq_ct, List.set_cons_zero, List.set_cons_succ, List.getElem?_cons_zero, List.getElem?_cons_succ, Option.map_some, reduceCtorEq, imp_self, implies_true, Bool.not_true, Bool.not_false, decide_true, decide_false, Nat.reduceAdd, Nat.reduceSub, Nat.reduceLT, Nat.reduceLeDiff, Nat.reduceEqDiff, Int.reduceLT, Int.reduceLE, Int.reduceEq, Int.reduceNeg, Int.reduceToNat, Nat.reduceBEq, and_self, true_and, and_true, Nat.reducePow, Int.reducePow, Int.reduceAdd, Int.reduceSub, Int.reduceMul, List.length_cons, List.length_nil, List.cons_append, List.nil_append, List.append_nil, rf]
  obtain ⟨t', e, y, rfl⟩ := lp
  simp -implicitDefEqProofs only [b6, Fk.ev_var, Fk.ev_lit, Fk.ev_con, Fk.ek_ofO, Fk.ev_op, Fk.ek_op, Fk.ev_neg, Fk.ek_neg, Fk.ev_notv, Fk.ek_not, Fk.ek_not2, Fk.ev_andv, Fk.ek_and, Fk.ek_and1, Fk.ek_and0, Fk.ev_orv, Fk.ek_or, Fk.ek_or1, Fk.ek_or0, Fk.ev_chain, Fk.ek_ch, Fk.ek_ch2, Fk.ek_ch3t, Fk.ek_ch3f, Fk.ev_ite, Fk.ek_ite1, Fk.ek_ite0, Fk.ev_call, Fk.ev_bi, Fk.ek_bi1, Fk.ek_bi2, Fk.ev_me, Fk.ek_me, Fk.ek_meb, Fk.ek_me20, Fk.ek_me21, Fk.ek_me22, Fk.ev_tup, Fk.ek_tup, Fk.ek_tup2, Fk.ev_lst, Fk.ek_lst, Fk.ek_lst2, Fk.ev_trev, Fk.ek_trev, Fk.ev_lrng, Fk.ek_lrng, Fk.ev_hsum, Fk.ek_hsum, Fk.ek_hs2, Fk.ev_dct0, Fk.ev_ix, Fk.ek_ix, Fk.ev_sl, Fk.ek_sl, Fk.ek_sl2, Fk.ek_sl3, Fk.ev_fld, Fk.ek_fld, Fk.ev_isi, Fk.ek_isi, Fk.ek_blR, Fk.ev_exi, Fk.ek_exi, Fk.ev_exf, Fk.ek_exf, Fk.ev_comp, Fk.ek_comp, Fk.ek_comp3, Fk.ev_o0, Fk.ev_o1, Fk.ek_o1, Fk.ev_a0, Fk.ev_a1, Fk.ek_a, Fk.ek_a2, Fk.ev_a2, Fk.ek_exv, Fk.ev_its, Fk.ek_its1, Fk.ek_its2, Fk.ev_tand, Fk.ek_tand1, Fk.ek_tand0, Fk.ev_tor, Fk.ek_tor1, Fk.ek_tor0, Fk.ev_tnot, Fk.ek_tnot, Fk.ev_tval, Fk.ek_tval, Fk.ek_tv2, Fk.ev_tyes, Fk.ev_pass, Fk.ev_seq, Fk.ev_expr, Fk.ek_expr, Fk.ev_asg, Fk.ek_asg, Fk.ev_seti, Fk.ek_set, Fk.ek_set2, Fk.ek_set3, Fk.ek_set4, Fk.ev_ret, Fk.ek_ret, Fk.ev_retn, Fk.ev_if, Fk.ek_if1, Fk.ek_if0, Fk.ev_for, Fk.ek_for, Fk.ev_brk, Fk.ev_cont, Fk.ev_while, Fk.ev_frz, Fk.ek_frz, Fk.ek_frzp, Fk.ek_frz2, Fk.ev_raise, Fk.ek_raise, Fk.ek_raise2, Fk.ek_xp0, Fk.ek_xp1, Fk.ev_try, Fk.ek_try0, Fk.ek_tryx, Fk.ek_try1, Fk.ek_tryf, Fk.ek_endr, Fk.ek_endn, Fk.ek_endb, Fk.ek_endc, Fk.ev_forB, Fk.ev_forB2, Fk.ev_tB, Fk.ek_tB1, Fk.ek_tB0, Fk.ek_tB2, Fk.gv_0, Fk.gv_s, Fk.op_add, Fk.op_sub, Fk.op_mul, Fk.op_fdiv, Fk.op_fdivs, Fk.op_mod, Fk.op_pow, Fk.op_lt, Fk.op_le, Fk.op_gt, Fk.op_ge, Fk.op_eqi, Fk.op_eqb, Fk.op_eqs, Fk.op_nei, Fk.op_neb, Fk.op_nes, Fk.op_addl, Fk.op_addt, Fk.op_adds, Fk.tr_bl, Fk.tr_non, Fk.tr_int, Fk.tr_lst, Fk.tr_tup, Fk.va_nil, Fk.va_cons, Fk.pu_nil, Fk.pu_cons, Fk.bi_lenl, Fk.bi_lent, Fk.bi_lenr, Fk.bi_lenp, Fk.ek_lenr, Fk.bi_int, Fk.bi_min, Fk.bi_max, Fk.bi_listl, Fk.bi_listt, Fk.bi_tupl, Fk.bi_tupt, Fk.bi_tupp, Fk.ek_tupr, Fk.bi_lisp, Fk.ek_lisr, Fk.bi_str, Fk.new_f, Fk.new_t, Fk.newK_f, Fk.ix_t, Fk.ix_l, Fk.ix_r, Fk.ix_p, Fk.ek_ixr, Fk.at_0, Fk.at_1, Fk.at_2, Fk.set_l, Fk.ek_st, Fk.ek_st2, Fk.ixN_0, Fk.ixN_1, Fk.ixN_2, Fk.me_app, Fk.ek_app, Fk.ty_app, Fk.ek_tyl, Fk.me_joinl, Fk.ek_join, Fk.ty_join, Fk.it_seql, Fk.it_seqt, Fk.it_seqr, Fk.it_rngn, Fk.it_rng, Fk.it_rng2, Fk.it_rev, Fk.it_revt, Fk.it_ziptl, Fk.it_zipll, Fk.it_ziptt, Fk.lk_p, Fk.sl_t, Fk.sl_l, Fk.cut_to, Fk.cut_from1, Fk.cut_1, Fk.cut_from, Fk.hl_get, Fk.hl_set, Fk.op_eqL, Fk.op_neL, Fk.op_eqT, Fk.op_neT, tyP, R.bind_ok, R.bind_ex, R.st_ok, R.st_ex, RS2.seq_nx, RS2.seq_rt, RS2.seq_ex, RS2.seq_bk, RS2.seq_ct, List.set_cons_zero, List.set_cons_succ, List.getElem?_cons_zero, List.getElem?_cons_succ, Option.map_some, reduceCtorEq, imp_self, implies_true, Bool.not_true, Bool.not_false, decide_true, decide_false, Nat.reduceAdd, Nat.reduceSub, Nat.reduceLT, Nat.reduceLeDiff, Nat.reduceEqDiff, Int.reduceLT, Int.reduceLE, Int.reduceEq, Int.reduceNeg, Int.reduceToNat, Nat.reduceBEq, and_self, true_and, and_true, Nat.reducePow, Int.reducePow, Int.reduceAdd, Int.reduceSub, Int.reduceMul, List.length_cons, List.length_nil, List.cons_append, List.nil_append, List.append_nil, show (10 : Int).natAbs < 2 ^ 64 from by decide, show (10 : Int) ^ (Int.toNat 9) = 1000000000 from rfl, e0, pr, h9, h1, h10, g1, g2, e]
  exact en_rt rfl
end Lw

set_option Elab.async false
set_option linter.all false
set_option autoImplicit false
set_option maxRecDepth 100000
set_option maxHeartbeats 2000000
namespace Lw
open PySem PySem.Spec PyProof.Rows L2 Fk
theorem val_lex {p zp q r zq : List Int} {x y z : Int} (lp : p.length = zp.length) (h1 : Vs (p ++ x :: q) (zp ++ z :: zq)) (h2 : Vs (p ++ y :: r) (zp ++ z :: zq)) (hxy : x < y) : val (p ++ x :: q) (zp ++ z :: zq) < val (p ++ y :: r) (zp ++ z :: zq) := by
  obtain ⟨_, a1, a2, a3⟩ := Vs.split lp h1
  obtain ⟨_, b1, b2, b3⟩ := Vs.split lp h2
  have va := val_lt a3
  have vb := val_lt b3
  have hp := prd_pos a3.pos
  rw [val_app lp, val_app lp, val, val]
  have : (x + 1) * prd zq ≤ y * prd zq := Int.mul_le_mul_of_nonneg_right (by omega) (by omega)
  rw [Int.add_mul] at this
  omega
theorem before_ok {n : Nat} {ms ns zs : List Int} {L : Hl} (hz : Sz zs) (h1 : Vs ms zs) (h2 : Vs ns zs) :
    run S (n + 1) 23 [.v (.p (.tup (iP ms))), .v (.p (.tup (iP ns)))] L = .ok (.p (.bl (decide (val ms zs < val ns zs)))) L := by
  rw [r23_2]
  have l1 := h1.len
  have l2 := h2.len
  have hz200 := hz.1
  have r1 : Rb ms.length := Nat.le_trans (show ms.length ≤ 200 by omega) (by decide)
  have lp := for_ind (b := forB (run S n) (cnOf S) (.gn 2) b23_0)
    (fun i t L' => L' = L ∧ (∃ y, t = [.v (.p (.tup (iP ms))), .v (.p (.tup (iP ns))), y]) ∧ ms.take i = ns.take i)
    (fun r => r = .ok (.rt (.p (.bl (decide (val ms zs < val ns zs))))) L)
    (rangeP 0 ms.length) 0 [.v (.p (.tup (iP ms))), .v (.p (.tup (iP ns))), .u] L ⟨rfl, ⟨_, rfl⟩, by simp⟩
    fun i x t L' hx hJ => by
      obtain ⟨rfl, ⟨y, rfl⟩, hj⟩ := hJ
      obtain ⟨rfl, hi⟩ := rng_get hx
      rw [Nat.zero_add] at hj ⊢
      have hm : ms[i]? = some ms[i] := List.getElem?_eq_getElem (by omega)
      have hn : ns[i]? = some ns[i] := List.getElem?_eq_getElem (by omega)
      have hzi : zs[i]? = some zs[i] := List.getElem?_eq_getElem (by omega)
      have a1 := at_ip hm
      have a2 := at_ip hn
      by_cases he : ms[i] = ns[i]
      · refine .inl ⟨[.v (.p (.tup (iP ms))), .v (.p (.tup (iP ns))), .v (.p (.int (i : Int)))], L', .inl ?_, rfl, ⟨_, rfl⟩, ?_⟩
        · simp -implicitDefEqProofs only [b23_0, Fk.ev_var, Fk.ev_lit, Fk.ev_con, Fk.ek_ofO, Fk.ev_op, Fk.ek_op, Fk.ev_neg, Fk.ek_neg, Fk.ev_notv, Fk.ek_not, Fk.ek_not2, Fk.ev_andv, Fk.ek_and, Fk.ek_and1, Fk.ek_and0, Fk.ev_orv, Fk.ek_or, Fk.ek_or1, Fk.ek_or0, Fk.ev_chain, Fk.ek_ch, Fk.ek_ch2, Fk.ek_ch3t, Fk.ek_ch3f, Fk.ev_ite, Fk.ek_ite1, Fk.ek_ite0, Fk.ev_call, Fk.ev_bi, Fk.ek_bi1, Fk.ek_bi2, Fk.ev_me, Fk.ek_me, Fk.ek_meb, Fk.ek_me20, Fk.ek_me21, Fk.ek_me22, Fk.ev_tup, Fk.ek_tup, Fk.ek_tup2, Fk.ev_lst, Fk.ek_lst, Fk.ek_lst2, Fk.ev_trev, Fk.ek_trev, Fk.ev_lrng, Fk.ek_lrng, Fk.ev_hsum, Fk.ek_hsum, Fk.ek_hs2, Fk.ev_dct0, Fk.ev_ix, Fk.ek_ix, Fk.ev_sl, Fk.ek_sl, Fk.ek_sl2, Fk.ek_sl3, Fk.ev_fld, Fk.ek_fld, Fk.ev_isi, Fk.ek_isi, Fk.ek_blR, Fk.ev_exi, Fk.ek_exi, Fk.ev_exf, Fk.ek_exf, Fk.ev_comp, Fk.ek_comp, Fk.ek_comp3, Fk.ev_o0, Fk.ev_o1, Fk.ek_o1, Fk.ev_a0, Fk.ev_a1, Fk.ek_a, Fk.ek_a2, Fk.ev_a2, Fk.ek_exv, Fk.ev_its, Fk.ek_its1, Fk.ek_its2, Fk.ev_tand, Fk.ek_tand1, Fk.ek_tand0, Fk.ev_tor, Fk.ek_tor1, Fk.ek_tor0, Fk.ev_tnot, Fk.ek_tnot, Fk.ev_tval, Fk.ek_tval, Fk.ek_tv2, Fk.ev_tyes, Fk.ev_pass, Fk.ev_seq, Fk.ev_expr, Fk.ek_expr, Fk.ev_asg, Fk.ek_asg, Fk.ev_seti, Fk.ek_set, Fk.ek_set2, Fk.ek_set3, Fk.ek_set4, Fk.ev_ret, Fk.ek_ret, Fk.ev_retn, Fk.ev_if, Fk.ek_if1, Fk.ek_if0, Fk.ev_for, Fk.ek_for, Fk.ev_brk, Fk.ev_cont, Fk.ev_while, Fk.ev_frz, Fk.ek_frz, Fk.ek_frzp, Fk.ek_frz2, Fk.ev_raise, Fk.ek_raise, Fk.ek_raise2, Fk.ek_xp0, Fk.ek_xp1, Fk.ev_try, Fk.ek_try0, Fk.ek_tryx, Fk.ek_try1, Fk.ek_tryf, Fk.ek_endr, Fk.ek_endn, Fk.ek_endb, Fk.ek_endc, Fk.ev_forB, Fk.ev_forB2, Fk.ev_tB, Fk.ek_tB1, Fk.ek_tB0, Fk.ek_tB2, Fk.gv_0, Fk.gv_s, Fk.op_add, Fk.op_sub, Fk.op_mul, Fk.op_fdiv, Fk.op_fdivs, Fk.op_mod, Fk.op_pow, Fk.op_lt, Fk.op_le, Fk.op_gt, Fk.op_ge, Fk.op_eqi, Fk.op_eqb, Fk.op_eqs, Fk.op_nei, Fk.op_neb, Fk.op_nes, Fk.op_addl, Fk.op_addt, Fk.op_adds, Fk.tr_bl, Fk.tr_non, Fk.tr_int, Fk.tr_lst, Fk.tr_tup, Fk.va_nil, Fk.va_cons, Fk.pu_nil, Fk.pu_cons, Fk.bi_lenl, Fk.bi_lent, Fk.bi_lenr, Fk.bi_lenp, Fk.ek_lenr, Fk.bi_int, Fk.bi_min, Fk.bi_max, Fk.bi_listl, Fk.bi_listt, Fk.bi_tupl, Fk.bi_tupt, Fk.bi_tupp, Fk.ek_tupr, Fk.bi_lisp, Fk.ek_lisr, Fk.bi_str, Fk.new_f, Fk.new_t, Fk.newK_f, Fk.ix_t, Fk.ix_l, Fk.ix_r, Fk.ix_p, Fk.ek_ixr, Fk.at_0, Fk.at_1, Fk.at_2, Fk.set_l, Fk.ek_st, Fk.ek_st2, Fk.ixN_0, Fk.ixN_1, Fk.ixN_2, Fk.me_app, Fk.ek_app, Fk.ty_app, Fk.ek_tyl, Fk.me_joinl, Fk.ek_join, Fk.ty_join, Fk.it_seql, Fk.it_seqt, Fk.it_seqr, Fk.it_rngn, Fk.it_rng, Fk.it_rng2, Fk.it_rev, Fk.it_revt, Fk.it_ziptl, Fk.it_zipll, Fk.it_ziptt, Fk.lk_p, Fk.sl_t, Fk.sl_l, Fk.cut_to, Fk.cut_from1, Fk.cut_1, Fk.cut_from, Fk.hl_get, Fk.hl_set, Fk.op_eqL, Fk.op_neL, Fk.op_eqT, Fk.op_neT, tyP, R.bind_ok, R.bind_ex, R.st_ok, R.st_ex, RS2.seq_nx, RS2.seq_rt, RS2.seq_ex, RS2.seq_bk, RS2.seq_ct, List.set_cons_zero, List.set_cons_succ, List.getElem?_cons_zero, List.getElem?_cons_succ, Option.map_some, reduceCtorEq, imp_self, implies_true, Bool.not_true, Bool.not_false, decide_true, decide_false, Nat.reduceAdd, Nat.reduceSub, Nat.reduceLT, Nat.reduceLeDiff, Nat.reduceEqDiff, Int.reduceLT, Int.reduceLE, Int.reduceEq, Int.reduceNeg, Int.reduceToNat, Nat.reduceBEq, and_self, true_and, and_true, Nat.reducePow, Int.reducePow, Int.reduceAdd, Int.reduceSub, Int.reduceMul, List.length_cons, List.length_nil, List.cons_append, List.nil_append, List.append_nil, a1, a2, he]
        · rw [take_snoc hm, take_snoc hn, hj, he]
      · have s1 : ms = ms.take i ++ ms[i] :: ms.drop (i + 1) := by rw [← List.drop_eq_getElem_cons (by omega), List.take_append_drop]
        have s2 : ns = ms.take i ++ ns[i] :: ns.drop (i + 1) := by rw [hj, ← List.drop_eq_getElem_cons (by omega), List.take_append_drop]
        have s3 : zs = zs.take i ++ zs[i] :: zs.drop (i + 1) := by rw [← List.drop_eq_getElem_cons (by omega), List.take_append_drop]
        have lt : (ms.take i).length = (zs.take i).length := by simp; omega
        generalize ms[i] = a at *
        generalize ns[i] = c at *
        have ed : decide (a < c) = decide (val ms zs < val ns zs) := by
          have w1 := h1
          have w2 := h2
          rw [s1, s3] at w1
          rw [s2, s3] at w2
          by_cases hac : a < c
          · have := val_lex lt w1 w2 hac
            rw [← s1, ← s2, ← s3] at this
            rw [decide_eq_true hac, decide_eq_true this]
          · have := val_lex lt w2 w1 (show c < a by omega)
            rw [← s1, ← s2, ← s3] at this
            rw [decide_eq_false hac, decide_eq_false (by omega)]
        refine .inr (.inl ⟨.p (.bl (decide (val ms zs < val ns zs))), L', ?_, rfl⟩)
        simp -implicitDefEqProofs only [b23_0, Fk.ev_var, Fk.ev_lit, Fk.ev_con, Fk.ek_ofO, Fk.ev_op, Fk.ek_op, Fk.ev_neg, Fk.ek_neg, Fk.ev_notv, Fk.ek_not, Fk.ek_not2, Fk.ev_andv, Fk.ek_and, Fk.ek_and1, Fk.ek_and0, Fk.ev_orv, Fk.ek_or, Fk.ek_or1, Fk.ek_or0, Fk.ev_chain, Fk.ek_ch, Fk.ek_ch2, Fk.ek_ch3t, Fk.ek_ch3f, Fk.ev_ite, Fk.ek_ite1, Fk.ek_ite0, Fk.ev_call, Fk.ev_bi, Fk.ek_bi1, Fk.ek_bi2, Fk.ev_me, Fk.ek_me, Fk.ek_meb, Fk.ek_me20, Fk.ek_me21, Fk.ek_me22, Fk.ev_tup, Fk.ek_tup, Fk.ek_tup2, Fk.ev_lst, Fk.ek_lst, Fk.ek_lst2, Fk.ev_trev, Fk.ek_trev, Fk.ev_lrng, Fk.ek_lrng, Fk.ev_hsum, Fk.ek_hsum, Fk.ek_hs2, Fk.ev_dct0, Fk.ev_ix, Fk.ek_ix, Fk.ev_sl, Fk.ek_sl, Fk.ek_sl2, Fk.ek_sl3, Fk.ev_fld, Fk.ek_fld, Fk.ev_isi, Fk.ek_isi, Fk.ek_blR, Fk.ev_exi, Fk.ek_exi, Fk.ev_exf, Fk.ek_exf, Fk.ev_comp, Fk.ek_comp, Fk.ek_comp3, Fk.ev_o0, Fk.ev_o1, Fk.ek_o1, Fk.ev_a0, Fk.ev_a1, Fk.ek_a, Fk.ek_a2, Fk.ev_a2, Fk.ek_exv, Fk.ev_its, Fk.ek_its1, Fk.ek_its2, Fk.ev_tand, Fk.ek_tand1, Fk.ek_tand0, Fk.ev_tor, Fk.ek_tor1, Fk.ek_tor0, Fk.ev_tnot, Fk.ek_tnot, Fk.ev_tval, Fk.ek_tval, Fk.ek_tv2, Fk.ev_tyes, Fk.ev_pass, Fk.ev_seq, Fk.ev_expr, Fk.ek_expr, Fk.ev_asg, Fk.ek_asg, Fk.ev_seti, Fk.ek_set, Fk.ek_set2, Fk.ek_set3, Fk.ek_set4, Fk.ev_ret, Fk.ek_ret, Fk.ev_retn, Fk.ev_if, Fk.ek_if1, Fk.ek_if0, Fk.ev_for, Fk.ek_for, Fk.ev_brk, Fk.ev_cont, Fk.ev_while, Fk.ev_frz, Fk.ek_frz, Fk.ek_frzp, Fk.ek_frz2, Fk.ev_raise, Fk.ek_raise, Fk.ek_raise2, Fk.ek_xp0, Fk.ek_xp1, Fk.ev_try, Fk.ek_try0, Fk.ek_tryx, Fk.ek_try1, Fk.ek_tryf, Fk.ek_endr, Fk.ek_endn, Fk.ek_endb, Fk.ek_endc, Fk.ev_forB, Fk.ev_forB2, Fk.ev_tB, Fk.ek_tB1, Fk.ek_tB0, Fk.ek_tB2, Fk.gv_0, Fk.gv_s, Fk.op_add, Fk.op_sub, Fk.op_mul, Fk.op_fdiv, Fk.op_fdivs, Fk.op_mod, Fk.op_pow, Fk.op_lt, Fk.op_le, Fk.op_gt, Fk.op_ge, Fk.op_eqi, Fk.op_eqb, Fk.op_eqs, Fk.op_nei, Fk.op_neb, Fk.op_nes, Fk.op_addl, Fk.op_addt, Fk.op_adds, Fk.tr_bl, Fk.tr_non, Fk.tr_int, Fk.tr_lst, Fk.tr_tup, Fk.va_nil, Fk.va_cons, Fk.pu_nil, Fk.pu_cons, Fk.bi_lenl, Fk.bi_lent, Fk.bi_lenr, Fk.bi_lenp, Fk.ek_lenr, Fk.bi_int, Fk.bi_min, Fk.bi_max, Fk.bi_listl, Fk.bi_listt, Fk.bi_tupl, Fk.bi_tupt, Fk.bi_tupp, Fk.ek_tupr, Fk.bi_lisp, Fk.ek_lisr, Fk.bi_str, Fk.new_f, Fk.new_t, Fk.newK_f, Fk.ix_t, Fk.ix_l, Fk.ix_r, Fk.ix_p, Fk.ek_ixr, Fk.at_0, Fk.at_1, Fk.at_2, Fk.set_l, Fk.ek_st, Fk.ek_st2, Fk.ixN_0, Fk.ixN_1, Fk.ixN_2, Fk.me_app, Fk.ek_app, Fk.ty_app, Fk.ek_tyl, Fk.me_joinl, Fk.ek_join, Fk.ty_join, Fk.it_seql, Fk.it_seqt, Fk.it_seqr, Fk.it_rngn, Fk.it_rng, Fk.it_rng2, Fk.it_rev, Fk.it_revt, Fk.it_ziptl, Fk.it_zipll, Fk.it_ziptt, Fk.lk_p, Fk.sl_t, Fk.sl_l, Fk.cut_to, Fk.cut_from1, Fk.cut_1, Fk.cut_from, Fk.hl_get, Fk.hl_set, Fk.op_eqL, Fk.op_neL, Fk.op_eqT, Fk.op_neT, tyP, R.bind_ok, R.bind_ex, R.st_ok, R.st_ex, RS2.seq_nx, RS2.seq_rt, RS2.seq_ex, RS2.seq_bk, RS2.seq_ct, List.set_cons_zero, List.set_cons_succ, List.getElem?_cons_zero, List.getElem?_cons_succ, Option.map_some, reduceCtorEq, imp_self, implies_true, Bool.not_true, Bool.not_false, decide_true, decide_false, Nat.reduceAdd, Nat.reduceSub, Nat.reduceLT, Nat.reduceLeDiff, Nat.reduceEqDiff, Int.reduceLT, Int.reduceLE, Int.reduceEq, Int.reduceNeg, Int.reduceToNat, Nat.reduceBEq, and_self, true_and, and_true, Nat.reducePow, Int.reducePow, Int.reduceAdd, Int.reduceSub, Int.reduceMul, List.length_cons, List.length_nil, List.cons_append, List.nil_append, List.append_nil, a1, a2, he, ed]
  rcases lp with ⟨t', L', e, rfl, ⟨y, rfl⟩, hj⟩ | e
  · rw [rng_len, Nat.zero_add, List.take_length, l1, ← l2, List.take_length] at hj
    subst hj
    simp -implicitDefEqProofs only [b23, Fk.ev_var, Fk.ev_lit, Fk.ev_con, Fk.ek_ofO, Fk.ev_op, Fk.ek_op, Fk.ev_neg, Fk.ek_neg, Fk.ev_notv, Fk.ek_not, Fk.ek_not2, Fk.ev_andv, Fk.ek_and, Fk.ek_and1, Fk.ek_and0, Fk.ev_orv, Fk.ek_or, Fk.ek_or1, Fk.ek_or0, Fk.ev_chain, Fk.ek_ch, Fk.ek_ch2, Fk.ek_ch3t, Fk.ek_ch3f, Fk.ev_ite, Fk.ek_ite1, Fk.ek_ite0, Fk.ev_call, Fk.ev_bi, Fk.ek_bi1, Fk.ek_bi2, Fk.ev_me, Fk.ek_me, Fk.ek_meb, Fk.ek_me20, Fk.ek_me21, Fk.ek_me22, Fk.ev_tup, Fk.ek_tup, Fk.ek_tup2, Fk.ev_lst, Fk.ek_lst, Fk.ek_lst2, Fk.ev_trev, Fk.ek_trev, Fk.ev_lrng, Fk.ek_lrng, Fk.ev_hsum, Fk.ek_hsum, Fk.ek_hs2, Fk.ev_dct0, Fk.ev_ix, Fk.ek_ix, Fk.ev_sl, Fk.ek_sl, Fk.ek_sl2, Fk.ek_sl3, Fk.ev_fld, Fk.ek_fld, Fk.ev_isi, Fk.ek_isi, Fk.ek_blR, Fk.ev_exi, Fk.ek_exi, Fk.ev_exf, Fk.ek_exf, Fk.ev_comp, Fk.ek_comp, Fk.ek_comp3, Fk.ev_o0, Fk.ev_o1, Fk.ek_o1, Fk.ev_a0, Fk.ev_a1, Fk.ek_a, Fk.ek_a2, Fk.ev_a2, Fk.ek_exv, Fk.ev_its, Fk.ek_its1, Fk.ek_its2, Fk.ev_tand, Fk.ek_tand1, Fk.ek_tand0, Fk.ev_tor, Fk.ek_tor1, Fk.ek_tor0, Fk.ev_tnot, Fk.ek_tnot, Fk.ev_tval, Fk.ek_tval, Fk.ek_tv2, Fk.ev_tyes, Fk.ev_pass, Fk.ev_seq, Fk.ev_expr, Fk.ek_expr, Fk.ev_asg, Fk.ek_asg, Fk.ev_seti, Fk.ek_set, Fk.ek_set2, Fk.ek_set3, Fk.ek_set4, Fk.ev_ret, Fk.ek_ret, Fk.ev_retn, Fk.ev_if, Fk.ek_if1, Fk.ek_if0, Fk.ev_for, Fk.ek_for, Fk.ev_brk, Fk.ev_cont, Fk.ev_while, Fk.ev_frz, Fk.ek_frz, Fk.ek_frzp, Fk.ek_frz2, Fk.ev_raise, Fk.ek_raise, Fk.ek_raise2, Fk.ek_xp0, Fk.ek_xp1, Fk.ev_try, Fk.ek_try0, Fk.ek_tryx, Fk.ek_try1, Fk.ek_tryf, Fk.ek_endr, Fk.ek_endn, Fk.ek_endb, Fk.ek_endc, Fk.ev_forB, Fk.ev_forB2, Fk.ev_tB, Fk.ek_tB1, Fk.ek_tB0, Fk.ek_tB2, Fk.gv_0, Fk.gv_s, Fk.op_add, Fk.op_sub, Fk.op_mul, Fk.op_fdiv, Fk.op_fdivs, Fk.op_mod, Fk.op_pow, Fk.op_lt, Fk.op_le, Fk.op_gt, Fk.op_ge, Fk.op_eqi, Fk.op_eqb, Fk.op_eqs, Fk.op_nei, Fk.op_neb, Fk.op_nes, Fk.op_addl, Fk.op_addt, Fk.op_adds, Fk.tr_bl, Fk.tr_non, Fk.tr_int, Fk.tr_lst, Fk.tr_tup, Fk.va_nil, Fk.va_cons, Fk.pu_nil, Fk.pu_cons, Fk.bi_lenl, Fk.bi_lent, Fk.bi_lenr, Fk.bi_lenp, Fk.ek_lenr, Fk.bi_int, Fk.bi_min, Fk.bi_max, Fk.bi_listl, Fk.bi_listt, Fk.bi_tupl, Fk.bi_tupt, Fk.bi_tupp, Fk.ek_tupr, Fk.bi_lisp, Fk.ek_lisr, Fk.bi_str, Fk.new_f, Fk.new_t, Fk.newK_f, Fk.ix_t, Fk.ix_l, Fk.ix_r, Fk.ix_p, Fk.ek_ixr, Fk.at_0, Fk.at_1, Fk.at_2, Fk.set_l, Fk.ek_st, Fk.ek_st2, Fk.ixN_0, Fk.ixN_1, Fk.ixN_2, Fk.me_app, Fk.ek_app, Fk.ty_app, Fk.ek_tyl, Fk.me_joinl, Fk.ek_join, Fk.ty_join, Fk.it_seql, Fk.it_seqt, Fk.it_seqr, Fk.it_rngn, Fk.it_rng, Fk.it_rng2, Fk.it_rev, Fk.it_revt, Fk.it_ziptl, Fk.it_zipll, Fk.it_ziptt, Fk.lk_p, Fk.sl_t, Fk.sl_l, Fk.cut_to, Fk.cut_from1, Fk.cut_1, Fk.cut_from, Fk.hl_get, Fk.hl_set, Fk.op_eqL, Fk.op_neL, Fk.op_eqT, Fk.op_neT, tyP, R.bind_ok, R.bind_ex, R.st_ok, R.st_ex, RS2.seq_nx, RS2.seq_rt, RS2.seq_ex, RS2.seq_bk, RS2.seq_ct, List.set_cons_zero, List.set_cons_succ, List.getElem?_cons_zero, List.getElem?_cons_succ, Option.map_some, reduceCtorEq, imp_self, implies_true, Bool.not_true, Bool.not_false, decide_true, decide_false, Nat.reduceAdd, Nat.reduceSub, Nat.reduceLT, Nat.reduceLeDiff, Nat.reduceEqDiff, Int.reduceLT, Int.reduceLE, Int.reduceEq, Int.reduceNeg, Int.reduceToNat, Nat.reduceBEq, and_self, true_and, and_true, Nat.reducePow, Int.reducePow, Int.reduceAdd, Int.reduceSub, Int.reduceMul, List.length_cons, List.length_nil, List.cons_append, List.nil_append, List.append_nil, List.length_map, r1, e, Int.lt_irrefl]
    exact en_rt rfl
  · simp -implicitDefEqProofs only [b23, Fk.ev_var, Fk.ev_lit, Fk.ev_con, Fk.ek_ofO, Fk.ev_op, Fk.ek_op, Fk.ev_neg, Fk.ek_neg, Fk.ev_notv, Fk.ek_not, Fk.ek_not2, Fk.ev_andv, Fk.ek_and, Fk.ek_and1, Fk.ek_and0, Fk.ev_orv, Fk.ek_or, Fk.ek_or1, Fk.ek_or0, Fk.ev_chain, Fk.ek_ch, Fk.ek_ch2, Fk.ek_ch3t, Fk.ek_ch3f, Fk.ev_ite, Fk.ek_ite1, Fk.ek_ite0, Fk.ev_call, Fk.ev_bi, Fk.ek_bi1, Fk.ek_bi2, Fk.ev_me, Fk.ek_me, Fk.ek_meb, Fk.ek_me20, Fk.ek_me21, Fk.ek_me22, Fk.ev_tup, Fk.ek_tup, Fk.ek_tup2, Fk.ev_lst, Fk.ek_lst, Fk.ek_lst2, Fk.ev_trev, Fk.ek_trev, Fk.ev_lrng, Fk.ek_lrng, Fk.ev_hsum, Fk.ek_hsum, Fk.ek_hs2, Fk.ev_dct0, Fk.ev_ix, Fk.ek_ix, Fk.ev_sl, Fk.ek_sl, Fk.ek_sl2, Fk.ek_sl3, Fk.ev_fld, Fk.ek_fld, Fk.ev_isi, Fk.ek_isi, Fk.ek_blR, Fk.ev_exi, Fk.ek_exi, Fk.ev_exf, Fk.ek_exf, Fk.ev_comp, Fk.ek_comp, Fk.ek_comp3, Fk.ev_o0, Fk.ev_o1, Fk.ek_o1, Fk.ev_a0, Fk.ev_a1, Fk.ek_a, Fk.ek_a2, Fk.ev_a2, Fk.ek_exv, Fk.ev_its, Fk.ek_its1, Fk.ek_its2, Fk.ev_tand, Fk.ek_tand1, Fk.ek_tand0, Fk.ev_tor, Fk.ek_tor1, Fk.ek_tor0, Fk.ev_tnot, Fk.ek_tnot, Fk.ev_tval, Fk.ek_tval, Fk.ek_tv2, Fk.ev_tyes, Fk.ev_pass, Fk.ev_seq, Fk.ev_expr, Fk.ek_expr, Fk.ev_asg, Fk.ek_asg, Fk.ev_seti, Fk.ek_set, Fk.ek_set2, Fk.ek_set3, Fk.ek_set4, Fk.ev_ret, Fk.ek_ret, Fk.ev_retn, Fk.ev_if, Fk.ek_if1, Fk.ek_if0, Fk.ev_for, Fk.ek_for, Fk.ev_brk, Fk.ev_cont, Fk.ev_while, Fk.ev_frz, Fk.ek_frz, Fk.ek_frzp, Fk.ek_frz2, Fk.ev_raise, Fk.ek_raise, Fk.ek_raise2, Fk.ek_xp0, Fk.ek_xp1, Fk.ev_try, Fk.ek_try0, Fk.ek_tryx, Fk.ek_try1, Fk.ek_tryf, Fk.ek_endr, Fk.ek_endn, Fk.ek_endb, Fk.ek_endc, Fk.ev_forB, Fk.ev_forB2, Fk.ev_tB, Fk.ek_tB1, Fk.ek_tB0, Fk.ek_tB2, Fk.gv_0, Fk.gv_s, Fk.op_add, Fk.op_sub, Fk.op_mul, Fk.op_fdiv, Fk.op_fdivs, Fk.op_mod, Fk.op_pow, Fk.op_lt, Fk.op_le, Fk.op_gt, Fk.op_ge, Fk.op_eqi, Fk.op_eqb, Fk.op_eqs, Fk.op_nei, Fk.op_neb, Fk.op_nes, Fk.op_addl, Fk.op_addt, Fk.op_adds, Fk.tr_bl, Fk.tr_non, Fk.tr_int, Fk.tr_lst, Fk.tr_tup, Fk.va_nil, Fk.va_cons, Fk.pu_nil, Fk.pu_cons, Fk.bi_lenl, Fk.bi_lent, Fk.bi_lenr, Fk.bi_lenp, Fk.ek_lenr, Fk.bi_int, Fk.bi_min, Fk.bi_max, Fk.bi_listl, Fk.bi_listt, Fk.bi_tupl, Fk.bi_tupt, Fk.bi_tupp, Fk.ek_tupr, Fk.bi_lisp, Fk.ek_lisr, Fk.bi_str, Fk.new_f, Fk.new_t, Fk.newK_f, Fk.ix_t, Fk.ix_l, Fk.ix_r, Fk.ix_p, Fk.ek_ixr, Fk.at_0, Fk.at_1, Fk.at_2, Fk.set_l, Fk.ek_st, Fk.ek_st2, Fk.ixN_0, Fk.ixN_1, Fk.ixN_2, Fk.me_app, Fk.ek_app, Fk.ty_app, Fk.ek_tyl, Fk.me_joinl, Fk.ek_join, Fk.ty_join, Fk.it_seql, Fk.it_seqt, Fk.it_seqr, Fk.it_rngn, Fk.it_rng, Fk.it_rng2, Fk.it_rev, Fk.it_revt, Fk.it_ziptl, Fk.it_zipll, Fk.it_ziptt, Fk.lk_p, Fk.sl_t, Fk.sl_l, Fk.cut_to, Fk.cut_from1, Fk.cut_1, Fk.cut_from, Fk.hl_get, Fk.hl_set, Fk.op_eqL, Fk.op_neL, Fk.op_eqT, Fk.op_neT, tyP, R.bind_ok, R.bind_ex, R.st_ok, R.st_ex, RS2.seq_nx, RS2.seq_rt, RS2.seq_ex, RS2.seq_bk, RS2.seq_ct, List.set_cons_zero, List.set_cons_succ, List.getElem?_cons_zero, List.getElem?_cons_succ, Option.map_some, reduceCtorEq, imp_self, implies_true, Bool.not_true, Bool.not_false, decide_true, decide_false, Nat.reduceAdd, Nat.reduceSub, Nat.reduceLT, Nat.reduceLeDiff, Nat.reduceEqDiff, Int.reduceLT, Int.reduceLE, Int.reduceEq, Int.reduceNeg, Int.reduceToNat, Nat.reduceBEq, and_self, true_and, and_true, Nat.reducePow, Int.reducePow, Int.reduceAdd, Int.reduceSub, Int.reduceMul, List.length_cons, List.length_nil, List.cons_append, List.nil_append, List.append_nil, List.length_map, r1, e]
    exact en_rt rfl
theorem bent_ok {n m : Nat} {b : List P} {ms zs ks : List Int} {T : Hl} (hb : BagOk m b) (hm : m < 2 ^ 58) (hz : Sz zs) (hv : Vs ms zs) (hk : ∀ k ∈ ks, 0 ≤ k ∧ k < zs.length) (hT : TC T) :
    ∃ b', BagOk (m + 2) b' ∧ run S (n + 5) 5 [.v (.ref 0), .v (.p (.tup (iP ms))), .v (.p (.lst (iP ks))), .v (.p (.lst (iP zs)))] (.lst b :: T) = .ok (.p (.bl true)) (.lst b' :: T) := by
  rw [r5_4]
  obtain ⟨b1, hb1, e1⟩ := marks_bad (n := n) (T := T) hb (by omega) hz hv hk
  have e2 := states_bad (n := n) (L := .lst b1 :: T) hz hv (cl_lst hT)
  obtain ⟨b2, hb2, e3⟩ := numbers_bad (n := n) (T := T) hb1 (by omega) hz
  have e4 := number_ok (n := n + 3) (L := .lst b2 :: T) hz hv
  have e5 := leads_ok (n := n + 1) (L := .lst b2 :: T) hz hv (cl_lst hT)
  refine ⟨b2, hb2, ?_⟩
  simp -implicitDefEqProofs only [b5, Fk.ev_var, Fk.ev_lit, Fk.ev_con, Fk.ek_ofO, Fk.ev_op, Fk.ek_op, Fk.ev_neg, Fk.ek_neg, Fk.ev_notv, Fk.ek_not, Fk.ek_not2, Fk.ev_andv, Fk.ek_and, Fk.ek_and1, Fk.ek_and0, Fk.ev_orv, Fk.ek_or, Fk.ek_or1, Fk.ek_or0, Fk.ev_chain, Fk.ek_ch, Fk.ek_ch2, Fk.ek_ch3t, Fk.ek_ch3f, Fk.ev_ite, Fk.ek_ite1, Fk.ek_ite0, Fk.ev_call, Fk.ev_bi, Fk.ek_bi1, Fk.ek_bi2, Fk.ev_me, Fk.ek_me, Fk.ek_meb, Fk.ek_me20, Fk.ek_me21, Fk.ek_me22, Fk.ev_tup, Fk.ek_tup, Fk.ek_tup2, Fk.ev_lst, Fk.ek_lst, Fk.ek_lst2, Fk.ev_trev, Fk.ek_trev, Fk.ev_lrng, Fk.ek_lrng, Fk.ev_hsum, Fk.ek_hsum, Fk.ek_hs2, Fk.ev_dct0, Fk.ev_ix, Fk.ek_ix, Fk.ev_sl, Fk.ek_sl, Fk.ek_sl2, Fk.ek_sl3, Fk.ev_fld, Fk.ek_fld, Fk.ev_isi, Fk.ek_isi, Fk.ek_blR, Fk.ev_exi, Fk.ek_exi, Fk.ev_exf, Fk.ek_exf, Fk.ev_comp, Fk.ek_comp, Fk.ek_comp3, Fk.ev_o0, Fk.ev_o1, Fk.ek_o1, Fk.ev_a0, Fk.ev_a1, Fk.ek_a, Fk.ek_a2, Fk.ev_a2, Fk.ek_exv, Fk.ev_its, Fk.ek_its1, Fk.ek_its2, Fk.ev_tand, Fk.ek_tand1, Fk.ek_tand0, Fk.ev_tor, Fk.ek_tor1, Fk.ek_tor0, Fk.ev_tnot, Fk.ek_tnot, Fk.ev_tval, Fk.ek_tval, Fk.ek_tv2, Fk.ev_tyes, Fk.ev_pass, Fk.ev_seq, Fk.ev_expr, Fk.ek_expr, Fk.ev_asg, Fk.ek_asg, Fk.ev_seti, Fk.ek_set, Fk.ek_set2, Fk.ek_set3, Fk.ek_set4, Fk.ev_ret, Fk.ek_ret, Fk.ev_retn, Fk.ev_if, Fk.ek_if1, Fk.ek_if0, Fk.ev_for, Fk.ek_for, Fk.ev_brk, Fk.ev_cont, Fk.ev_while, Fk.ev_frz, Fk.ek_frz, Fk.ek_frzp, Fk.ek_frz2, Fk.ev_raise, Fk.ek_raise, Fk.ek_raise2, Fk.ek_xp0, Fk.ek_xp1, Fk.ev_try, Fk.ek_try0, Fk.ek_tryx, Fk.ek_try1, Fk.ek_tryf, Fk.ek_endr, Fk.ek_endn, Fk.ek_endb, Fk.ek_endc, Fk.ev_forB, Fk.ev_forB2, Fk.ev_tB, Fk.ek_tB1, Fk.ek_tB0, Fk.ek_tB2, Fk.gv_0, Fk.gv_s, Fk.op_add, Fk.op_sub, Fk.op_mul, Fk.op_fdiv, Fk.op_fdivs, Fk.op_mod, Fk.op_pow, Fk.op_lt, Fk.op_le, Fk.op_gt, Fk.op_ge, Fk.op_eqi, Fk.op_eqb, Fk.op_eqs, Fk.op_nei, Fk.op_neb, Fk.op_nes, Fk.op_addl, Fk.op_addt, Fk.op_adds, Fk.tr_bl, Fk.tr_non, Fk.tr_int, Fk.tr_lst, Fk.tr_tup, Fk.va_nil, Fk.va_cons, Fk.pu_nil, Fk.pu_cons, Fk.bi_lenl, Fk.bi_lent, Fk.bi_lenr, Fk.bi_lenp, Fk.ek_lenr, Fk.bi_int, Fk.bi_min, Fk.bi_max, Fk.bi_listl, Fk.bi_listt, Fk.bi_tupl, Fk.bi_tupt, Fk.bi_tupp, Fk.ek_tupr, Fk.bi_lisp, Fk.ek_lisr, Fk.bi_str, Fk.new_f, Fk.new_t, Fk.newK_f, Fk.ix_t, Fk.ix_l, Fk.ix_r, Fk.ix_p, Fk.ek_ixr, Fk.at_0, Fk.at_1, Fk.at_2, Fk.set_l, Fk.ek_st, Fk.ek_st2, Fk.ixN_0, Fk.ixN_1, Fk.ixN_2, Fk.me_app, Fk.ek_app, Fk.ty_app, Fk.ek_tyl, Fk.me_joinl, Fk.ek_join, Fk.ty_join, Fk.it_seql, Fk.it_seqt, Fk.it_seqr, Fk.it_rngn, Fk.it_rng, Fk.it_rng2, Fk.it_rev, Fk.it_revt, Fk.it_ziptl, Fk.it_zipll, Fk.it_ziptt, Fk.lk_p, Fk.sl_t, Fk.sl_l, Fk.cut_to, Fk.cut_from1, Fk.cut_1, Fk.cut_from, Fk.hl_get, Fk.hl_set, Fk.op_eqL, Fk.op_neL, Fk.op_eqT, Fk.op_neT, tyP, R.bind_ok, R.bind_ex, R.st_ok, R.st_ex, RS2.seq_nx, RS2.seq_rt, RS2.seq_ex, RS2.seq_bk, RS2.seq_ct, List.set_cons_zero, List.set_cons_succ, List.getElem?_cons_zero, List.getElem?_cons_succ, Option.map_some, reduceCtorEq, imp_self, implies_true, Bool.not_true, Bool.not_false, decide_true, decide_false, Nat.reduceAdd, Nat.reduceSub, Nat.reduceLT, Nat.reduceLeDiff, Nat.reduceEqDiff, Int.reduceLT, Int.reduceLE, Int.reduceEq, Int.reduceNeg, Int.reduceToNat, Nat.reduceBEq, and_self, true_and, and_true, Nat.reducePow, Int.reducePow, Int.reduceAdd, Int.reduceSub, Int.reduceMul, List.length_cons, List.length_nil, List.cons_append, List.nil_append, List.append_nil, e1, e2, e3, e4, e5]
  exact en_rt rfl
theorem marks_ok {n m : Nat} {b : List P} {zs : List Int} {T : Hl} (hb : BagOk m b) (hm : m < 2 ^ 58) (hz : Sz zs) (hT : TC T) :
    ∃ b' ms, BagOk (m + 400) b' ∧ Vs ms zs ∧ run S (n + 2) 22 [.v (.ref 0), .v (.p (.lst (iP zs)))] (.lst b :: T) = .ok (.p (.tup (iP ms))) (.lst b' :: T) := by
  rw [r22_2]
  have hz200 := hz.1
  have lp := for_all (b := forB (run S (n + 1)) (cnOf S) (.gn 3) b22_0) (xs := iP zs) (t := [.v (.ref 0), .v (.p (.lst (iP zs))), .v (.ref (T.length + 1)), .u, .u, .u]) (L := .lst b :: (T ++ [.lst []]))
    (fun i t L' => ∃ b' ms y3 y4 y5, BagOk (m + 2 * i) b' ∧ Vs ms (zs.take i) ∧ L' = .lst b' :: (T ++ [.lst (iP ms)]) ∧ t = [.v (.ref 0), .v (.p (.lst (iP zs))), .v (.ref (T.length + 1)), y3, y4, y5])
    ⟨b, [], _, _, _, hb, trivial, rfl, rfl⟩
    fun i x t L' hx hJ => by
      obtain ⟨b', ms, y3, y4, y5, hb', hv, rfl, rfl⟩ := hJ
      obtain ⟨z, hzi, rfl⟩ : ∃ z, zs[i]? = some z ∧ x = .int z := by
        rw [iP, List.getElem?_map] at hx
        cases hq : zs[i]? with
        | none => rw [hq] at hx; cases hx
        | some z => rw [hq] at hx; exact ⟨z, rfl, by cases hx; rfl⟩
      have hi := (List.getElem?_eq_some_iff.mp hzi).1
      have hz1 := hz.2 z (List.mem_of_getElem? hzi)
      obtain ⟨d1, b1, h10, h11, hb1, e1⟩ := draw_ok (n := n) (T := T ++ [.lst (iP ms)]) (s := 4) hb' (by omega) (by decide) (by decide)
      obtain ⟨d2, b2, h20, h21, hb2, e2⟩ := draw_ok (n := n) (T := T ++ [.lst (iP ms)]) (s := z) hb1 (by omega) (by omega) (by omega)
      have lm := hv.len
      have al : (iP ms).length < sizeLine := by
        rw [iP, List.length_map, lm, List.length_take]
        exact Nat.lt_of_lt_of_le (show _ < 1000 by omega) (by decide)
      have fin : ∀ mk : Int, 0 ≤ mk → mk < z → Vs (ms ++ [mk]) (zs.take (i + 1)) := fun mk a c => by
        rw [take_snoc hzi]
        exact Vs.app hv ⟨a, c, trivial⟩
      by_cases c0 : d1 = 0
      · refine ⟨[.v (.ref 0), .v (.p (.lst (iP zs))), .v (.ref (T.length + 1)), .v (.p (.int z)), .v (.p (.int d1)), .v (.p (.int 0))], .lst b2 :: (T ++ [.lst (iP ms ++ [.int 0])]), ?_, b2, ms ++ [0], _, _, _, hb2.le (by omega), fin 0 (by decide) (by omega), by simp [iP], rfl⟩
        subst c0
        simp -implicitDefEqProofs only [b22_0, Fk.ev_var, Fk.ev_lit, Fk.ev_con, Fk.ek_ofO, Fk.ev_op, Fk.ek_op, Fk.ev_neg, Fk.ek_neg, Fk.ev_notv, Fk.ek_not, Fk.ek_not2, Fk.ev_andv, Fk.ek_and, Fk.ek_and1, Fk.ek_and0, Fk.ev_orv, Fk.ek_or, Fk.ek_or1, Fk.ek_or0, Fk.ev_chain, Fk.ek_ch, Fk.ek_ch2, Fk.ek_ch3t, Fk.ek_ch3f, Fk.ev_ite, Fk.ek_ite1, Fk.ek_ite0, Fk.ev_call, Fk.ev_bi, Fk.ek_bi1, Fk.ek_bi2, Fk.ev_me, Fk.ek_me, Fk.ek_meb, Fk.ek_me20, Fk.ek_me21, Fk.ek_me22, Fk.ev_tup, Fk.ek_tup, Fk.ek_tup2, Fk.ev_lst, Fk.ek_lst, Fk.ek_lst2, Fk.ev_trev, Fk.ek_trev, Fk.ev_lrng, Fk.ek_lrng, Fk.ev_hsum, Fk.ek_hsum, Fk.ek_hs2, Fk.ev_dct0, Fk.ev_ix, Fk.ek_ix, Fk.ev_sl, Fk.ek_sl, Fk.ek_sl2, Fk.ek_sl3, Fk.ev_fld, Fk.ek_fld, Fk.ev_isi, Fk.ek_isi, Fk.ek_blR, Fk.ev_exi, Fk.ek_exi, Fk.ev_exf, Fk.ek_exf, Fk.ev_comp, Fk.ek_comp, Fk.ek_comp3, Fk.ev_o0, Fk.ev_o1, Fk.ek_o1, Fk.ev_a0, Fk.ev_a1, Fk.ek_a, Fk.ek_a2, Fk.ev_a2, Fk.ek_exv, Fk.ev_its, Fk.ek_its1, Fk.ek_its2, Fk.ev_tand, Fk.ek_tand1, Fk.ek_tand0, Fk.ev_tor, Fk.ek_tor1, Fk.ek_tor0, Fk.ev_tnot, Fk.ek_tnot, Fk.ev_tval, Fk.ek_tval, Fk.ek_tv2, Fk.ev_tyes, Fk.ev_pass, Fk.ev_seq, Fk.ev_expr, Fk.ek_expr, Fk.ev_asg, Fk.ek_asg, Fk.ev_seti, Fk.ek_set, Fk.ek_set2, Fk.ek_set3, Fk.ek_set4, Fk.ev_ret, Fk.ek_ret, Fk.ev_retn, Fk.ev_if, Fk.ek_if1, Fk.ek_if0, Fk.ev_for, Fk.ek_for, Fk.ev_brk, Fk.ev_cont, Fk.ev_while, Fk.ev_frz, Fk.ek_frz, Fk.ek_frzp, Fk.ek_frz2, Fk.ev_raise, Fk.ek_raise, Fk.ek_raise2, Fk.ek_xp0, Fk.ek_xp1, Fk.ev_try, Fk.ek_try0, Fk.ek_tryx, Fk.ek_try1, Fk.ek_tryf, Fk.ek_endr, Fk.ek_endn, Fk.ek_endb, Fk.ek_endc, Fk.ev_forB, Fk.ev_forB2, Fk.ev_tB, Fk.ek_tB1, Fk.ek_tB0, Fk.ek_tB2, Fk.gv_0, Fk.gv_s, Fk.op_add, Fk.op_sub, Fk.op_mul, Fk.op_fdiv, Fk.op_fdivs, Fk.op_mod, Fk.op_pow, Fk.op_lt, Fk.op_le, Fk.op_gt, Fk.op_ge, Fk.op_eqi, Fk.op_eqb, Fk.op_eqs, Fk.op_nei, Fk.op_neb, Fk.op_nes, Fk.op_addl, Fk.op_addt, Fk.op_adds, Fk.tr_bl, Fk.tr_non, Fk.tr_int, Fk.tr_lst, Fk.tr_tup, Fk.va_nil, Fk.va_cons, Fk.pu_nil, Fk.pu_cons, Fk.bi_lenl, Fk.bi_lent, Fk.bi_lenr, Fk.bi_lenp, Fk.ek_lenr, Fk.bi_int, Fk.bi_min, Fk.bi_max, Fk.bi_listl, Fk.bi_listt, Fk.bi_tupl, Fk.bi_tupt, Fk.bi_tupp, Fk.ek_tupr, Fk.bi_lisp, Fk.ek_lisr, Fk.bi_str, Fk.new_f, Fk.new_t, Fk.newK_f, Fk.ix_t, Fk.ix_l, Fk.ix_r, Fk.ix_p, Fk.ek_ixr, Fk.at_0, Fk.at_1, Fk.at_2, Fk.set_l, Fk.ek_st, Fk.ek_st2, Fk.ixN_0, Fk.ixN_1, Fk.ixN_2, Fk.me_app, Fk.ek_app, Fk.ty_app, Fk.ek_tyl, Fk.me_joinl, Fk.ek_join, Fk.ty_join, Fk.it_seql, Fk.it_seqt, Fk.it_seqr, Fk.it_rngn, Fk.it_rng, Fk.it_rng2, Fk.it_rev, Fk.it_revt, Fk.it_ziptl, Fk.it_zipll, Fk.it_ziptt, Fk.lk_p, Fk.sl_t, Fk.sl_l, Fk.cut_to, Fk.cut_from1, Fk.cut_1, Fk.cut_from, Fk.hl_get, Fk.hl_set, Fk.op_eqL, Fk.op_neL, Fk.op_eqT, Fk.op_neT, tyP, R.bind_ok, R.bind_ex, R.st_ok, R.st_ex, RS2.seq_nx, RS2.seq_rt, RS2.seq_ex, RS2.seq_bk, RS2.seq_ct, List.set_cons_zero, List.set_cons_succ, List.getElem?_cons_zero, List.getElem?_cons_succ, Option.map_some, reduceCtorEq, imp_self, implies_true, Bool.not_true, Bool.not_false, decide_true, decide_false, Nat.reduceAdd, Nat.reduceSub, Nat.reduceLT, Nat.reduceLeDiff, Nat.reduceEqDiff, Int.reduceLT, Int.reduceLE, Int.reduceEq, Int.reduceNeg, Int.reduceToNat, Nat.reduceBEq, and_self, true_and, and_true, Nat.reducePow, Int.reducePow, Int.reduceAdd, Int.reduceSub, Int.reduceMul, List.length_cons, List.length_nil, List.cons_append, List.nil_append, List.append_nil, e1, e2, al, show ((0 : Int) = 1) = False from by simp]
      · by_cases c1 : d1 = 1
        · refine ⟨[.v (.ref 0), .v (.p (.lst (iP zs))), .v (.ref (T.length + 1)), .v (.p (.int z)), .v (.p (.int d1)), .v (.p (.int (z - 1)))], .lst b2 :: (T ++ [.lst (iP ms ++ [.int (z - 1)])]), ?_, b2, ms ++ [z - 1], _, _, _, hb2.le (by omega), fin (z - 1) (by omega) (by omega), by simp [iP], rfl⟩
          subst c1
          simp -implicitDefEqProofs only [b22_0, Fk.ev_var, Fk.ev_lit, Fk.ev_con, Fk.ek_ofO, Fk.ev_op, Fk.ek_op, Fk.ev_neg, Fk.ek_neg, Fk.ev_notv, Fk.ek_not, Fk.ek_not2, Fk.ev_andv, Fk.ek_and, Fk.ek_and1, Fk.ek_and0, Fk.ev_orv, Fk.ek_or, Fk.ek_or1, Fk.ek_or0, Fk.ev_chain, Fk.ek_ch, Fk.ek_ch2, Fk.ek_ch3t, Fk.ek_ch3f, Fk.ev_ite, Fk.ek_ite1, Fk.ek_ite0, Fk.ev_call, Fk.ev_bi, Fk.ek_bi1, Fk.ek_bi2, Fk.ev_me, Fk.ek_me, Fk.ek_meb, Fk.ek_me20, Fk.ek_me21, Fk.ek_me22, Fk.ev_tup, Fk.ek_tup, Fk.ek_tup2, Fk.ev_lst, Fk.ek_lst, Fk.ek_lst2, Fk.ev_trev, Fk.ek_trev, Fk.ev_lrng, Fk.ek_lrng, Fk.ev_hsum, Fk.ek_hsum, Fk.ek_hs2, Fk.ev_dct0, Fk.ev_ix, Fk.ek_ix, Fk.ev_sl, Fk.ek_sl, Fk.ek_sl2, Fk.ek_sl3, Fk.ev_fld, Fk.ek_fld, Fk.ev_isi, Fk.ek_isi, Fk.ek_blR, Fk.ev_exi, Fk.ek_exi, Fk.ev_exf, Fk.ek_exf, Fk.ev_comp, Fk.ek_comp, Fk.ek_comp3, Fk.ev_o0, Fk.ev_o1, Fk.ek_o1, Fk.ev_a0, Fk.ev_a1, Fk.ek_a, Fk.ek_a2, Fk.ev_a2, Fk.ek_exv, Fk.ev_its, Fk.ek_its1, Fk.ek_its2, Fk.ev_tand, Fk.ek_tand1, Fk.ek_tand0, Fk.ev_tor, Fk.ek_tor1, Fk.ek_tor0, Fk.ev_tnot, Fk.ek_tnot, Fk.ev_tval, Fk.ek_tval, Fk.ek_tv2, Fk.ev_tyes, Fk.ev_pass, Fk.ev_seq, Fk.ev_expr, Fk.ek_expr, Fk.ev_asg, Fk.ek_asg, Fk.ev_seti, Fk.ek_set, Fk.ek_set2, Fk.ek_set3, Fk.ek_set4, Fk.ev_ret, Fk.ek_ret, Fk.ev_retn, Fk.ev_if, Fk.ek_if1, Fk.ek_if0, Fk.ev_for, Fk.ek_for, Fk.ev_brk, Fk.ev_cont, Fk.ev_while, Fk.ev_frz, Fk.ek_frz, Fk.ek_frzp, Fk.ek_frz2, Fk.ev_raise, Fk.ek_raise, Fk.ek_raise2, Fk.ek_xp0, Fk.ek_xp1, Fk.ev_try, Fk.ek_try0, Fk.ek_tryx, Fk.ek_try1, Fk.ek_tryf, Fk.ek_endr, Fk.ek_endn, Fk.ek_endb, Fk.ek_endc, Fk.ev_forB, Fk.ev_forB2, Fk.ev_tB, Fk.ek_tB1, Fk.ek_tB0, Fk.ek_tB2, Fk.gv_0, Fk.gv_s, Fk.op_add, Fk.op_sub, Fk.op_mul, Fk.op_fdiv, Fk.op_fdivs, Fk.op_mod, Fk.op_pow, Fk.op_lt, Fk.op_le, Fk.op_gt, Fk.op_ge, Fk.op_eqi, Fk.op_eqb, Fk.op_eqs, Fk.op_nei, Fk.op_neb, Fk.op_nes, Fk.op_addl, Fk.op_addt, Fk.op_adds, Fk.tr_bl, Fk.tr_non, Fk.tr_int, Fk.tr_lst, Fk.tr_tup, Fk.va_nil, Fk.va_cons, Fk.pu_nil, Fk.pu_cons, Fk.bi_lenl, Fk.bi_lent, Fk.bi_lenr, Fk.bi_lenp, Fk.ek_lenr, Fk.bi_int, Fk.bi_min, Fk.bi_max, Fk.bi_listl, Fk.bi_listt, Fk.bi_tupl, Fk.bi_tupt, Fk.bi_tupp, Fk.ek_tupr, Fk.bi_lisp, Fk.ek_lisr, Fk.bi_str, Fk.new_f, Fk.new_t, Fk.newK_f, Fk.ix_t, Fk.ix_l, Fk.ix_r, Fk.ix_p, Fk.ek_ixr, Fk.at_0, Fk.at_1, Fk.at_2, Fk.set_l, Fk.ek_st, Fk.ek_st2, Fk.ixN_0, Fk.ixN_1, Fk.ixN_2, Fk.me_app, Fk.ek_app, Fk.ty_app, Fk.ek_tyl, Fk.me_joinl, Fk.ek_join, Fk.ty_join, Fk.it_seql, Fk.it_seqt, Fk.it_seqr, Fk.it_rngn, Fk.it_rng, Fk.it_rng2, Fk.it_rev, Fk.it_revt, Fk.it_ziptl, Fk.it_zipll, Fk.it_ziptt, Fk.lk_p, Fk.sl_t, Fk.sl_l, Fk.cut_to, Fk.cut_from1, Fk.cut_1, Fk.cut_from, Fk.hl_get, Fk.hl_set, Fk.op_eqL, Fk.op_neL, Fk.op_eqT, Fk.op_neT, tyP, R.bind_ok, R.bind_ex, R.st_ok, R.st_ex, RS2.seq_nx, RS2.seq_rt, RS2.seq_ex, RS2.seq_bk, RS2.seq_ct, List.set_cons_zero, List.set_cons_succ, List.getElem?_cons_zero, List.getElem?_cons_succ, Option.map_some, reduceCtorEq, imp_self, implies_true, Bool.not_true, Bool.not_false, decide_true, decide_false, Nat.reduceAdd, Nat.reduceSub, Nat.reduceLT, Nat.reduceLeDiff, Nat.reduceEqDiff, Int.reduceLT, Int.reduceLE, Int.reduceEq, Int.reduceNeg, Int.reduceToNat, Nat.reduceBEq, and_self, true_and, and_true, Nat.reducePow, Int.reducePow, Int.reduceAdd, Int.reduceSub, Int.reduceMul, List.length_cons, List.length_nil, List.cons_append, List.nil_append, List.append_nil, e1, e2, al]
        · refine ⟨[.v (.ref 0), .v (.p (.lst (iP zs))), .v (.ref (T.length + 1)), .v (.p (.int z)), .v (.p (.int d1)), .v (.p (.int d2))], .lst b2 :: (T ++ [.lst (iP ms ++ [.int d2])]), ?_, b2, ms ++ [d2], _, _, _, hb2.le (by omega), fin d2 h20 h21, by simp [iP], rfl⟩
          simp -implicitDefEqProofs only [b22_0, Fk.ev_var, Fk.ev_lit, Fk.ev_con, Fk.ek_ofO, Fk.ev_op, Fk.ek_op, Fk.ev_neg, Fk.ek_neg, Fk.ev_notv, Fk.ek_not, Fk.ek_not2, Fk.ev_andv, Fk.ek_and, Fk.ek_and1, Fk.ek_and0, Fk.ev_orv, Fk.ek_or, Fk.ek_or1, Fk.ek_or0, Fk.ev_chain, Fk.ek_ch, Fk.ek_ch2, Fk.ek_ch3t, Fk.ek_ch3f, Fk.ev_ite, Fk.ek_ite1, Fk.ek_ite0, Fk.ev_call, Fk.ev_bi, Fk.ek_bi1, Fk.ek_bi2, Fk.ev_me, Fk.ek_me, Fk.ek_meb, Fk.ek_me20, Fk.ek_me21, Fk.ek_me22, Fk.ev_tup, Fk.ek_tup, Fk.ek_tup2, Fk.ev_lst, Fk.ek_lst, Fk.ek_lst2, Fk.ev_trev, Fk.ek_trev, Fk.ev_lrng, Fk.ek_lrng, Fk.ev_hsum, Fk.ek_hsum, Fk.ek_hs2, Fk.ev_dct0, Fk.ev_ix, Fk.ek_ix, Fk.ev_sl, Fk.ek_sl, Fk.ek_sl2, Fk.ek_sl3, Fk.ev_fld, Fk.ek_fld, Fk.ev_isi, Fk.ek_isi, Fk.ek_blR, Fk.ev_exi, Fk.ek_exi, Fk.ev_exf, Fk.ek_exf, Fk.ev_comp, Fk.ek_comp, Fk.ek_comp3, Fk.ev_o0, Fk.ev_o1, Fk.ek_o1, Fk.ev_a0, Fk.ev_a1, Fk.ek_a, Fk.ek_a2, Fk.ev_a2, Fk.ek_exv, Fk.ev_its, Fk.ek_its1, Fk.ek_its2, Fk.ev_tand, Fk.ek_tand1, Fk.ek_tand0, Fk.ev_tor, Fk.ek_tor1, Fk.ek_tor0, Fk.ev_tnot, Fk.ek_tnot, Fk.ev_tval, Fk.ek_tval, Fk.ek_tv2, Fk.ev_tyes, Fk.ev_pass, Fk.ev_seq, Fk.ev_expr, Fk.ek_expr, Fk.ev_asg, Fk.ek_asg, Fk.ev_seti, Fk.ek_set, Fk.ek_set2, Fk.ek_set3, Fk.ek_set4, Fk.ev_ret, Fk.ek_ret, Fk.ev_retn, Fk.ev_if, Fk.ek_if1, Fk.ek_if0, Fk.ev_for, Fk.ek_for, Fk.ev_brk, Fk.ev_cont, Fk.ev_while, Fk.ev_frz, Fk.ek_frz, Fk.ek_frzp, Fk.ek_frz2, Fk.ev_raise, Fk.ek_raise, Fk.ek_raise2, Fk.ek_xp0, Fk.ek_xp1, Fk.ev_try, Fk.ek_try0, Fk.ek_tryx, Fk.ek_try1, Fk.ek_tryf, Fk.ek_endr, Fk.ek_endn, Fk.ek_endb, Fk.ek_endc, Fk.ev_forB, Fk.ev_forB2, Fk.ev_tB, Fk.ek_tB1, Fk.ek_tB0, Fk.ek_tB2, Fk.gv_0, Fk.gv_s, Fk.op_add, Fk.op_sub, Fk.op_mul, Fk.op_fdiv, Fk.op_fdivs, Fk.op_mod, Fk.op_pow, Fk.op_lt, Fk.op_le, Fk.op_gt, Fk.op_ge, Fk.op_eqi, Fk.op_eqb, Fk.op_eqs, Fk.op_nei, Fk.op_neb, Fk.op_nes, Fk.op_addl, Fk.op_addt, Fk.op_adds, Fk.tr_bl, Fk.tr_non, Fk.tr_int, Fk.tr_lst, Fk.tr_tup, Fk.va_nil, Fk.va_cons, Fk.pu_nil, Fk.pu_cons, Fk.bi_lenl, Fk.bi_lent, Fk.bi_lenr, Fk.bi_lenp, Fk.ek_lenr, Fk.bi_int, Fk.bi_min, Fk.bi_max, Fk.bi_listl, Fk.bi_listt, Fk.bi_tupl, Fk.bi_tupt, Fk.bi_tupp, Fk.ek_tupr, Fk.bi_lisp, Fk.ek_lisr, Fk.bi_str, Fk.new_f, Fk.new_t, Fk.newK_f, Fk.ix_t, Fk.ix_l, Fk.ix_r, Fk.ix_p, Fk.ek_ixr, Fk.at_0, Fk.at_1, Fk.at_2, Fk.set_l, Fk.ek_st, Fk.ek_st2, Fk.ixN_0, Fk.ixN_1, Fk.ixN_2, Fk.me_app, Fk.ek_app, Fk.ty_app, Fk.ek_tyl, Fk.me_joinl, Fk.ek_join, Fk.ty_join, Fk.it_seql, Fk.it_seqt, Fk.it_seqr, Fk.it_rngn, Fk.it_rng, Fk.it_rng2, Fk.it_rev, Fk.it_revt, Fk.it_ziptl, Fk.it_zipll, Fk.it_ziptt, Fk.lk_p, Fk.sl_t, Fk.sl_l, Fk.cut_to, Fk.cut_from1, Fk.cut_1, Fk.cut_from, Fk.hl_get, Fk.hl_set, Fk.op_eqL, Fk.op_neL, Fk.op_eqT, Fk.op_neT, tyP, R.bind_ok, R.bind_ex, R.st_ok, R.st_ex, RS2.seq_nx, RS2.seq_rt, RS2.seq_ex, RS2.seq_bk, RS2.seq_ct, List.set_cons_zero, List.set_cons_succ, List.getElem?_cons_zero, List.getElem?_cons_succ, Option.map_some, reduceCtorEq, imp_self, implies_true, Bool.not_true, Bool.not_false, decide_true, decide_false, Nat.reduceAdd, Nat.reduceSub, Nat.reduceLT, Nat.reduceLeDiff, Nat.reduceEqDiff, Int.reduceLT, Int.reduceLE, Int.reduceEq, Int.reduceNeg, Int.reduceToNat, Nat.reduceBEq, and_self, true_and, and_true, Nat.reducePow, Int.reducePow, Int.reduceAdd, Int.reduceSub, Int.reduceMul, List.length_cons, List.length_nil, List.cons_append, List.nil_append, List.append_nil, e1, e2, al, c0, c1]
  obtain ⟨t', L', e, b', ms, y3, y4, y5, hb', hv, rfl, rfl⟩ := lp
  rw [iP, List.length_map, List.take_length] at hv
  refine ⟨b', ms, hb'.le (by simp; omega), hv, ?_⟩
  simp -implicitDefEqProofs only [b22, Fk.ev_var, Fk.ev_lit, Fk.ev_con, Fk.ek_ofO, Fk.ev_op, Fk.ek_op, Fk.ev_neg, Fk.ek_neg, Fk.ev_notv, Fk.ek_not, Fk.ek_not2, Fk.ev_andv, Fk.ek_and, Fk.ek_and1, Fk.ek_and0, Fk.ev_orv, Fk.ek_or, Fk.ek_or1, Fk.ek_or0, Fk.ev_chain, Fk.ek_ch, Fk.ek_ch2, Fk.ek_ch3t, Fk.ek_ch3f, Fk.ev_ite, Fk.ek_ite1, Fk.ek_ite0, Fk.ev_call, Fk.ev_bi, Fk.ek_bi1, Fk.ek_bi2, Fk.ev_me, Fk.ek_me, Fk.ek_meb, Fk.ek_me20, Fk.ek_me21, Fk.ek_me22, Fk.ev_tup, Fk.ek_tup, Fk.ek_tup2, Fk.ev_lst, Fk.ek_lst, Fk.ek_lst2, Fk.ev_trev, Fk.ek_trev, Fk.ev_lrng, Fk.ek_lrng, Fk.ev_hsum, Fk.ek_hsum, Fk.ek_hs2, Fk.ev_dct0, Fk.ev_ix, Fk.ek_ix, Fk.ev_sl, Fk.ek_sl, Fk.ek_sl2, Fk.ek_sl3, Fk.ev_fld, Fk.ek_fld, Fk.ev_isi, Fk.ek_isi, Fk.ek_blR, Fk.ev_exi, Fk.ek_exi, Fk.ev_exf, Fk.ek_exf, Fk.ev_comp, Fk.ek_comp, Fk.ek_comp3, Fk.ev_o0, Fk.ev_o1, Fk.ek_o1, Fk.ev_a0, Fk.ev_a1, Fk.ek_a, Fk.ek_a2, Fk.ev_a2, Fk.ek_exv, Fk.ev_its, Fk.ek_its1, Fk.ek_its2, Fk.ev_tand, Fk.ek_tand1, Fk.ek_tand0, Fk.ev_tor, Fk.ek_tor1, Fk.ek_tor0, Fk.ev_tnot, Fk.ek_tnot, Fk.ev_tval, Fk.ek_tval, Fk.ek_tv2, Fk.ev_tyes, Fk.ev_pass, Fk.ev_seq, Fk.ev_expr, Fk.ek_expr, Fk.ev_asg, Fk.ek_asg, Fk.ev_seti, Fk.ek_set, Fk.ek_set2, Fk.ek_set3, Fk.ek_set4, Fk.ev_ret, Fk.ek_ret, Fk.ev_retn, Fk.ev_if, Fk.ek_if1, Fk.ek_if0, Fk.ev_for, Fk.ek_for, Fk.ev_brk, Fk.ev_cont, Fk.ev_while, Fk.ev_frz, Fk.ek_frz, Fk.ek_frzp, Fk.ek_frz2, Fk.ev_raise, Fk.ek_raise, Fk.ek_raise2, Fk.ek_xp0, Fk.ek_xp1, Fk.ev_try, Fk.ek_try0, Fk.ek_tryx, Fk.ek_try1, Fk.ek_tryf, Fk.ek_endr, Fk.ek_endn, Fk.ek_endb, Fk.ek_endc, Fk.ev_forB, Fk.ev_forB2, Fk.ev_tB, Fk.ek_tB1, Fk.ek_tB0, Fk.ek_tB2, Fk.gv_0, Fk.gv_s, Fk.op_add, Fk.op_sub, Fk.op_mul, Fk.op_fdiv, Fk.op_fdivs, Fk.op_mod, Fk.op_pow, Fk.op_lt, Fk.op_le, Fk.op_gt, Fk.op_ge, Fk.op_eqi, Fk.op_eqb, Fk.op_eqs, Fk.op_nei, Fk.op_neb, Fk.op_nes, Fk.op_addl, Fk.op_addt, Fk.op_adds, Fk.tr_bl, Fk.tr_non, Fk.tr_int, Fk.tr_lst, Fk.tr_tup, Fk.va_nil, Fk.va_cons, Fk.pu_nil, Fk.pu_cons, Fk.bi_lenl, Fk.bi_lent, Fk.bi_lenr, Fk.bi_lenp, Fk.ek_lenr, Fk.bi_int, Fk.bi_min, Fk.bi_max, Fk.bi_listl, Fk.bi_listt, Fk.bi_tupl, Fk.bi_tupt, Fk.bi_tupp, Fk.ek_tupr, Fk.bi_lisp, Fk.ek_lisr, Fk.bi_str, Fk.new_f, Fk.new_t, Fk.newK_f, Fk.ix_t, Fk.ix_l, Fk.ix_r, Fk.ix_p, Fk.ek_ixr, Fk.at_0, Fk.at_1, Fk.at_2, Fk.set_l, Fk.ek_st, Fk.ek_st2, Fk.ixN_0, Fk.ixN_1, Fk.ixN_2, Fk.me_app, Fk.ek_app, Fk.ty_app, Fk.ek_tyl, Fk.me_joinl, Fk.ek_join, Fk.ty_join, Fk.it_seql, Fk.it_seqt, Fk.it_seqr, Fk.it_rngn, Fk.it_rng, Fk.it_rng2, Fk.it_rev, Fk.it_revt, Fk.it_ziptl, Fk.it_zipll, Fk.it_ziptt, Fk.lk_p, Fk.sl_t, Fk.sl_l, Fk.cut_to, Fk.cut_from1, Fk.cut_1, Fk.cut_from, Fk.hl_get, Fk.hl_set, Fk.op_eqL, Fk.op_neL, Fk.op_eqT, Fk.op_neT, tyP, R.bind_ok, R.bind_ex, R.st_ok, R.st_ex, RS2.seq_nx, RS2.seq_rt, RS2.seq_ex, RS2.seq_bk, RS2.seq_ct, List.set_cons_zero, List.set_cons_succ, List.getElem?_cons_zero, List.getElem?_cons_succ, Option.map_some, reduceCtorEq, imp_self, implies_true, Bool.not_true, Bool.not_false, decide_true, decide_false, Nat.reduceAdd, Nat.reduceSub, Nat.reduceLT, Nat.reduceLeDiff, Nat.reduceEqDiff, Int.reduceLT, Int.reduceLE, Int.reduceEq, Int.reduceNeg, Int.reduceToNat, Nat.reduceBEq, and_self, true_and, and_true, Nat.reducePow, Int.reducePow, Int.reduceAdd, Int.reduceSub, Int.reduceMul, List.length_cons, List.length_nil, List.cons_append, List.nil_append, List.append_nil, Nat.zero_le, e]
  exact en_rtB rfl hT
theorem longsizes_ok {n m : Nat} {b : List P} (hb : BagOk m b) (hm : m < 2 ^ 58) :
    ∃ b' zs, BagOk (m + 400) b' ∧ Sz zs ∧ 1 ≤ zs.length ∧ zs.length ≤ 100 ∧ run S (n + 2) 4 [.v (.ref 0)] [.lst b] = .ok (.p (.lst (iP zs))) [.lst b'] := by
  rw [r4_1]
  obtain ⟨d, b0, hd0, hd, hb0, e0⟩ := draw_ok (n := n) (T := [.lst []]) (s := 100) hb (by omega) (by decide) (by decide)
  obtain ⟨k, rfl⟩ := Int.eq_ofNat_of_zero_le hd0
  have lp := for_all (b := forB (run S (n + 1)) (cnOf S) (.gn 2) b4_0) (xs := rangeP 0 (k + 1)) (t := [.v (.ref 0), .v (.ref 1), .u, .u, .u]) (L := [.lst b0, .lst []])
    (fun i t L' => ∃ b' zs y2 y3 y4, BagOk (m + 1 + 3 * i) b' ∧ zs.length = i ∧ (∀ z ∈ zs, 1 ≤ z ∧ z < 2 ^ 40) ∧ L' = [.lst b', .lst (iP zs)] ∧ t = [.v (.ref 0), .v (.ref 1), y2, y3, y4])
    ⟨b0, [], _, _, _, hb0, rfl, by simp, rfl, rfl⟩
    fun i x t L' hx hJ => by
      obtain ⟨b', zs, y2, y3, y4, hb', hl, hz, rfl, rfl⟩ := hJ
      obtain ⟨rfl, hi⟩ := rng_get hx
      obtain ⟨d1, b1, h10, h11, hb1, e1⟩ := draw_ok (n := n) (T := [.lst (iP zs)]) (s := 4) hb' (by omega) (by decide) (by decide)
      obtain ⟨d2, b2, h20, h21, hb2, e2⟩ := draw_ok (n := n) (T := [.lst (iP zs)]) (s := 1000000000) hb1 (by omega) (by decide) (by decide)
      obtain ⟨d3, b3, h30, h31, hb3, e3⟩ := draw_ok (n := n) (T := [.lst (iP zs)]) (s := 12) hb1 (by omega) (by decide) (by decide)
      have p1 : (10 : Int).natAbs < 2 ^ 64 := by decide
      have p2 : (10 : Int) ^ (Int.toNat 9) = 1000000000 := rfl
      have al : (iP zs).length < sizeLine := by
        rw [iP, List.length_map, hl]
        exact Nat.lt_of_lt_of_le (show _ < 1000 by omega) (by decide)
      have fin : ∀ s : Int, 1 ≤ s → s < 2 ^ 40 → ∀ z ∈ zs ++ [s], 1 ≤ z ∧ z < 2 ^ 40 := fun s a c z hz' => by
        rcases List.mem_append.mp hz' with h | h
        · exact hz z h
        · rw [List.mem_singleton.mp h]; exact ⟨a, c⟩
      by_cases c0 : d1 = 0
      · refine ⟨[.v (.ref 0), .v (.ref 1), .v (.p (.int (i : Int))), .v (.p (.int d1)), .v (.p (.int (1 + d2)))], [.lst b2, .lst (iP zs ++ [.int (1 + d2)])], ?_, b2, zs ++ [1 + d2], _, _, _, hb2.le (by omega), by simp [hl], fin _ (by omega) (by omega), by simp [iP], rfl⟩
        subst c0
        simp -implicitDefEqProofs only [b4_0, Fk.ev_var, Fk.ev_lit, Fk.ev_con, Fk.ek_ofO, Fk.ev_op, Fk.ek_op, Fk.ev_neg, Fk.ek_neg, Fk.ev_notv, Fk.ek_not, Fk.ek_not2, Fk.ev_andv, Fk.ek_and, Fk.ek_and1, Fk.ek_and0, Fk.ev_orv, Fk.ek_or, Fk.ek_or1, Fk.ek_or0, Fk.ev_chain, Fk.ek_ch, Fk.ek_ch2, Fk.ek_ch3t, Fk.ek_ch3f, Fk.ev_ite, Fk.ek_ite1, Fk.ek_ite0, Fk.ev_call, Fk.ev_bi, Fk.ek_bi1, Fk.ek_bi2, Fk.ev_me, Fk.ek_me, Fk.ek_meb, Fk.ek_me20, Fk.ek_me21, Fk.ek_me22, Fk.ev_tup, Fk.ek_tup, Fk.ek_tup2, Fk.ev_lst, Fk.ek_lst, Fk.ek_lst2, Fk.ev_trev, Fk.ek_trev, Fk.ev_lrng, Fk.ek_lrng, Fk.ev_hsum, Fk.ek_hsum, Fk.ek_hs2, Fk.ev_dct0, Fk.ev_ix, Fk.ek_ix, Fk.ev_sl, Fk.ek_sl, Fk.ek_sl2, Fk.ek_sl3, Fk.ev_fld, Fk.ek_fld, Fk.ev_isi, Fk.ek_isi, Fk.ek_blR, Fk.ev_exi, Fk.ek_exi, Fk.ev_exf, Fk.ek_exf, Fk.ev_comp, Fk.ek_comp, Fk.ek_comp3, Fk.ev_o0, Fk.ev_o1, Fk.ek_o1, Fk.ev_a0, Fk.ev_a1, Fk.ek_a, Fk.ek_a2, Fk.ev_a2, Fk.ek_exv, Fk.ev_its, Fk.ek_its1, Fk.ek_its2, Fk.ev_tand, Fk.ek_tand1, Fk.ek_tand0, Fk.ev_tor, Fk.ek_tor1, Fk.ek_tor0, Fk.ev_tnot, Fk.ek_tnot, Fk.ev_tval, Fk.ek_tval, Fk.ek_tv2, Fk.ev_tyes, Fk.ev_pass, Fk.ev_seq, Fk.ev_expr, Fk.ek_expr, Fk.ev_asg, Fk.ek_asg, Fk.ev_seti, Fk.ek_set, Fk.ek_set2, Fk.ek_set3, Fk.ek_set4, Fk.ev_ret, Fk.ek_ret, Fk.ev_retn, Fk.ev_if, Fk.ek_if1, Fk.ek_if0, Fk.ev_for, Fk.ek_for, Fk.ev_brk, Fk.ev_cont, Fk.ev_while, Fk.ev_frz, Fk.ek_frz, Fk.ek_frzp, Fk.ek_frz2, Fk.ev_raise, Fk.ek_raise, Fk.ek_raise2, Fk.ek_xp0, Fk.ek_xp1, Fk.ev_try, Fk.ek_try0, Fk.ek_tryx, Fk.ek_try1, Fk.ek_tryf, Fk.ek_endr, Fk.ek_endn, Fk.ek_endb, Fk.ek_endc, Fk.ev_forB, Fk.ev_forB2, Fk.ev_tB, Fk.ek_tB1, Fk.ek_tB0, Fk.ek_tB2, Fk.gv_0, Fk.gv_s, Fk.op_add, Fk.op_sub, Fk.op_mul, Fk.op_fdiv, Fk.op_fdivs, Fk.op_mod, Fk.op_pow, Fk.op_lt, Fk.op_le, Fk.op_gt, Fk.op_ge, Fk.op_eqi, Fk.op_eqb, Fk.op_eqs, Fk.op_nei, Fk.op_neb, Fk.op_nes, Fk.op_addl, Fk.op_addt, Fk.op_adds, Fk.tr_bl, Fk.tr_non, Fk.tr_int, Fk.tr_lst, Fk.tr_tup, Fk.va_nil, Fk.va_cons, Fk.pu_nil, Fk.pu_cons, Fk.bi_lenl, Fk.bi_lent, Fk.bi_lenr, Fk.bi_lenp, Fk.ek_lenr, Fk.bi_int, Fk.bi_min, Fk.bi_max, Fk.bi_listl, Fk.bi_listt, Fk.bi_tupl, Fk.bi_tupt, Fk.bi_tupp, Fk.ek_tupr, Fk.bi_lisp, Fk.ek_lisr, Fk.bi_str, Fk.new_f, Fk.new_t, Fk.newK_f, Fk.ix_t, Fk.ix_l, Fk.ix_r, Fk.ix_p, Fk.ek_ixr, Fk.at_0, Fk.at_1, Fk.at_2, Fk.set_l, Fk.ek_st, Fk.ek_st2, Fk.ixN_0, Fk.ixN_1, Fk.ixN_2, Fk.me_app, Fk.ek_app, Fk.ty_app, Fk.ek_tyl, Fk.me_joinl, Fk.ek_join, Fk.ty_join, Fk.it_seql, Fk.it_seqt, Fk.it_seqr, Fk.it_rngn, Fk.it_rng, Fk.it_rng2, Fk.it_rev, Fk.it_revt, Fk.it_ziptl, Fk.it_zipll, Fk.it_ziptt, Fk.lk_p, Fk.sl_t, Fk.sl_l, Fk.cut_to, Fk.cut_from1, Fk.cut_1, Fk.cut_from, Fk.hl_get, Fk.hl_set, Fk.op_eqL, Fk.op_neL, Fk.op_eqT, Fk.op_neT, tyP, R.bind_ok, R.bind_ex, R.st_ok, R.st_ex, RS2.seq_nx, RS2.seq_rt, RS2.seq_ex, RS2.seq_bk, RS2.seq_ct, List.set_cons_zero, List.set_cons_succ, List.getElem?_cons_zero, List.getElem?_cons_succ, Option.map_some, reduceCtorEq, imp_self, implies_true, Bool.not_true, Bool.not_false, decide_true, decide_false, Nat.reduceAdd, Nat.reduceSub, Nat.reduceLT, Nat.reduceLeDiff, Nat.reduceEqDiff, Int.reduceLT, Int.reduceLE, Int.reduceEq, Int.reduceNeg, Int.reduceToNat, Nat.reduceBEq, and_self, true_and, and_true, Nat.reducePow, Int.reducePow, Int.reduceAdd, Int.reduceSub, Int.reduceMul, List.length_cons, List.length_nil, List.cons_append, List.nil_append, List.append_nil, e1, e2, al, p1, p2]
      · by_cases c12 : d1 = 1 ∨ d1 = 2
        · refine ⟨[.v (.ref 0), .v (.ref 1), .v (.p (.int (i : Int))), .v (.p (.int d1)), .v (.p (.int (1 + d3)))], [.lst b3, .lst (iP zs ++ [.int (1 + d3)])], ?_, b3, zs ++ [1 + d3], _, _, _, hb3.le (by omega), by simp [hl], fin _ (by omega) (by omega), by simp [iP], rfl⟩
          rcases c12 with c | c
          · subst c; simp -implicitDefEqProofs only [b4_0, Fk.ev_var, Fk.ev_lit, Fk.ev_con, Fk.ek_ofO, Fk.ev_op, Fk.ek_op, Fk.ev_neg, Fk.ek_neg, Fk.ev_notv, Fk.ek_not, Fk.ek_not2, Fk.ev_andv, Fk.ek_and, Fk.ek_and1, Fk.ek_and0, Fk.ev_orv, Fk.ek_or, Fk.ek_or1, Fk.ek_or0, Fk.ev_chain, Fk.ek_ch, Fk.ek_ch2, Fk.ek_ch3t, Fk.ek_ch3f, Fk.ev_ite, Fk.ek_ite1, Fk.ek_ite0, Fk.ev_call, Fk.ev_bi, Fk.ek_bi1, Fk.ek_bi2, Fk.ev_me, Fk.ek_me, Fk.ek_meb, Fk.ek_me20, Fk.ek_me21, Fk.ek_me22, Fk.ev_tup, Fk.ek_tup, Fk.ek_tup2, Fk.ev_lst, Fk.ek_lst, Fk.ek_lst2, Fk.ev_trev, Fk.ek_trev, Fk.ev_lrng, Fk.ek_lrng, Fk.ev_hsum, Fk.ek_hsum, Fk.ek_hs2, Fk.ev_dct0, Fk.ev_ix, Fk.ek_ix, Fk.ev_sl, Fk.ek_sl, Fk.ek_sl2, Fk.ek_sl3, Fk.ev_fld, Fk.ek_fld, Fk.ev_isi, Fk.ek_isi, Fk.ek_blR, Fk.ev_exi, Fk.ek_exi, Fk.ev_exf, Fk.ek_exf, Fk.ev_comp, Fk.ek_comp, Fk.ek_comp3, Fk.ev_o0, Fk.ev_o1, Fk.ek_o1, Fk.ev_a0, Fk.ev_a1, Fk.ek_a, Fk.ek_a2, Fk.ev_a2, Fk.ek_exv, Fk.ev_its, Fk.ek_its1, Fk.ek_its2, Fk.ev_tand, Fk.ek_tand1, Fk.ek_tand0, Fk.ev_tor, Fk.ek_tor1, Fk.ek_tor0, Fk.ev_tnot, Fk.ek_tnot, Fk.ev_tval, Fk.ek_tval, Fk.ek_tv2, Fk.ev_tyes, Fk.ev_pass, Fk.ev_seq, Fk.ev_expr, Fk.ek_expr, Fk.ev_asg, Fk.ek_asg, Fk.ev_seti, Fk.ek_set, Fk.ek_set2, Fk.ek_set3, Fk.ek_set4, Fk.ev_ret, Fk.ek_ret, Fk.ev_retn, Fk.ev_if, Fk.ek_if1, Fk.ek_if0, Fk.ev_for, Fk.ek_for, Fk.ev_brk, Fk.ev_cont, Fk.ev_while, Fk.ev_frz, Fk.ek_frz, Fk.ek_frzp, Fk.ek_frz2, Fk.ev_raise, Fk.ek_raise, Fk.ek_raise2, Fk.ek_xp0, Fk.ek_xp1, Fk.ev_try, Fk.ek_try0, Fk.ek_tryx, Fk.ek_try1, Fk.ek_tryf, Fk.ek_endr, Fk.ek_endn, Fk.ek_endb, Fk.ek_endc, Fk.ev_forB, Fk.ev_forB2, Fk.ev_tB, Fk.ek_tB1, Fk.ek_tB0, Fk.ek_tB2, Fk.gv_0, Fk.gv_s, Fk.op_add, Fk.op_sub, Fk.op_mul, Fk.op_fdiv, Fk.op_fdivs, Fk.op_mod, Fk.op_pow, Fk.op_lt, Fk.op_le, Fk.op_gt, Fk.op_ge, Fk.op_eqi, Fk.op_eqb, Fk.op_eqs, Fk.op_nei, Fk.op_neb, Fk.op_nes, Fk.op_addl, Fk.op_addt, Fk.op_adds, Fk.tr_bl, Fk.tr_non, Fk.tr_int, Fk.tr_lst, Fk.tr_tup, Fk.va_nil, Fk.va_cons, Fk.pu_nil, Fk.pu_cons, Fk.bi_lenl, Fk.bi_lent, Fk.bi_lenr, Fk.bi_lenp, Fk.ek_lenr, Fk.bi_int, Fk.bi_min, Fk.bi_max, Fk.bi_listl, Fk.bi_listt, Fk.bi_tupl, Fk.bi_tupt, Fk.bi_tupp, Fk.ek_tupr, Fk.bi_lisp, Fk.ek_lisr, Fk.bi_str, Fk.new_f, Fk.new_t, Fk.newK_f, Fk.ix_t, Fk.ix_l, Fk.ix_r, Fk.ix_p, Fk.ek_ixr, Fk.at_0, Fk.at_1, Fk.at_2, Fk.set_l, Fk.ek_st, Fk.ek_st2, Fk.ixN_0, Fk.ixN_1, Fk.ixN_2, Fk.me_app, Fk.ek_app, Fk.ty_app, Fk.ek_tyl, Fk.me_joinl, Fk.ek_join, Fk.ty_join, Fk.it_seql, Fk.it_seqt, Fk.it_seqr, Fk.it_rngn, Fk.it_rng, Fk.it_rng2, Fk.it_rev, Fk.it_revt, Fk.it_ziptl, Fk.it_zipll, Fk.it_ziptt, Fk.lk_p, Fk.sl_t, Fk.sl_l, Fk.cut_to, Fk.cut_from1, Fk.cut_1, Fk.cut_from, Fk.hl_get, Fk.hl_set, Fk.op_eqL, Fk.op_neL, Fk.op_eqT, Fk.op_neT, tyP, R.bind_ok, R.bind_ex, R.st_ok, R.st_ex, RS2.seq_nx, RS2.seq_rt, RS2.seq_ex, RS2.seq_bk, RS2.seq_ct, List.set_cons_zero, List.set_cons_succ, List.getElem?_cons_zero, List.getElem?_cons_succ, Option.map_some, reduceCtorEq, imp_self, implies_true, Bool.not_true, Bool.not_false, decide_true, decide_false, Nat.reduceAdd, Nat.reduceSub, Nat.reduceLT, Nat.reduceLeDiff, Nat.reduceEqDiff, Int.reduceLT, Int.reduceLE, Int.reduceEq, Int.reduceNeg, Int.reduceToNat, Nat.reduceBEq, and_self, true_and, and_true, Nat.reducePow, Int.reducePow, Int.reduceAdd, Int.reduceSub, Int.reduceMul, List.length_cons, List.length_nil, List.cons_append, List.nil_append, List.append_nil, e1, e3, al]
          · subst c; simp -implicitDefEqProofs only [b4_0, Fk.ev_var, Fk.ev_lit, Fk.ev_con, Fk.ek_ofO, Fk.ev_op, Fk.ek_op, Fk.ev_neg, Fk.ek_neg, Fk.ev_notv, Fk.ek_not, Fk.ek_not2, Fk.ev_andv, Fk.ek_and, Fk.ek_and1, Fk.ek_and0, Fk.ev_orv, Fk.ek_or, Fk.ek_or1, Fk.ek_or0, Fk.ev_chain, Fk.ek_ch, Fk.ek_ch2, Fk.ek_ch3t, Fk.ek_ch3f, Fk.ev_ite, Fk.ek_ite1, Fk.ek_ite0, Fk.ev_call, Fk.ev_bi, Fk.ek_bi1, Fk.ek_bi2, Fk.ev_me, Fk.ek_me, Fk.ek_meb, Fk.ek_me20, Fk.ek_me21, Fk.ek_me22, Fk.ev_tup, Fk.ek_tup, Fk.ek_tup2, Fk.ev_lst, Fk.ek_lst, Fk.ek_lst2, Fk.ev_trev, Fk.ek_trev, Fk.ev_lrng, Fk.ek_lrng, Fk.ev_hsum, Fk.ek_hsum, Fk.ek_hs2, Fk.ev_dct0, Fk.ev_ix, Fk.ek_ix, Fk.ev_sl, Fk.ek_sl, Fk.ek_sl2, Fk.ek_sl3, Fk.ev_fld, Fk.ek_fld, Fk.ev_isi, Fk.ek_isi, Fk.ek_blR, Fk.ev_exi, Fk.ek_exi, Fk.ev_exf, Fk.ek_exf, Fk.ev_comp, Fk.ek_comp, Fk.ek_comp3, Fk.ev_o0, Fk.ev_o1, Fk.ek_o1, Fk.ev_a0, Fk.ev_a1, Fk.ek_a, Fk.ek_a2, Fk.ev_a2, Fk.ek_exv, Fk.ev_its, Fk.ek_its1, Fk.ek_its2, Fk.ev_tand, Fk.ek_tand1, Fk.ek_tand0, Fk.ev_tor, Fk.ek_tor1, Fk.ek_tor0, Fk.ev_tnot, Fk.ek_tnot, Fk.ev_tval, Fk.ek_tval, Fk.ek_tv2, Fk.ev_tyes, Fk.ev_pass, Fk.ev_seq, Fk.ev_expr, Fk.ek_expr, Fk.ev_asg, Fk.ek_asg, Fk.ev_seti, Fk.ek_set, Fk.ek_set2, Fk.ek_set3, Fk.ek_set4, Fk.ev_ret, Fk.ek_ret, Fk.ev_retn, Fk.ev_if, Fk.ek_if1, Fk.ek_if0, Fk.ev_for, Fk.ek_for, Fk.ev_brk, Fk.ev_cont, Fk.ev_while, Fk.ev_frz, Fk.ek_frz, Fk.ek_frzp, Fk.ek_frz2, Fk.ev_raise, Fk.ek_raise, Fk.ek_raise2, Fk.ek_xp0, Fk.ek_xp1, Fk.ev_try, Fk.ek_try0, Fk.ek_tryx, Fk.ek_try1, Fk.ek_tryf, Fk.ek_endr, Fk.ek_endn, Fk.ek_endb, Fk.ek_endc, Fk.ev_forB, Fk.ev_forB2, Fk.ev_tB, Fk.ek_tB1, Fk.ek_tB0, Fk.ek_tB2, Fk.gv_0, Fk.gv_s, Fk.op_add, Fk.op_sub, Fk.op_mul, Fk.op_fdiv, Fk.op_fdivs, Fk.op_mod, Fk.op_pow, Fk.op_lt, Fk.op_le, Fk.op_gt, Fk.op_ge, Fk.op_eqi, Fk.op_eqb, Fk.op_eqs, Fk.op_nei, Fk.op_neb, Fk.op_nes, Fk.op_addl, Fk.op_addt, Fk.op_adds, Fk.tr_bl, Fk.tr_non, Fk.tr_int, Fk.tr_lst, Fk.tr_tup, Fk.va_nil, Fk.va_cons, Fk.pu_nil, Fk.pu_cons, Fk.bi_lenl, Fk.bi_lent, Fk.bi_lenr, Fk.bi_lenp, Fk.ek_lenr, Fk.bi_int, Fk.bi_min, Fk.bi_max, Fk.bi_listl, Fk.bi_listt, Fk.bi_tupl, Fk.bi_tupt, Fk.bi_tupp, Fk.ek_tupr, Fk.bi_lisp, Fk.ek_lisr, Fk.bi_str, Fk.new_f, Fk.new_t, Fk.newK_f, Fk.ix_t, Fk.ix_l, Fk.ix_r, Fk.ix_p, Fk.ek_ixr, Fk.at_0, Fk.at_1, Fk.at_2, Fk.set_l, Fk.ek_st, Fk.ek_st2, Fk.ixN_0, Fk.ixN_1, Fk.ixN_2, Fk.me_app, Fk.ek_app, Fk.ty_app, Fk.ek_tyl, Fk.me_joinl, Fk.ek_join, Fk.ty_join, Fk.it_seql, Fk.it_seqt, Fk.it_seqr, Fk.it_rngn, Fk.it_rng, Fk.it_rng2, Fk.it_rev, Fk.it_revt, Fk.it_ziptl, Fk.it_zipll, Fk.it_ziptt, Fk.lk_p, Fk.sl_t, Fk.sl_l, Fk.cut_to, Fk.cut_from1, Fk.cut_1, Fk.cut_from, Fk.hl_get, Fk.hl_set, Fk.op_eqL, Fk.op_neL, Fk.op_eqT, Fk.op_neT, tyP, R.bind_ok, R.bind_ex, R.st_ok, R.st_ex, RS2.seq_nx, RS2.seq_rt, RS2.seq_ex, RS2.seq_bk, RS2.seq_ct, List.set_cons_zero, List.set_cons_succ, List.getElem?_cons_zero, List.getElem?_cons_succ, Option.map_some, reduceCtorEq, imp_self, implies_true, Bool.not_true, Bool.not_false, decide_true, decide_false, Nat.reduceAdd, Nat.reduceSub, Nat.reduceLT, Nat.reduceLeDiff, Nat.reduceEqDiff, Int.reduceLT, Int.reduceLE, Int.reduceEq, Int.reduceNeg, Int.reduceToNat, Nat.reduceBEq, and_self, true_and, and_true, Nat.reducePow, Int.reducePow, Int.reduceAdd, Int.reduceSub, Int.reduceMul, List.length_cons, List.length_nil, List.cons_append, List.nil_append, List.append_nil, e1, e3, al]
        · have c1 : ¬ d1 = 1 := fun h => c12 (.inl h)
          have c2 : ¬ d1 = 2 := fun h => c12 (.inr h)
          refine ⟨[.v (.ref 0), .v (.ref 1), .v (.p (.int (i : Int))), .v (.p (.int d1)), .v (.p (.int 2))], [.lst b1, .lst (iP zs ++ [.int 2])], ?_, b1, zs ++ [2], _, _, _, hb1.le (by omega), by simp [hl], fin _ (by decide) (by decide), by simp [iP], rfl⟩
          simp -implicitDefEqProofs only [b4_0, Fk.ev_var, Fk.ev_lit, Fk.ev_con, Fk.ek_ofO, Fk.ev_op, Fk.ek_op, Fk.ev_neg, Fk.ek_neg, Fk.ev_notv, Fk.ek_not, Fk.ek_not2, Fk.ev_andv, Fk.ek_and, Fk.ek_and1, Fk.ek_and0, Fk.ev_orv, Fk.ek_or, Fk.ek_or1, Fk.ek_or0, Fk.ev_chain, Fk.ek_ch, Fk.ek_ch2, Fk.ek_ch3t, Fk.ek_ch3f, Fk.ev_ite, Fk.ek_ite1, Fk.ek_ite0, Fk.ev_call, Fk.ev_bi, Fk.ek_bi1, Fk.ek_bi2, Fk.ev_me, Fk.ek_me, Fk.ek_meb, Fk.ek_me20, Fk.ek_me21, Fk.ek_me22, Fk.ev_tup, Fk.ek_tup, Fk.ek_tup2, Fk.ev_lst, Fk.ek_lst, Fk.ek_lst2, Fk.ev_trev, Fk.ek_trev, Fk.ev_lrng, Fk.ek_lrng, Fk.ev_hsum, Fk.ek_hsum, Fk.ek_hs2, Fk.ev_dct0, Fk.ev_ix, Fk.ek_ix, Fk.ev_sl, Fk.ek_sl, Fk.ek_sl2, Fk.ek_sl3, Fk.ev_fld, Fk.ek_fld, Fk.ev_isi, Fk.ek_isi, Fk.ek_blR, Fk.ev_exi, Fk.ek_exi, Fk.ev_exf, Fk.ek_exf, Fk.ev_comp, Fk.ek_comp, Fk.ek_comp3, Fk.ev_o0, Fk.ev_o1, Fk.ek_o1, Fk.ev_a0, Fk.ev_a1, Fk.ek_a, Fk.ek_a2, Fk.ev_a2, Fk.ek_exv, Fk.ev_its, Fk.ek_its1, Fk.ek_its2, Fk.ev_tand, Fk.ek_tand1, Fk.ek_tand0, Fk.ev_tor, Fk.ek_tor1, Fk.ek_tor0, Fk.ev_tnot, Fk.ek_tnot, Fk.ev_tval, Fk.ek_tval, Fk.ek_tv2, Fk.ev_tyes, Fk.ev_pass, Fk.ev_seq, Fk.ev_expr, Fk.ek_expr, Fk.ev_asg, Fk.ek_asg, Fk.ev_seti, Fk.ek_set, Fk.ek_set2, Fk.ek_set3, Fk.ek_set4, Fk.ev_ret, Fk.ek_ret, Fk.ev_retn, Fk.ev_if, Fk.ek_if1, Fk.ek_if0, Fk.ev_for, Fk.ek_for, Fk.ev_brk, Fk.ev_cont, Fk.ev_while, Fk.ev_frz, Fk.ek_frz, Fk.ek_frzp, Fk.ek_frz2, Fk.ev_raise, Fk.ek_raise, Fk.ek_raise2, Fk.ek_xp0, Fk.ek_xp1, Fk.ev_try, Fk.ek_try0, Fk.ek_tryx, Fk.ek_try1, Fk.ek_tryf, Fk.ek_endr, Fk.ek_endn, Fk.ek_endb, Fk.ek_endc, Fk.ev_forB, Fk.ev_forB2, Fk.ev_tB, Fk.ek_tB1, Fk.ek_tB0, Fk.ek_tB2, Fk.gv_0, Fk.gv_s, Fk.op_add, Fk.op_sub, Fk.op_mul, Fk.op_fdiv, Fk.op_fdivs, Fk.op_mod, Fk.op_pow, Fk.op_lt, Fk.op_le, Fk.op_gt, Fk.op_ge, Fk.op_eqi, Fk.op_eqb, Fk.op_eqs, Fk.op_nei, Fk.op_neb, Fk.op_nes, Fk.op_addl, Fk.op_addt, Fk.op_adds, Fk.tr_bl, Fk.tr_non, Fk.tr_int, Fk.tr_lst, Fk.tr_tup, Fk.va_nil, Fk.va_cons, Fk.pu_nil, Fk.pu_cons, Fk.bi_lenl, Fk.bi_lent, Fk.bi_lenr, Fk.bi_lenp, Fk.ek_lenr, Fk.bi_int, Fk.bi_min, Fk.bi_max, Fk.bi_listl, Fk.bi_listt, Fk.bi_tupl, Fk.bi_tupt, Fk.bi_tupp, Fk.ek_tupr, Fk.bi_lisp, Fk.ek_lisr, Fk.bi_str, Fk.new_f, Fk.new_t, Fk.newK_f, Fk.ix_t, Fk.ix_l, Fk.ix_r, Fk.ix_p, Fk.ek_ixr, Fk.at_0, Fk.at_1, Fk.at_2, Fk.set_l, Fk.ek_st, Fk.ek_st2, Fk.ixN_0, Fk.ixN_1, Fk.ixN_2, Fk.me_app, Fk.ek_app, Fk.ty_app, Fk.ek_tyl, Fk.me_joinl, Fk.ek_join, Fk.ty_join, Fk.it_seql, Fk.it_seqt, Fk.it_seqr, Fk.it_rngn, Fk.it_rng, Fk.it_rng2, Fk.it_rev, Fk.it_revt, Fk.it_ziptl, Fk.it_zipll, Fk.it_ziptt, Fk.lk_p, Fk.sl_t, Fk.sl_l, Fk.cut_to, Fk.cut_from1, Fk.cut_1, Fk.cut_from, Fk.hl_get, Fk.hl_set, Fk.op_eqL, Fk.op_neL, Fk.op_eqT, Fk.op_neT, tyP, R.bind_ok, R.bind_ex, R.st_ok, R.st_ex, RS2.seq_nx, RS2.seq_rt, RS2.seq_ex, RS2.seq_bk, RS2.seq_ct, List.set_cons_zero, List.set_cons_succ, List.getElem?_cons_zero, List.getElem?_cons_succ, Option.map_some, reduceCtorEq, imp_self, implies_true, Bool.not_true, Bool.not_false, decide_true, decide_false, Nat.reduceAdd, Nat.reduceSub, Nat.reduceLT, Nat.reduceLeDiff, Nat.reduceEqDiff, Int.reduceLT, Int.reduceLE, Int.reduceEq, Int.reduceNeg, Int.reduceToNat, Nat.reduceBEq, and_self, true_and, and_true, Nat.reducePow, Int.reducePow, Int.reduceAdd, Int.reduceSub, Int.reduceMul, List.length_cons, List.length_nil, List.cons_append, List.nil_append, List.append_nil, e1, al, c0, c1, c2]
  obtain ⟨t', L', e, b', zs, y2, y3, y4, hb', hl, hz, rfl, rfl⟩ := lp
  rw [rng_len] at hl hb'
  refine ⟨b', zs, hb'.le (by omega), ⟨by omega, hz⟩, by omega, by omega, ?_⟩
  have g1 : (0 : Int) ≤ 1 + (k : Int) := by omega
  have g2 : 1 + (k : Int) ≤ 16777216 := by omega
  have g3 : (1 + (k : Int)).toNat = k + 1 := by omega
  simp -implicitDefEqProofs only [b4, Fk.ev_var, Fk.ev_lit, Fk.ev_con, Fk.ek_ofO, Fk.ev_op, Fk.ek_op, Fk.ev_neg, Fk.ek_neg, Fk.ev_notv, Fk.ek_not, Fk.ek_not2, Fk.ev_andv, Fk.ek_and, Fk.ek_and1, Fk.ek_and0, Fk.ev_orv, Fk.ek_or, Fk.ek_or1, Fk.ek_or0, Fk.ev_chain, Fk.ek_ch, Fk.ek_ch2, Fk.ek_ch3t, Fk.ek_ch3f, Fk.ev_ite, Fk.ek_ite1, Fk.ek_ite0, Fk.ev_call, Fk.ev_bi, Fk.ek_bi1, Fk.ek_bi2, Fk.ev_me, Fk.ek_me, Fk.ek_meb, Fk.ek_me20, Fk.ek_me21, Fk.ek_me22, Fk.ev_tup, Fk.ek_tup, Fk.ek_tup2, Fk.ev_lst, Fk.ek_lst, Fk.ek_lst2, Fk.ev_trev, Fk.ek_trev, Fk.ev_lrng, Fk.ek_lrng, Fk.ev_hsum, Fk.ek_hsum, Fk.ek_hs2, Fk.ev_dct0, Fk.ev_ix, Fk.ek_ix, Fk.ev_sl, Fk.ek_sl, Fk.ek_sl2, Fk.ek_sl3, Fk.ev_fld, Fk.ek_fld, Fk.ev_isi, Fk.ek_isi, Fk.ek_blR, Fk.ev_exi, Fk.ek_exi, Fk.ev_exf, Fk.ek_exf, Fk.ev_comp, Fk.ek_comp, Fk.ek_comp3, Fk.ev_o0, Fk.ev_o1, Fk.ek_o1, Fk.ev_a0, Fk.ev_a1, Fk.ek_a, Fk.ek_a2, Fk.ev_a2, Fk.ek_exv, Fk.ev_its, Fk.ek_its1, Fk.ek_its2, Fk.ev_tand, Fk.ek_tand1, Fk.ek_tand0, Fk.ev_tor, Fk.ek_tor1, Fk.ek_tor0, Fk.ev_tnot, Fk.ek_tnot, Fk.ev_tval, Fk.ek_tval, Fk.ek_tv2, Fk.ev_tyes, Fk.ev_pass, Fk.ev_seq, Fk.ev_expr, Fk.ek_expr, Fk.ev_asg, Fk.ek_asg, Fk.ev_seti, Fk.ek_set, Fk.ek_set2, Fk.ek_set3, Fk.ek_set4, Fk.ev_ret, Fk.ek_ret, Fk.ev_retn, Fk.ev_if, Fk.ek_if1, Fk.ek_if0, Fk.ev_for, Fk.ek_for, Fk.ev_brk, Fk.ev_cont, Fk.ev_while, Fk.ev_frz, Fk.ek_frz, Fk.ek_frzp, Fk.ek_frz2, Fk.ev_raise, Fk.ek_raise, Fk.ek_raise2, Fk.ek_xp0, Fk.ek_xp1, Fk.ev_try, Fk.ek_try0, Fk.ek_tryx, Fk.ek_try1, Fk.ek_tryf, Fk.ek_endr, Fk.ek_endn, Fk.ek_endb, Fk.ek_endc, Fk.ev_forB, Fk.ev_forB2, Fk.ev_tB, Fk.ek_tB1, Fk.ek_tB0, Fk.ek_tB2, Fk.gv_0, Fk.gv_s, Fk.op_add, Fk.op_sub, Fk.op_mul, Fk.op_fdiv, Fk.op_fdivs, Fk.op_mod, Fk.op_pow, Fk.op_lt, Fk.op_le, Fk.op_gt, Fk.op_ge, Fk.op_eqi, Fk.op_eqb, Fk.op_eqs, Fk.op_nei, Fk.op_neb, Fk.op_nes, Fk.op_addl, Fk.op_addt, Fk.op_adds, Fk.tr_bl, Fk.tr_non, Fk.tr_int, Fk.tr_lst, Fk.tr_tup, Fk.va_nil, Fk.va_cons, Fk.pu_nil, Fk.pu_cons, Fk.bi_lenl, Fk.bi_lent, Fk.bi_lenr, Fk.bi_lenp, Fk.ek_lenr, Fk.bi_int, Fk.bi_min, Fk.bi_max, Fk.bi_listl, Fk.bi_listt, Fk.bi_tupl, Fk.bi_tupt, Fk.bi_tupp, Fk.ek_tupr, Fk.bi_lisp, Fk.ek_lisr, Fk.bi_str, Fk.new_f, Fk.new_t, Fk.newK_f, Fk.ix_t, Fk.ix_l, Fk.ix_r, Fk.ix_p, Fk.ek_ixr, Fk.at_0, Fk.at_1, Fk.at_2, Fk.set_l, Fk.ek_st, Fk.ek_st2, Fk.ixN_0, Fk.ixN_1, Fk.ixN_2, Fk.me_app, Fk.ek_app, Fk.ty_app, Fk.ek_tyl, Fk.me_joinl, Fk.ek_join, Fk.ty_join, Fk.it_seql, Fk.it_seqt, Fk.it_seqr, Fk.it_rngn, Fk.it_rng, Fk.it_rng2, Fk.it_rev, Fk.it_revt, Fk.it_ziptl, Fk.it_zipll, Fk.it_ziptt, Fk.lk_p, Fk.sl_t, Fk.sl_l, Fk.cut_to, Fk.cut_from1, Fk.cut_1, Fk.cut_from, Fk.hl_get, Fk.hl_set, Fk.op_eqL, Fk.op_neL, Fk.op_eqT, Fk.op_neT, tyP, R.bind_ok, R.bind_ex, R.st_ok, R.st_ex, RS2.seq_nx, RS2.seq_rt, RS2.seq_ex, RS2.seq_bk, RS2.seq_ct, List.set_cons_zero, List.set_cons_succ, List.getElem?_cons_zero, List.getElem?_cons_succ, Option.map_some, reduceCtorEq, imp_self, implies_true, Bool.not_true, Bool.not_false, decide_true, decide_false, Nat.reduceAdd, Nat.reduceSub, Nat.reduceLT, Nat.reduceLeDiff, Nat.reduceEqDiff, Int.reduceLT, Int.reduceLE, Int.reduceEq, Int.reduceNeg, Int.reduceToNat, Nat.reduceBEq, and_self, true_and, and_true, Nat.reducePow, Int.reducePow, Int.reduceAdd, Int.reduceSub, Int.reduceMul, List.length_cons, List.length_nil, List.cons_append, List.nil_append, List.append_nil, Nat.zero_le, e0, g1, g2, g3, e]
  exact en_rtB (T := []) (M := [.dead]) rfl tc_nil
theorem sizes_ok {n m : Nat} {b : List P} (hb : BagOk m b) (hm : m < 2 ^ 58) :
    ∃ b' zs, BagOk (m + 100) b' ∧ zs.length ≤ 6 ∧ (∀ z ∈ zs, 1 ≤ z ∧ z ≤ 240) ∧ prd zs ≤ 240 ∧ run S (n + 2) 2 [.v (.ref 0)] [.lst b] = .ok (.p (.lst (iP zs))) [.lst b'] := by
  rw [r2_1]
  obtain ⟨d, b0, hd0, hd, hb0, e0⟩ := draw_ok (n := n) (T := [.lst []]) (s := 7) hb (by omega) (by decide) (by decide)
  obtain ⟨k, rfl⟩ := Int.eq_ofNat_of_zero_le hd0
  have lp := for_all (b := forB (run S (n + 1)) (cnOf S) (.gn 3) b2_0) (xs := rangeP 0 k) (t := [.v (.ref 0), .v (.ref 1), .v (.p (.int 240)), .u, .u, .u]) (L := [.lst b0, .lst []])
    (fun i t L' => ∃ b' zs y3 y4 y5 room, BagOk (m + 1 + 2 * i) b' ∧ zs.length = i ∧ (∀ z ∈ zs, 1 ≤ z ∧ z ≤ 240) ∧ 1 ≤ room ∧ room * prd zs ≤ 240 ∧ L' = [.lst b', .lst (iP zs)] ∧ t = [.v (.ref 0), .v (.ref 1), .v (.p (.int room)), y3, y4, y5])
    ⟨b0, [], _, _, _, 240, hb0, rfl, by simp, by decide, by decide, rfl, rfl⟩
    fun i x t L' hx hJ => by
      obtain ⟨b', zs, y3, y4, y5, room, hb', hl, hz, hr, hrp, rfl, rfl⟩ := hJ
      obtain ⟨rfl, hi⟩ := rng_get hx
      have hp := prd_pos fun z hz' => (hz z hz').1
      have hr240 : room ≤ 240 := by
        have := Int.mul_le_mul_of_nonneg_left hp (show 0 ≤ room by omega)
        omega
      obtain ⟨d1, b1, h10, h11, hb1, e1⟩ := draw_ok (n := n) (T := [.lst (iP zs)]) (s := 6) hb' (by omega) (by decide) (by decide)
      have al : (iP zs).length < sizeLine := by
        rw [iP, List.length_map, hl]
        exact Nat.lt_of_lt_of_le (show _ < 1000 by omega) (by decide)
      have go : ∀ most : Int, 1 ≤ most → most ≤ room → ∃ (d2 : Int) (b2 : List P), 0 ≤ d2 ∧ d2 < most ∧ BagOk (m + 1 + 2 * (i + 1)) b2 ∧ run S (n + 1) 3 [.v (.ref 0), .v (.p (.int most))] [.lst b1, .lst (iP zs)] = .ok (.p (.int d2)) [.lst b2, .lst (iP zs)] := fun most a c => by
        obtain ⟨d2, b2, h20, h21, hb2, e2⟩ := draw_ok (n := n) (T := [.lst (iP zs)]) (s := most) hb1 (by omega) (by omega) (by omega)
        exact ⟨d2, b2, h20, h21, hb2.le (by omega), e2⟩
      have fin : ∀ s : Int, 1 ≤ s → s ≤ room → (∀ z ∈ zs ++ [s], 1 ≤ z ∧ z ≤ 240) ∧ 1 ≤ room / s ∧ room / s * prd (zs ++ [s]) ≤ 240 := fun s a c => by
        refine ⟨fun z hz' => ?_, ?_, ?_⟩
        · rcases List.mem_append.mp hz' with h | h
          · exact hz z h
          · rw [List.mem_singleton.mp h]; omega
        · exact (Int.le_ediv_iff_mul_le (by omega)).mpr (by omega)
        · rw [prd_app, prd, prd, Int.mul_one, Int.mul_comm (prd zs), ← Int.mul_assoc]
          have h1 : room / s * s ≤ room := Int.ediv_mul_le _ (by omega)
          have := Int.mul_le_mul_of_nonneg_right h1 (show 0 ≤ prd zs by omega)
          omega
      by_cases c0 : d1 = 0
      · obtain ⟨d2, b2, h20, h21, hb2, e2⟩ := go room hr (Int.le_refl _)
        obtain ⟨f1, f2, f3⟩ := fin (1 + d2) (by omega) (by omega)
        have g1 : 0 < 1 + d2 := by omega
        have g2 : 1 + d2 < 1152921504606846976 := by omega
        refine ⟨[.v (.ref 0), .v (.ref 1), .v (.p (.int (room / (1 + d2)))), .v (.p (.int (i : Int))), .v (.p (.int room)), .v (.p (.int (1 + d2)))], [.lst b2, .lst (iP zs ++ [.int (1 + d2)])], ?_, b2, zs ++ [1 + d2], _, _, _, _, hb2, by simp [hl], f1, f2, f3, by simp [iP], rfl⟩
        subst c0
        simp -implicitDefEqProofs only [b2_0, Fk.ev_var, Fk.ev_lit, Fk.ev_con, Fk.ek_ofO, Fk.ev_op, Fk.ek_op, Fk.ev_neg, Fk.ek_neg, Fk.ev_notv, Fk.ek_not, Fk.ek_not2, Fk.ev_andv, Fk.ek_and, Fk.ek_and1, Fk.ek_and0, Fk.ev_orv, Fk.ek_or, Fk.ek_or1, Fk.ek_or0, Fk.ev_chain, Fk.ek_ch, Fk.ek_ch2, Fk.ek_ch3t, Fk.ek_ch3f, Fk.ev_ite, Fk.ek_ite1, Fk.ek_ite0, Fk.ev_call, Fk.ev_bi, Fk.ek_bi1, Fk.ek_bi2, Fk.ev_me, Fk.ek_me, Fk.ek_meb, Fk.ek_me20, Fk.ek_me21, Fk.ek_me22, Fk.ev_tup, Fk.ek_tup, Fk.ek_tup2, Fk.ev_lst, Fk.ek_lst, Fk.ek_lst2, Fk.ev_trev, Fk.ek_trev, Fk.ev_lrng, Fk.ek_lrng, Fk.ev_hsum, Fk.ek_hsum, Fk.ek_hs2, Fk.ev_dct0, Fk.ev_ix, Fk.ek_ix, Fk.ev_sl, Fk.ek_sl, Fk.ek_sl2, Fk.ek_sl3, Fk.ev_fld, Fk.ek_fld, Fk.ev_isi, Fk.ek_isi, Fk.ek_blR, Fk.ev_exi, Fk.ek_exi, Fk.ev_exf, Fk.ek_exf, Fk.ev_comp, Fk.ek_comp, Fk.ek_comp3, Fk.ev_o0, Fk.ev_o1, Fk.ek_o1, Fk.ev_a0, Fk.ev_a1, Fk.ek_a, Fk.ek_a2, Fk.ev_a2, Fk.ek_exv, Fk.ev_its, Fk.ek_its1, Fk.ek_its2, Fk.ev_tand, Fk.ek_tand1, Fk.ek_tand0, Fk.ev_tor, Fk.ek_tor1, Fk.ek_tor0, Fk.ev_tnot, Fk.ek_tnot, Fk.ev_tval, Fk.ek_tval, Fk.ek_tv2, Fk.ev_tyes, Fk.ev_pass, Fk.ev_seq, Fk.ev_expr, Fk.ek_expr, Fk.ev_asg, Fk.ek_asg, Fk.ev_seti, Fk.ek_set, Fk.ek_set2, Fk.ek_set3, Fk.ek_set4, Fk.ev_ret, Fk.ek_ret, Fk.ev_retn, Fk.ev_if, Fk.ek_if1, Fk.ek_if0, Fk.ev_for, Fk.ek_for, Fk.ev_brk, Fk.ev_cont, Fk.ev_while, Fk.ev_frz, Fk.ek_frz, Fk.ek_frzp, Fk.ek_frz2, Fk.ev_raise, Fk.ek_raise, Fk.ek_raise2, Fk.ek_xp0, Fk.ek_xp1, Fk.ev_try, Fk.ek_try0, Fk.ek_tryx, Fk.ek_try1, Fk.ek_tryf, Fk.ek_endr, Fk.ek_endn, Fk.ek_endb, Fk.ek_endc, Fk.ev_forB, Fk.ev_forB2, Fk.ev_tB, Fk.ek_tB1, Fk.ek_tB0, Fk.ek_tB2, Fk.gv_0, Fk.gv_s, Fk.op_add, Fk.op_sub, Fk.op_mul, Fk.op_fdiv, Fk.op_fdivs, Fk.op_mod, Fk.op_pow, Fk.op_lt, Fk.op_le, Fk.op_gt, Fk.op_ge, Fk.op_eqi, Fk.op_eqb, Fk.op_eqs, Fk.op_nei, Fk.op_neb, Fk.op_nes, Fk.op_addl, Fk.op_addt, Fk.op_adds, Fk.tr_bl, Fk.tr_non, Fk.tr_int, Fk.tr_lst, Fk.tr_tup, Fk.va_nil, Fk.va_cons, Fk.pu_nil, Fk.pu_cons, Fk.bi_lenl, Fk.bi_lent, Fk.bi_lenr, Fk.bi_lenp, Fk.ek_lenr, Fk.bi_int, Fk.bi_min, Fk.bi_max, Fk.bi_listl, Fk.bi_listt, Fk.bi_tupl, Fk.bi_tupt, Fk.bi_tupp, Fk.ek_tupr, Fk.bi_lisp, Fk.ek_lisr, Fk.bi_str, Fk.new_f, Fk.new_t, Fk.newK_f, Fk.ix_t, Fk.ix_l, Fk.ix_r, Fk.ix_p, Fk.ek_ixr, Fk.at_0, Fk.at_1, Fk.at_2, Fk.set_l, Fk.ek_st, Fk.ek_st2, Fk.ixN_0, Fk.ixN_1, Fk.ixN_2, Fk.me_app, Fk.ek_app, Fk.ty_app, Fk.ek_tyl, Fk.me_joinl, Fk.ek_join, Fk.ty_join, Fk.it_seql, Fk.it_seqt, Fk.it_seqr, Fk.it_rngn, Fk.it_rng, Fk.it_rng2, Fk.it_rev, Fk.it_revt, Fk.it_ziptl, Fk.it_zipll, Fk.it_ziptt, Fk.lk_p, Fk.sl_t, Fk.sl_l, Fk.cut_to, Fk.cut_from1, Fk.cut_1, Fk.cut_from, Fk.hl_get, Fk.hl_set, Fk.op_eqL, Fk.op_neL, Fk.op_eqT, Fk.op_neT, tyP, R.bind_ok, R.bind_ex, R.st_ok, R.st_ex, RS2.seq_nx, RS2.seq_rt, RS2.seq_ex, RS2.seq_bk, RS2.seq_ct, List.set_cons_zero, List.set_cons_succ, List.getElem?_cons_zero, List.getElem?_cons_succ, Option.map_some, reduceCtorEq, imp_self, implies_true, Bool.not_true, Bool.not_false, decide_true, decide_false, Nat.reduceAdd, Nat.reduceSub, Nat.reduceLT, Nat.reduceLeDiff, Nat.reduceEqDiff, Int.reduceLT, Int.reduceLE, Int.reduceEq, Int.reduceNeg, Int.reduceToNat, Nat.reduceBEq, and_self, true_and, and_true, Nat.reducePow, Int.reducePow, Int.reduceAdd, Int.reduceSub, Int.reduceMul, List.length_cons, List.length_nil, List.cons_append, List.nil_append, List.append_nil, e1, e2, al, g1, g2]
      · obtain ⟨mo, hmo⟩ : ∃ mo : Int, (if room < 6 then room else 6) = mo := ⟨_, rfl⟩
        have hm1 : 1 ≤ mo ∧ mo ≤ room := by rw [← hmo]; split <;> omega
        obtain ⟨d2, b2, h20, h21, hb2, e2⟩ := go mo hm1.1 hm1.2
        obtain ⟨f1, f2, f3⟩ := fin (1 + d2) (by omega) (by omega)
        have g1 : 0 < 1 + d2 := by omega
        have g2 : 1 + d2 < 1152921504606846976 := by omega
        refine ⟨[.v (.ref 0), .v (.ref 1), .v (.p (.int (room / (1 + d2)))), .v (.p (.int (i : Int))), .v (.p (.int mo)), .v (.p (.int (1 + d2)))], [.lst b2, .lst (iP zs ++ [.int (1 + d2)])], ?_, b2, zs ++ [1 + d2], _, _, _, _, hb2, by simp [hl], f1, f2, f3, by simp [iP], rfl⟩
        simp -implicitDefEqProofs only [b2_0, Fk.ev_var, Fk.ev_lit, Fk.ev_con, Fk.ek_ofO, Fk.ev_op, Fk.ek_op, Fk.ev_neg, Fk.ek_neg, Fk.ev_notv, Fk.ek_not, Fk.ek_not2, Fk.ev_andv, Fk.ek_and, Fk.ek_and1, Fk.ek_and0, Fk.ev_orv, Fk.ek_or, Fk.ek_or1, Fk.ek_or0, Fk.ev_chain, Fk.ek_ch, Fk.ek_ch2, Fk.ek_ch3t, Fk.ek_ch3f, Fk.ev_ite, Fk.ek_ite1, Fk.ek_ite0, Fk.ev_call, Fk.ev_bi, Fk.ek_bi1, Fk.ek_bi2, Fk.ev_me, Fk.ek_me, Fk.ek_meb, Fk.ek_me20, Fk.ek_me21, Fk.ek_me22, Fk.ev_tup, Fk.ek_tup, Fk.ek_tup2, Fk.ev_lst, Fk.ek_lst, Fk.ek_lst2, Fk.ev_trev, Fk.ek_trev, Fk.ev_lrng, Fk.ek_lrng, Fk.ev_hsum, Fk.ek_hsum, Fk.ek_hs2, Fk.ev_dct0, Fk.ev_ix, Fk.ek_ix, Fk.ev_sl, Fk.ek_sl, Fk.ek_sl2, Fk.ek_sl3, Fk.ev_fld, Fk.ek_fld, Fk.ev_isi, Fk.ek_isi, Fk.ek_blR, Fk.ev_exi, Fk.ek_exi, Fk.ev_exf, Fk.ek_exf, Fk.ev_comp, Fk.ek_comp, Fk.ek_comp3, Fk.ev_o0, Fk.ev_o1, Fk.ek_o1, Fk.ev_a0, Fk.ev_a1, Fk.ek_a, Fk.ek_a2, Fk.ev_a2, Fk.ek_exv, Fk.ev_its, Fk.ek_its1, Fk.ek_its2, Fk.ev_tand, Fk.ek_tand1, Fk.ek_tand0, Fk.ev_tor, Fk.ek_tor1, Fk.ek_tor0, Fk.ev_tnot, Fk.ek_tnot, Fk.ev_tval, Fk.ek_tval, Fk.ek_tv2, Fk.ev_tyes, Fk.ev_pass, Fk.ev_seq, Fk.ev_expr, Fk.ek_expr, Fk.ev_asg, Fk.ek_asg, Fk.ev_seti, Fk.ek_set, Fk.ek_set2, Fk.ek_set3, Fk.ek_set4, Fk.ev_ret, Fk.ek_ret, Fk.ev_retn, Fk.ev_if, Fk.ek_if1, Fk.ek_if0, Fk.ev_for, Fk.ek_for, Fk.ev_brk, Fk.ev_cont, Fk.ev_while, Fk.ev_frz, Fk.ek_frz, Fk.ek_frzp, Fk.ek_frz2, Fk.ev_raise, Fk.ek_raise, Fk.ek_raise2, Fk.ek_xp0, Fk.ek_xp1, Fk.ev_try, Fk.ek_try0, Fk.ek_tryx, Fk.ek_try1, Fk.ek_tryf, Fk.ek_endr, Fk.ek_endn, Fk.ek_endb, Fk.ek_endc, Fk.ev_forB, Fk.ev_forB2, Fk.ev_tB, Fk.ek_tB1, Fk.ek_tB0, Fk.ek_tB2, Fk.gv_0, Fk.gv_s, Fk.op_add, Fk.op_sub, Fk.op_mul, Fk.op_fdiv, Fk.op_fdivs, Fk.op_mod, Fk.op_pow, Fk.op_lt, Fk.op_le, Fk.op_gt, Fk.op_ge, Fk.op_eqi, Fk.op_eqb, Fk.op_eqs, Fk.op_nei, Fk.op_neb, Fk.op_nes, Fk.op_addl, Fk.op_addt, Fk.op_adds, Fk.tr_bl, Fk.tr_non, Fk.tr_int, Fk.tr_lst, Fk.tr_tup, Fk.va_nil, Fk.va_cons, Fk.pu_nil, Fk.pu_cons, Fk.bi_lenl, Fk.bi_lent, Fk.bi_lenr, Fk.bi_lenp, Fk.ek_lenr, Fk.bi_int, Fk.bi_min, Fk.bi_max, Fk.bi_listl, Fk.bi_listt, Fk.bi_tupl, Fk.bi_tupt, Fk.bi_tupp, Fk.ek_tupr, Fk.bi_lisp, Fk.ek_lisr, Fk.bi_str, Fk.new_f, Fk.new_t, Fk.newK_f, Fk.ix_t, Fk.ix_l, Fk.ix_r, Fk.ix_p, Fk.ek_ixr, Fk.at_0, Fk.at_1, Fk.at_2, Fk.set_l, Fk.ek_st, Fk.ek_st2, Fk.ixN_0, Fk.ixN_1, Fk.ixN_2, Fk.me_app, Fk.ek_app, Fk.ty_app, Fk.ek_tyl, Fk.me_joinl, Fk.ek_join, Fk.ty_join, Fk.it_seql, Fk.it_seqt, Fk.it_seqr, Fk.it_rngn, Fk.it_rng, Fk.it_rng2, Fk.it_rev, Fk.it_revt, Fk.it_ziptl, Fk.it_zipll, Fk.it_ziptt, Fk.lk_p, Fk.sl_t, Fk.sl_l, Fk.cut_to, Fk.cut_from1, Fk.cut_1, Fk.cut_from, Fk.hl_get, Fk.hl_set, Fk.op_eqL, Fk.op_neL, Fk.op_eqT, Fk.op_neT, tyP, R.bind_ok, R.bind_ex, R.st_ok, R.st_ex, RS2.seq_nx, RS2.seq_rt, RS2.seq_ex, RS2.seq_bk, RS2.seq_ct, List.set_cons_zero, List.set_cons_succ, List.getElem?_cons_zero, List.getElem?_cons_succ, Option.map_some, reduceCtorEq, imp_self, implies_true, Bool.not_true, Bool.not_false, decide_true, decide_false, Nat.reduceAdd, Nat.reduceSub, Nat.reduceLT, Nat.reduceLeDiff, Nat.reduceEqDiff, Int.reduceLT, Int.reduceLE, Int.reduceEq, Int.reduceNeg, Int.reduceToNat, Nat.reduceBEq, and_self, true_and, and_true, Nat.reducePow, Int.reducePow, Int.reduceAdd, Int.reduceSub, Int.reduceMul, List.length_cons, List.length_nil, List.cons_append, List.nil_append, List.append_nil, e1, e2, al, c0, g1, g2, hmo]
  obtain ⟨t', L', e, b', zs, y3, y4, y5, room, hb', hl, hz, hr, hrp, rfl, rfl⟩ := lp
  rw [rng_len] at hl hb'
  have hp := prd_pos fun z hz' => (hz z hz').1
  have hp240 : prd zs ≤ 240 := by
    have := Int.mul_le_mul_of_nonneg_right hr (show 0 ≤ prd zs by omega)
    omega
  refine ⟨b', zs, hb'.le (by omega), by omega, hz, hp240, ?_⟩
  have r1 : Rb k := Nat.le_trans (show k ≤ 7 by omega) (by decide)
  simp -implicitDefEqProofs only [b2, Fk.ev_var, Fk.ev_lit, Fk.ev_con, Fk.ek_ofO, Fk.ev_op, Fk.ek_op, Fk.ev_neg, Fk.ek_neg, Fk.ev_notv, Fk.ek_not, Fk.ek_not2, Fk.ev_andv, Fk.ek_and, Fk.ek_and1, Fk.ek_and0, Fk.ev_orv, Fk.ek_or, Fk.ek_or1, Fk.ek_or0, Fk.ev_chain, Fk.ek_ch, Fk.ek_ch2, Fk.ek_ch3t, Fk.ek_ch3f, Fk.ev_ite, Fk.ek_ite1, Fk.ek_ite0, Fk.ev_call, Fk.ev_bi, Fk.ek_bi1, Fk.ek_bi2, Fk.ev_me, Fk.ek_me, Fk.ek_meb, Fk.ek_me20, Fk.ek_me21, Fk.ek_me22, Fk.ev_tup, Fk.ek_tup, Fk.ek_tup2, Fk.ev_lst, Fk.ek_lst, Fk.ek_lst2, Fk.ev_trev, Fk.ek_trev, Fk.ev_lrng, Fk.ek_lrng, Fk.ev_hsum, Fk.ek_hsum, Fk.ek_hs2, Fk.ev_dct0, Fk.ev_ix, Fk.ek_ix, Fk.ev_sl, Fk.ek_sl, Fk.ek_sl2, Fk.ek_sl3, Fk.ev_fld, Fk.ek_fld, Fk.ev_isi, Fk.ek_isi, Fk.ek_blR, Fk.ev_exi, Fk.ek_exi, Fk.ev_exf, Fk.ek_exf, Fk.ev_comp, Fk.ek_comp, Fk.ek_comp3, Fk.ev_o0, Fk.ev_o1, Fk.ek_o1, Fk.ev_a0, Fk.ev_a1, Fk.ek_a, Fk.ek_a2, Fk.ev_a2, Fk.ek_exv, Fk.ev_its, Fk.ek_its1, Fk.ek_its2, Fk.ev_tand, Fk.ek_tand1, Fk.ek_tand0, Fk.ev_tor, Fk.ek_tor1, Fk.ek_tor0, Fk.ev_tnot, Fk.ek_tnot, Fk.ev_tval, Fk.ek_tval, Fk.ek_tv2, Fk.ev_tyes, Fk.ev_pass, Fk.ev_seq, Fk.ev_expr, Fk.ek_expr, Fk.ev_asg, Fk.ek_asg, Fk.ev_seti, Fk.ek_set, Fk.ek_set2, Fk.ek_set3, Fk.ek_set4, Fk.ev_ret, Fk.ek_ret, Fk.ev_retn, Fk.ev_if, Fk.ek_if1, Fk.ek_if0, Fk.ev_for, Fk.ek_for, Fk.ev_brk, Fk.ev_cont, Fk.ev_while, Fk.ev_frz, Fk.ek_frz, Fk.ek_frzp, Fk.ek_frz2, Fk.ev_raise, Fk.ek_raise, Fk.ek_raise2, Fk.ek_xp0, Fk.ek_xp1, Fk.ev_try, Fk.ek_try0, Fk.ek_tryx, Fk.ek_try1, Fk.ek_tryf, Fk.ek_endr, Fk.ek_endn, Fk.ek_endb, Fk.ek_endc, Fk.ev_forB, Fk.ev_forB2, Fk.ev_tB, Fk.ek_tB1, Fk.ek_tB0, Fk.ek_tB2, Fk.gv_0, Fk.gv_s, Fk.op_add, Fk.op_sub, Fk.op_mul, Fk.op_fdiv, Fk.op_fdivs, Fk.op_mod, Fk.op_pow, Fk.op_lt, Fk.op_le, Fk.op_gt, Fk.op_ge, Fk.op_eqi, Fk.op_eqb, Fk.op_eqs, Fk.op_nei, Fk.op_neb, Fk.op_nes, Fk.op_addl, Fk.op_addt, Fk.op_adds, Fk.tr_bl, Fk.tr_non, Fk.tr_int, Fk.tr_lst, Fk.tr_tup, Fk.va_nil, Fk.va_cons, Fk.pu_nil, Fk.pu_cons, Fk.bi_lenl, Fk.bi_lent, Fk.bi_lenr, Fk.bi_lenp, Fk.ek_lenr, Fk.bi_int, Fk.bi_min, Fk.bi_max, Fk.bi_listl, Fk.bi_listt, Fk.bi_tupl, Fk.bi_tupt, Fk.bi_tupp, Fk.ek_tupr, Fk.bi_lisp, Fk.ek_lisr, Fk.bi_str, Fk.new_f, Fk.new_t, Fk.newK_f, Fk.ix_t, Fk.ix_l, Fk.ix_r, Fk.ix_p, Fk.ek_ixr, Fk.at_0, Fk.at_1, Fk.at_2, Fk.set_l, Fk.ek_st, Fk.ek_st2, Fk.ixN_0, Fk.ixN_1, Fk.ixN_2, Fk.me_app, Fk.ek_app, Fk.ty_app, Fk.ek_tyl, Fk.me_joinl, Fk.ek_join, Fk.ty_join, Fk.it_seql, Fk.it_seqt, Fk.it_seqr, Fk.it_rngn, Fk.it_rng, Fk.it_rng2, Fk.it_rev, Fk.it_revt, Fk.it_ziptl, Fk.it_zipll, Fk.it_ziptt, Fk.lk_p, Fk.sl_t, Fk.sl_l, Fk.cut_to, Fk.cut_from1, Fk.cut_1, Fk.cut_from, Fk.hl_get, Fk.hl_set, Fk.op_eqL, Fk.op_neL, Fk.op_eqT, Fk.op_neT, tyP, R.bind_ok, R.bind_ex, R.st_ok, R.st_ex, RS2.seq_nx, RS2.seq_rt, RS2.seq_ex, RS2.seq_bk, RS2.seq_ct, List.set_cons_zero, List.set_cons_succ, List.getElem?_cons_zero, List.getElem?_cons_succ, Option.map_some, reduceCtorEq, imp_self, implies_true, Bool.not_true, Bool.not_false, decide_true, decide_false, Nat.reduceAdd, Nat.reduceSub, Nat.reduceLT, Nat.reduceLeDiff, Nat.reduceEqDiff, Int.reduceLT, Int.reduceLE, Int.reduceEq, Int.reduceNeg, Int.reduceToNat, Nat.reduceBEq, and_self, true_and, and_true, Nat.reducePow, Int.reducePow, Int.reduceAdd, Int.reduceSub, Int.reduceMul, List.length_cons, List.length_nil, List.cons_append, List.nil_append, List.append_nil, Nat.zero_le, e0, r1, e]
  exact en_rtB (T := []) (M := [.dead]) rfl tc_nil
end Lw

set_option Elab.async false
set_option linter.all false
set_option autoImplicit false
set_option maxRecDepth 100000
set_option maxHeartbeats 2000000
namespace Lw
open PySem PySem.Spec PyProof.Rows L2 Fk
theorem bag_ok {n : Nat} (ns : List Int) : ∃ b, BagOk 0 b ∧ run S (n + 1) 1 [.v (.p (.rol (iP ns)))] [] = .ok (.ref 0) [.lst b] := by
  rw [r1_1]
  have lp := for_all (b := forB (run S n) (cnOf S) (.gn 3) b1_0) (xs := iP ns) (t := [.v (.p (.rol (iP ns))), .v (.p (.int 12945)), .v (.p (.int 0)), .u]) (L := [])
    (fun i t L' => ∃ st lf y, 0 ≤ st ∧ st < 2147483647 ∧ 0 ≤ lf ∧ L' = [] ∧ t = [.v (.p (.rol (iP ns))), .v (.p (.int st)), .v (.p (.int lf)), y])
    ⟨12945, 0, _, by decide, by decide, by decide, rfl, rfl⟩
    fun i x t L' hx hJ => by
      obtain ⟨st, lf, y, h1, h2, h3, rfl, rfl⟩ := hJ
      obtain ⟨c, rfl⟩ : ∃ c, x = .int c := by
        rw [iP, List.getElem?_map] at hx
        cases hq : ns[i]? with
        | none => rw [hq] at hx; cases hx
        | some z => rw [hq] at hx; exact ⟨z, by cases hx; rfl⟩
      have g := mul_lt (i := st) (j := 48271) 40 40 (by omega) (by decide) (by decide) (by decide) (by decide)
      have p1 : (10 : Int).natAbs < 2 ^ 64 := by decide
      have p2 : (10 : Int) ^ (Int.toNat 18) = 1000000000000000000 := rfl
      have q1 : 0 ≤ (st * 48271 + c % 2147483629 + 7) % 2147483647 ∧ (st * 48271 + c % 2147483629 + 7) % 2147483647 < 2147483647 := ⟨Int.emod_nonneg _ (by decide), Int.emod_lt_of_pos _ (by decide)⟩
      generalize hY : (st * 48271 + c % 2147483629 + 7) % 2147483647 = Y at q1
      by_cases c0 : lf = 0
      · by_cases c1 : 1000000000000000000 ≤ c
        · refine ⟨[.v (.p (.rol (iP ns))), .v (.p (.int Y)), .v (.p (.int (c - 1000000000000000000))), .v (.p (.int c))], [], ?_, Y, c - 1000000000000000000, _, q1.1, q1.2, by omega, rfl, rfl⟩
          simp -implicitDefEqProofs only [b1_0, Fk.ev_var, Fk.ev_lit, Fk.ev_con, Fk.ek_ofO, Fk.ev_op, Fk.ek_op, Fk.ev_neg, Fk.ek_neg, Fk.ev_notv, Fk.ek_not, Fk.ek_not2, Fk.ev_andv, Fk.ek_and, Fk.ek_and1, Fk.ek_and0, Fk.ev_orv, Fk.ek_or, Fk.ek_or1, Fk.ek_or0, Fk.ev_chain, Fk.ek_ch, Fk.ek_ch2, Fk.ek_ch3t, Fk.ek_ch3f, Fk.ev_ite, Fk.ek_ite1, Fk.ek_ite0, Fk.ev_call, Fk.ev_bi, Fk.ek_bi1, Fk.ek_bi2, Fk.ev_me, Fk.ek_me, Fk.ek_meb, Fk.ek_me20, Fk.ek_me21, Fk.ek_me22, Fk.ev_tup, Fk.ek_tup, Fk.ek_tup2, Fk.ev_lst, Fk.ek_lst, Fk.ek_lst2, Fk.ev_trev, Fk.ek_trev, Fk.ev_lrng, Fk.ek_lrng, Fk.ev_hsum, Fk.ek_hsum, Fk.ek_hs2, Fk.ev_dct0, Fk.ev_ix, Fk.ek_ix, Fk.ev_sl, Fk.ek_sl, Fk.ek_sl2, Fk.ek_sl3, Fk.ev_fld, Fk.ek_fld, Fk.ev_isi, Fk.ek_isi, Fk.ek_blR, Fk.ev_exi, Fk.ek_exi, Fk.ev_exf, Fk.ek_exf, Fk.ev_comp, Fk.ek_comp, Fk.ek_comp3, Fk.ev_o0, Fk.ev_o1, Fk.ek_o1, Fk.ev_a0, Fk.ev_a1, Fk.ek_a, Fk.ek_a2, Fk.ev_a2, Fk.ek_exv, Fk.ev_its, Fk.ek_its1, Fk.ek_its2, Fk.ev_tand, Fk.ek_tand1, Fk.ek_tand0, Fk.ev_tor, Fk.ek_tor1, Fk.ek_tor0, Fk.ev_tnot, Fk.ek_tnot, Fk.ev_tval, Fk.ek_tval, Fk.ek_tv2, Fk.ev_tyes, Fk.ev_pass, Fk.ev_seq, Fk.ev_expr, Fk.ek_expr, Fk.ev_asg, Fk.ek_asg, Fk.ev_seti, Fk.ek_set, Fk.ek_set2, Fk.ek_set3, Fk.ek_set4, Fk.ev_ret, Fk.ek_ret, Fk.ev_retn, Fk.ev_if, Fk.ek_if1, Fk.ek_if0, Fk.ev_for, Fk.ek_for, Fk.ev_brk, Fk.ev_cont, Fk.ev_while, Fk.ev_frz, Fk.ek_frz, Fk.ek_frzp, Fk.ek_frz2, Fk.ev_raise, Fk.ek_raise, Fk.ek_raise2, Fk.ek_xp0, Fk.ek_xp1, Fk.ev_try, Fk.ek_try0, Fk.ek_tryx, Fk.ek_try1, Fk.ek_tryf, Fk.ek_endr, Fk.ek_endn, Fk.ek_endb, Fk.ek_endc, Fk.ev_forB, Fk.ev_forB2, Fk.ev_tB, Fk.ek_tB1, Fk.ek_tB0, Fk.ek_tB2, Fk.gv_0, Fk.gv_s, Fk.op_add, Fk.op_sub, Fk.op_mul, Fk.op_fdiv, Fk.op_fdivs, Fk.op_mod, Fk.op_pow, Fk.op_lt, Fk.op_le, Fk.op_gt, Fk.op_ge, Fk.op_eqi, Fk.op_eqb, Fk.op_eqs, Fk.op_nei, Fk.op_neb, Fk.op_nes, Fk.op_addl, Fk.op_addt, Fk.op_adds, Fk.tr_bl, Fk.tr_non, Fk.tr_int, Fk.tr_lst, Fk.tr_tup, Fk.va_nil, Fk.va_cons, Fk.pu_nil, Fk.pu_cons, Fk.bi_lenl, Fk.bi_lent, Fk.bi_lenr, Fk.bi_lenp, Fk.ek_lenr, Fk.bi_int, Fk.bi_min, Fk.bi_max, Fk.bi_listl, Fk.bi_listt, Fk.bi_tupl, Fk.bi_tupt, Fk.bi_tupp, Fk.ek_tupr, Fk.bi_lisp, Fk.ek_lisr, Fk.bi_str, Fk.new_f, Fk.new_t, Fk.newK_f, Fk.ix_t, Fk.ix_l, Fk.ix_r, Fk.ix_p, Fk.ek_ixr, Fk.at_0, Fk.at_1, Fk.at_2, Fk.set_l, Fk.ek_st, Fk.ek_st2, Fk.ixN_0, Fk.ixN_1, Fk.ixN_2, Fk.me_app, Fk.ek_app, Fk.ty_app, Fk.ek_tyl, Fk.me_joinl, Fk.ek_join, Fk.ty_join, Fk.it_seql, Fk.it_seqt, Fk.it_seqr, Fk.it_rngn, Fk.it_rng, Fk.it_rng2, Fk.it_rev, Fk.it_revt, Fk.it_ziptl, Fk.it_zipll, Fk.it_ziptt, Fk.lk_p, Fk.sl_t, Fk.sl_l, Fk.cut_to, Fk.cut_from1, Fk.cut_1, Fk.cut_from, Fk.hl_get, Fk.hl_set, Fk.op_eqL, Fk.op_neL, Fk.op_eqT, Fk.op_neT, tyP, R.bind_ok, R.bind_ex, R.st_ok, R.st_ex, RS2.seq_nx, RS2.seq_rt, RS2.seq_ex, RS2.seq_bk, RS2.seq_ct, List.set_cons_zero, List.set_cons_succ, List.getElem?_cons_zero, List.getElem?_cons_succ, Option.map_some, reduceCtorEq, imp_self, implies_true, Bool.not_true, Bool.not_false, decide_true, decide_false, Nat.reduceAdd, Nat.reduceSub, Nat.reduceLT, Nat.reduceLeDiff, Nat.reduceEqDiff, Int.reduceLT, Int.reduceLE, Int.reduceEq, Int.reduceNeg, Int.reduceToNat, Nat.reduceBEq, and_self, true_and, and_true, Nat.reducePow, Int.reducePow, Int.reduceAdd, Int.reduceSub, Int.reduceMul, List.length_cons, List.length_nil, List.cons_append, List.nil_append, List.append_nil, g, hY, c0, p1, p2, c1]
        · refine ⟨[.v (.p (.rol (iP ns))), .v (.p (.int Y)), .v (.p (.int lf)), .v (.p (.int c))], [], ?_, Y, lf, _, q1.1, q1.2, h3, rfl, rfl⟩
          simp -implicitDefEqProofs only [b1_0, Fk.ev_var, Fk.ev_lit, Fk.ev_con, Fk.ek_ofO, Fk.ev_op, Fk.ek_op, Fk.ev_neg, Fk.ek_neg, Fk.ev_notv, Fk.ek_not, Fk.ek_not2, Fk.ev_andv, Fk.ek_and, Fk.ek_and1, Fk.ek_and0, Fk.ev_orv, Fk.ek_or, Fk.ek_or1, Fk.ek_or0, Fk.ev_chain, Fk.ek_ch, Fk.ek_ch2, Fk.ek_ch3t, Fk.ek_ch3f, Fk.ev_ite, Fk.ek_ite1, Fk.ek_ite0, Fk.ev_call, Fk.ev_bi, Fk.ek_bi1, Fk.ek_bi2, Fk.ev_me, Fk.ek_me, Fk.ek_meb, Fk.ek_me20, Fk.ek_me21, Fk.ek_me22, Fk.ev_tup, Fk.ek_tup, Fk.ek_tup2, Fk.ev_lst, Fk.ek_lst, Fk.ek_lst2, Fk.ev_trev, Fk.ek_trev, Fk.ev_lrng, Fk.ek_lrng, Fk.ev_hsum, Fk.ek_hsum, Fk.ek_hs2, Fk.ev_dct0, Fk.ev_ix, Fk.ek_ix, Fk.ev_sl, Fk.ek_sl, Fk.ek_sl2, Fk.ek_sl3, Fk.ev_fld, Fk.ek_fld, Fk.ev_isi, Fk.ek_isi, Fk.ek_blR, Fk.ev_exi, Fk.ek_exi, Fk.ev_exf, Fk.ek_exf, Fk.ev_comp, Fk.ek_comp, Fk.ek_comp3, Fk.ev_o0, Fk.ev_o1, Fk.ek_o1, Fk.ev_a0, Fk.ev_a1, Fk.ek_a, Fk.ek_a2, Fk.ev_a2, Fk.ek_exv, Fk.ev_its, Fk.ek_its1, Fk.ek_its2, Fk.ev_tand, Fk.ek_tand1, Fk.ek_tand0, Fk.ev_tor, Fk.ek_tor1, Fk.ek_tor0, Fk.ev_tnot, Fk.ek_tnot, Fk.ev_tval, Fk.ek_tval, Fk.ek_tv2, Fk.ev_tyes, Fk.ev_pass, Fk.ev_seq, Fk.ev_expr, Fk.ek_expr, Fk.ev_asg, Fk.ek_asg, Fk.ev_seti, Fk.ek_set, Fk.ek_set2, Fk.ek_set3, Fk.ek_set4, Fk.ev_ret, Fk.ek_ret, Fk.ev_retn, Fk.ev_if, Fk.ek_if1, Fk.ek_if0, Fk.ev_for, Fk.ek_for, Fk.ev_brk, Fk.ev_cont, Fk.ev_while, Fk.ev_frz, Fk.ek_frz, Fk.ek_frzp, Fk.ek_frz2, Fk.ev_raise, Fk.ek_raise, Fk.ek_raise2, Fk.ek_xp0, Fk.ek_xp1, Fk.ev_try, Fk.ek_try0, Fk.ek_tryx, Fk.ek_try1, Fk.ek_tryf, Fk.ek_endr, Fk.ek_endn, Fk.ek_endb, Fk.ek_endc, Fk.ev_forB, Fk.ev_forB2, Fk.ev_tB, Fk.ek_tB1, Fk.ek_tB0, Fk.ek_tB2, Fk.gv_0, Fk.gv_s, Fk.op_add, Fk.op_sub, Fk.op_mul, Fk.op_fdiv, Fk.op_fdivs, Fk.op_mod, Fk.op_pow, Fk.op_lt, Fk.op_le, Fk.op_gt, Fk.op_ge, Fk.op_eqi, Fk.op_eqb, Fk.op_eqs, Fk.op_nei, Fk.op_neb, Fk.op_nes, Fk.op_addl, Fk.op_addt, Fk.op_adds, Fk.tr_bl, Fk.tr_non, Fk.tr_int, Fk.tr_lst, Fk.tr_tup, Fk.va_nil, Fk.va_cons, Fk.pu_nil, Fk.pu_cons, Fk.bi_lenl, Fk.bi_lent, Fk.bi_lenr, Fk.bi_lenp, Fk.ek_lenr, Fk.bi_int, Fk.bi_min, Fk.bi_max, Fk.bi_listl, Fk.bi_listt, Fk.bi_tupl, Fk.bi_tupt, Fk.bi_tupp, Fk.ek_tupr, Fk.bi_lisp, Fk.ek_lisr, Fk.bi_str, Fk.new_f, Fk.new_t, Fk.newK_f, Fk.ix_t, Fk.ix_l, Fk.ix_r, Fk.ix_p, Fk.ek_ixr, Fk.at_0, Fk.at_1, Fk.at_2, Fk.set_l, Fk.ek_st, Fk.ek_st2, Fk.ixN_0, Fk.ixN_1, Fk.ixN_2, Fk.me_app, Fk.ek_app, Fk.ty_app, Fk.ek_tyl, Fk.me_joinl, Fk.ek_join, Fk.ty_join, Fk.it_seql, Fk.it_seqt, Fk.it_seqr, Fk.it_rngn, Fk.it_rng, Fk.it_rng2, Fk.it_rev, Fk.it_revt, Fk.it_ziptl, Fk.it_zipll, Fk.it_ziptt, Fk.lk_p, Fk.sl_t, Fk.sl_l, Fk.cut_to, Fk.cut_from1, Fk.cut_1, Fk.cut_from, Fk.hl_get, Fk.hl_set, Fk.op_eqL, Fk.op_neL, Fk.op_eqT, Fk.op_neT, tyP, R.bind_ok, R.bind_ex, R.st_ok, R.st_ex, RS2.seq_nx, RS2.seq_rt, RS2.seq_ex, RS2.seq_bk, RS2.seq_ct, List.set_cons_zero, List.set_cons_succ, List.getElem?_cons_zero, List.getElem?_cons_succ, Option.map_some, reduceCtorEq, imp_self, implies_true, Bool.not_true, Bool.not_false, decide_true, decide_false, Nat.reduceAdd, Nat.reduceSub, Nat.reduceLT, Nat.reduceLeDiff, Nat.reduceEqDiff, Int.reduceLT, Int.reduceLE, Int.reduceEq, Int.reduceNeg, Int.reduceToNat, Nat.reduceBEq, and_self, true_and, and_true, Nat.reducePow, Int.reducePow, Int.reduceAdd, Int.reduceSub, Int.reduceMul, List.length_cons, List.length_nil, List.cons_append, List.nil_append, List.append_nil, g, hY, c0, p1, p2, c1]
      · refine ⟨[.v (.p (.rol (iP ns))), .v (.p (.int Y)), .v (.p (.int lf)), .v (.p (.int c))], [], ?_, Y, lf, _, q1.1, q1.2, h3, rfl, rfl⟩
        simp -implicitDefEqProofs only [b1_0, Fk.ev_var, Fk.ev_lit, Fk.ev_con, Fk.ek_ofO, Fk.ev_op, Fk.ek_op, Fk.ev_neg, Fk.ek_neg, Fk.ev_notv, Fk.ek_not, Fk.ek_not2, Fk.ev_andv, Fk.ek_and, Fk.ek_and1, Fk.ek_and0, Fk.ev_orv, Fk.ek_or, Fk.ek_or1, Fk.ek_or0, Fk.ev_chain, Fk.ek_ch, Fk.ek_ch2, Fk.ek_ch3t, Fk.ek_ch3f, Fk.ev_ite, Fk.ek_ite1, Fk.ek_ite0, Fk.ev_call, Fk.ev_bi, Fk.ek_bi1, Fk.ek_bi2, Fk.ev_me, Fk.ek_me, Fk.ek_meb, Fk.ek_me20, Fk.ek_me21, Fk.ek_me22, Fk.ev_tup, Fk.ek_tup, Fk.ek_tup2, Fk.ev_lst, Fk.ek_lst, Fk.ek_lst2, Fk.ev_trev, Fk.ek_trev, Fk.ev_lrng, Fk.ek_lrng, Fk.ev_hsum, Fk.ek_hsum, Fk.ek_hs2, Fk.ev_dct0, Fk.ev_ix, Fk.ek_ix, Fk.ev_sl, Fk.ek_sl, Fk.ek_sl2, Fk.ek_sl3, Fk.ev_fld, Fk.ek_fld, Fk.ev_isi, Fk.ek_isi, Fk.ek_blR, Fk.ev_exi, Fk.ek_exi, Fk.ev_exf, Fk.ek_exf, Fk.ev_comp, Fk.ek_comp, Fk.ek_comp3, Fk.ev_o0, Fk.ev_o1, Fk.ek_o1, Fk.ev_a0, Fk.ev_a1, Fk.ek_a, Fk.ek_a2, Fk.ev_a2, Fk.ek_exv, Fk.ev_its, Fk.ek_its1, Fk.ek_its2, Fk.ev_tand, Fk.ek_tand1, Fk.ek_tand0, Fk.ev_tor, Fk.ek_tor1, Fk.ek_tor0, Fk.ev_tnot, Fk.ek_tnot, Fk.ev_tval, Fk.ek_tval, Fk.ek_tv2, Fk.ev_tyes, Fk.ev_pass, Fk.ev_seq, Fk.ev_expr, Fk.ek_expr, Fk.ev_asg, Fk.ek_asg, Fk.ev_seti, Fk.ek_set, Fk.ek_set2, Fk.ek_set3, Fk.ek_set4, Fk.ev_ret, Fk.ek_ret, Fk.ev_retn, Fk.ev_if, Fk.ek_if1, Fk.ek_if0, Fk.ev_for, Fk.ek_for, Fk.ev_brk, Fk.ev_cont, Fk.ev_while, Fk.ev_frz, Fk.ek_frz, Fk.ek_frzp, Fk.ek_frz2, Fk.ev_raise, Fk.ek_raise, Fk.ek_raise2, Fk.ek_xp0, Fk.ek_xp1, Fk.ev_try, Fk.ek_try0, Fk.ek_tryx, Fk.ek_try1, Fk.ek_tryf, Fk.ek_endr, Fk.ek_endn, Fk.ek_endb, Fk.ek_endc, Fk.ev_forB, Fk.ev_forB2, Fk.ev_tB, Fk.ek_tB1, Fk.ek_tB0, Fk.ek_tB2, Fk.gv_0, Fk.gv_s, Fk.op_add, Fk.op_sub, Fk.op_mul, Fk.op_fdiv, Fk.op_fdivs, Fk.op_mod, Fk.op_pow, Fk.op_lt, Fk.op_le, Fk.op_gt, Fk.op_ge, Fk.op_eqi, Fk.op_eqb, Fk.op_eqs, Fk.op_nei, Fk.op_neb, Fk.op_nes, Fk.op_addl, Fk.op_addt, Fk.op_adds, Fk.tr_bl, Fk.tr_non, Fk.tr_int, Fk.tr_lst, Fk.tr_tup, Fk.va_nil, Fk.va_cons, Fk.pu_nil, Fk.pu_cons, Fk.bi_lenl, Fk.bi_lent, Fk.bi_lenr, Fk.bi_lenp, Fk.ek_lenr, Fk.bi_int, Fk.bi_min, Fk.bi_max, Fk.bi_listl, Fk.bi_listt, Fk.bi_tupl, Fk.bi_tupt, Fk.bi_tupp, Fk.ek_tupr, Fk.bi_lisp, Fk.ek_lisr, Fk.bi_str, Fk.new_f, Fk.new_t, Fk.newK_f, Fk.ix_t, Fk.ix_l, Fk.ix_r, Fk.ix_p, Fk.ek_ixr, Fk.at_0, Fk.at_1, Fk.at_2, Fk.set_l, Fk.ek_st, Fk.ek_st2, Fk.ixN_0, Fk.ixN_1, Fk.ixN_2, Fk.me_app, Fk.ek_app, Fk.ty_app, Fk.ek_tyl, Fk.me_joinl, Fk.ek_join, Fk.ty_join, Fk.it_seql, Fk.it_seqt, Fk.it_seqr, Fk.it_rngn, Fk.it_rng, Fk.it_rng2, Fk.it_rev, Fk.it_revt, Fk.it_ziptl, Fk.it_zipll, Fk.it_ziptt, Fk.lk_p, Fk.sl_t, Fk.sl_l, Fk.cut_to, Fk.cut_from1, Fk.cut_1, Fk.cut_from, Fk.hl_get, Fk.hl_set, Fk.op_eqL, Fk.op_neL, Fk.op_eqT, Fk.op_neT, tyP, R.bind_ok, R.bind_ex, R.st_ok, R.st_ex, RS2.seq_nx, RS2.seq_rt, RS2.seq_ex, RS2.seq_bk, RS2.seq_ct, List.set_cons_zero, List.set_cons_succ, List.getElem?_cons_zero, List.getElem?_cons_succ, Option.map_some, reduceCtorEq, imp_self, implies_true, Bool.not_true, Bool.not_false, decide_true, decide_false, Nat.reduceAdd, Nat.reduceSub, Nat.reduceLT, Nat.reduceLeDiff, Nat.reduceEqDiff, Int.reduceLT, Int.reduceLE, Int.reduceEq, Int.reduceNeg, Int.reduceToNat, Nat.reduceBEq, and_self, true_and, and_true, Nat.reducePow, Int.reducePow, Int.reduceAdd, Int.reduceSub, Int.reduceMul, List.length_cons, List.length_nil, List.cons_append, List.nil_append, List.append_nil, g, hY, c0]
  obtain ⟨t', L', e, st, lf, y, h1, h2, h3, rfl, rfl⟩ := lp
  refine ⟨[.int lf, .int st, .int 0], ⟨lf, st, 0, rfl, h3, h1, h2, Int.le_refl _, by decide⟩, ?_⟩
  have h3' : 3 ≤ sizeLine := by decide
  simp -implicitDefEqProofs only [b1, Fk.ev_var, Fk.ev_lit, Fk.ev_con, Fk.ek_ofO, Fk.ev_op, Fk.ek_op, Fk.ev_neg, Fk.ek_neg, Fk.ev_notv, Fk.ek_not, Fk.ek_not2, Fk.ev_andv, Fk.ek_and, Fk.ek_and1, Fk.ek_and0, Fk.ev_orv, Fk.ek_or, Fk.ek_or1, Fk.ek_or0, Fk.ev_chain, Fk.ek_ch, Fk.ek_ch2, Fk.ek_ch3t, Fk.ek_ch3f, Fk.ev_ite, Fk.ek_ite1, Fk.ek_ite0, Fk.ev_call, Fk.ev_bi, Fk.ek_bi1, Fk.ek_bi2, Fk.ev_me, Fk.ek_me, Fk.ek_meb, Fk.ek_me20, Fk.ek_me21, Fk.ek_me22, Fk.ev_tup, Fk.ek_tup, Fk.ek_tup2, Fk.ev_lst, Fk.ek_lst, Fk.ek_lst2, Fk.ev_trev, Fk.ek_trev, Fk.ev_lrng, Fk.ek_lrng, Fk.ev_hsum, Fk.ek_hsum, Fk.ek_hs2, Fk.ev_dct0, Fk.ev_ix, Fk.ek_ix, Fk.ev_sl, Fk.ek_sl, Fk.ek_sl2, Fk.ek_sl3, Fk.ev_fld, Fk.ek_fld, Fk.ev_isi, Fk.ek_isi, Fk.ek_blR, Fk.ev_exi, Fk.ek_exi, Fk.ev_exf, Fk.ek_exf, Fk.ev_comp, Fk.ek_comp, Fk.ek_comp3, Fk.ev_o0, Fk.ev_o1, Fk.ek_o1, Fk.ev_a0, Fk.ev_a1, Fk.ek_a, Fk.ek_a2, Fk.ev_a2, Fk.ek_exv, Fk.ev_its, Fk.ek_its1, Fk.ek_its2, Fk.ev_tand, Fk.ek_tand1, Fk.ek_tand0, Fk.ev_tor, Fk.ek_tor1, Fk.ek_tor0, Fk.ev_tnot, Fk.ek_tnot, Fk.ev_tval, Fk.ek_tval, Fk.ek_tv2, Fk.ev_tyes, Fk.ev_pass, Fk.ev_seq, Fk.ev_expr, Fk.ek_expr, Fk.ev_asg, Fk.ek_asg, Fk.ev_seti, Fk.ek_set, Fk.ek_set2, Fk.ek_set3, Fk.ek_set4, Fk.ev_ret, Fk.ek_ret, Fk.ev_retn, Fk.ev_if, Fk.ek_if1, Fk.ek_if0, Fk.ev_for, Fk.ek_for, Fk.ev_brk, Fk.ev_cont, Fk.ev_while, Fk.ev_frz, Fk.ek_frz, Fk.ek_frzp, Fk.ek_frz2, Fk.ev_raise, Fk.ek_raise, Fk.ek_raise2, Fk.ek_xp0, Fk.ek_xp1, Fk.ev_try, Fk.ek_try0, Fk.ek_tryx, Fk.ek_try1, Fk.ek_tryf, Fk.ek_endr, Fk.ek_endn, Fk.ek_endb, Fk.ek_endc, Fk.ev_forB, Fk.ev_forB2, Fk.ev_tB, Fk.ek_tB1, Fk.ek_tB0, Fk.ek_tB2, Fk.gv_0, Fk.gv_s, Fk.op_add, Fk.op_sub, Fk.op_mul, Fk.op_fdiv, Fk.op_fdivs, Fk.op_mod, Fk.op_pow, Fk.op_lt, Fk.op_le, Fk.op_gt, Fk.op_ge, Fk.op_eqi, Fk.op_eqb, Fk.op_eqs, Fk.op_nei, Fk.op_neb, Fk.op_nes, Fk.op_addl, Fk.op_addt, Fk.op_adds, Fk.tr_bl, Fk.tr_non, Fk.tr_int, Fk.tr_lst, Fk.tr_tup, Fk.va_nil, Fk.va_cons, Fk.pu_nil, Fk.pu_cons, Fk.bi_lenl, Fk.bi_lent, Fk.bi_lenr, Fk.bi_lenp, Fk.ek_lenr, Fk.bi_int, Fk.bi_min, Fk.bi_max, Fk.bi_listl, Fk.bi_listt, Fk.bi_tupl, Fk.bi_tupt, Fk.bi_tupp, Fk.ek_tupr, Fk.bi_lisp, Fk.ek_lisr, Fk.bi_str, Fk.new_f, Fk.new_t, Fk.newK_f, Fk.ix_t, Fk.ix_l, Fk.ix_r, Fk.ix_p, Fk.ek_ixr, Fk.at_0, Fk.at_1, Fk.at_2, Fk.set_l, Fk.ek_st, Fk.ek_st2, Fk.ixN_0, Fk.ixN_1, Fk.ixN_2, Fk.me_app, Fk.ek_app, Fk.ty_app, Fk.ek_tyl, Fk.me_joinl, Fk.ek_join, Fk.ty_join, Fk.it_seql, Fk.it_seqt, Fk.it_seqr, Fk.it_rngn, Fk.it_rng, Fk.it_rng2, Fk.it_rev, Fk.it_revt, Fk.it_ziptl, Fk.it_zipll, Fk.it_ziptt, Fk.lk_p, Fk.sl_t, Fk.sl_l, Fk.cut_to, Fk.cut_from1, Fk.cut_1, Fk.cut_from, Fk.hl_get, Fk.hl_set, Fk.op_eqL, Fk.op_neL, Fk.op_eqT, Fk.op_neT, tyP, R.bind_ok, R.bind_ex, R.st_ok, R.st_ex, RS2.seq_nx, RS2.seq_rt, RS2.seq_ex, RS2.seq_bk, RS2.seq_ct, List.set_cons_zero, List.set_cons_succ, List.getElem?_cons_zero, List.getElem?_cons_succ, Option.map_some, reduceCtorEq, imp_self, implies_true, Bool.not_true, Bool.not_false, decide_true, decide_false, Nat.reduceAdd, Nat.reduceSub, Nat.reduceLT, Nat.reduceLeDiff, Nat.reduceEqDiff, Int.reduceLT, Int.reduceLE, Int.reduceEq, Int.reduceNeg, Int.reduceToNat, Nat.reduceBEq, and_self, true_and, and_true, Nat.reducePow, Int.reducePow, Int.reduceAdd, Int.reduceSub, Int.reduceMul, List.length_cons, List.length_nil, List.cons_append, List.nil_append, List.append_nil, e, h3']
  rfl
def upto (n : Nat) : List Int := (List.range n).map fun (k : Nat) => (k : Int)
theorem rng_ip (n : Nat) : rangeP 0 n = iP (upto n) := by
  unfold rangeP iP upto
  rw [List.map_map]
  exact List.map_congr_left fun k _ => by show P.int (0 + (k : Int)) = P.int (k : Int); rw [Int.zero_add]
theorem places_loop {n m : Nat} {b : List P} {zs : List Int} (y2 y3 y4 y5 y6 y7 y8 : Sl) (hb : BagOk m b) (hm : m < 2 ^ 58) (hz : Sz zs) (h1 : 1 ≤ zs.length) :
    ∃ b' ks y10, BagOk (m + 2) b' ∧ (∀ k ∈ ks, 0 ≤ k ∧ k < (zs.length : Int)) ∧ forL (forB (run S (n + 1)) (cnOf S) (.gn 10) b21_0) (rangeP 0 2) [.v (.ref 0), .v (.p (.lst (iP zs))), y2, y3, y4, y5, y6, y7, y8, .v (.ref 1), .u] [.lst b, .lst [.int 0, .int ((zs.length : Int) - 1)]] = .ok (.nx [.v (.ref 0), .v (.p (.lst (iP zs))), y2, y3, y4, y5, y6, y7, y8, .v (.ref 1), y10]) [.lst b', .lst (iP ks)] := by
  have hz200 := hz.1
  have li : (iP zs).length = zs.length := by rw [iP, List.length_map]
  have lp := for_all (b := forB (run S (n + 1)) (cnOf S) (.gn 10) b21_0) (xs := rangeP 0 2) (t := [.v (.ref 0), .v (.p (.lst (iP zs))), y2, y3, y4, y5, y6, y7, y8, .v (.ref 1), .u]) (L := [.lst b, .lst [.int 0, .int ((zs.length : Int) - 1)]])
    (fun i t L' => ∃ b' ks y10, BagOk (m + i) b' ∧ (∀ k ∈ ks, 0 ≤ k ∧ k < (zs.length : Int)) ∧ ks.length = i + 2 ∧ L' = [.lst b', .lst (iP ks)] ∧ t = [.v (.ref 0), .v (.p (.lst (iP zs))), y2, y3, y4, y5, y6, y7, y8, .v (.ref 1), y10])
    ⟨b, [0, (zs.length : Int) - 1], _, hb, fun k hk => by
      simp only [List.mem_cons, List.not_mem_nil, or_false] at hk
      rcases hk with rfl | rfl <;> omega, rfl, rfl, rfl⟩
    fun i x t L' hx hJ => by
      obtain ⟨b', ks, y10, hb', hk, hl, rfl, rfl⟩ := hJ
      obtain ⟨rfl, hi⟩ := rng_get hx
      obtain ⟨d, b2, hd0, hd, hb2, e2⟩ := draw_ok (n := n) (T := [.lst (iP ks)]) (s := (zs.length : Int)) hb' (by omega) (by omega) (by omega)
      have al : (iP ks).length < sizeLine := by
        rw [iP, List.length_map, hl]
        exact Nat.lt_of_lt_of_le (show _ < 1000 by omega) (by decide)
      refine ⟨[.v (.ref 0), .v (.p (.lst (iP zs))), y2, y3, y4, y5, y6, y7, y8, .v (.ref 1), .v (.p (.int (i : Int)))], [.lst b2, .lst (iP ks ++ [.int d])], ?_, b2, ks ++ [d], _, hb2.le (by omega), fun k hk' => ?_, by simp [hl], by simp [iP], rfl⟩
      · simp -implicitDefEqProofs only [b21_0, Fk.ev_var, Fk.ev_lit, Fk.ev_con, Fk.ek_ofO, Fk.ev_op, Fk.ek_op, Fk.ev_neg, Fk.ek_neg, Fk.ev_notv, Fk.ek_not, Fk.ek_not2, Fk.ev_andv, Fk.ek_and, Fk.ek_and1, Fk.ek_and0, Fk.ev_orv, Fk.ek_or, Fk.ek_or1, Fk.ek_or0, Fk.ev_chain, Fk.ek_ch, Fk.ek_ch2, Fk.ek_ch3t, Fk.ek_ch3f, Fk.ev_ite, Fk.ek_ite1, Fk.ek_ite0, Fk.ev_call, Fk.ev_bi, Fk.ek_bi1, Fk.ek_bi2, Fk.ev_me, Fk.ek_me, Fk.ek_meb, Fk.ek_me20, Fk.ek_me21, Fk.ek_me22, Fk.ev_tup, Fk.ek_tup, Fk.ek_tup2, Fk.ev_lst, Fk.ek_lst, Fk.ek_lst2, Fk.ev_trev, Fk.ek_trev, Fk.ev_lrng, Fk.ek_lrng, Fk.ev_hsum, Fk.ek_hsum, Fk.ek_hs2, Fk.ev_dct0, Fk.ev_ix, Fk.ek_ix, Fk.ev_sl, Fk.ek_sl, Fk.ek_sl2, Fk.ek_sl3, Fk.ev_fld, Fk.ek_fld, Fk.ev_isi, Fk.ek_isi, Fk.ek_blR, Fk.ev_exi, Fk.ek_exi, Fk.ev_exf, Fk.ek_exf, Fk.ev_comp, Fk.ek_comp, Fk.ek_comp3, Fk.ev_o0, Fk.ev_o1, Fk.ek_o1, Fk.ev_a0, Fk.ev_a1, Fk.ek_a, Fk.ek_a2, Fk.ev_a2, Fk.ek_exv, Fk.ev_its, Fk.ek_its1, Fk.ek_its2, Fk.ev_tand, Fk.ek_tand1, Fk.ek_tand0, Fk.ev_tor, Fk.ek_tor1, Fk.ek_tor0, Fk.ev_tnot, Fk.ek_tnot, Fk.ev_tval, Fk.ek_tval, Fk.ek_tv2, Fk.ev_tyes, Fk.ev_pass, Fk.ev_seq, Fk.ev_expr, Fk.ek_expr, Fk.ev_asg, Fk.ek_asg, Fk.ev_seti, Fk.ek_set, Fk.ek_set2, Fk.ek_set3, Fk.ek_set4, Fk.ev_ret, Fk.ek_ret, Fk.ev_retn, Fk.ev_if, Fk.ek_if1, Fk.ek_if0, Fk.ev_for, Fk.ek_for, Fk.ev_brk, Fk.ev_cont, Fk.ev_while, Fk.ev_frz, Fk.ek_frz, Fk.ek_frzp, Fk.ek_frz2, Fk.ev_raise, Fk.ek_raise, Fk.ek_raise2, Fk.ek_xp0, Fk.ek_xp1, Fk.ev_try, Fk.ek_try0, Fk.ek_tryx, Fk.ek_try1, Fk.ek_tryf, Fk.ek_endr, Fk.ek_endn, Fk.ek_endb, Fk.ek_endc, Fk.ev_forB, Fk.ev_forB2, Fk.ev_tB, Fk.ek_tB1, Fk.ek_tB0, Fk.ek_tB2, Fk.gv_0, Fk.gv_s, Fk.op_add, Fk.op_sub, Fk.op_mul, Fk.op_fdiv, Fk.op_fdivs, Fk.op_mod, Fk.op_pow, Fk.op_lt, Fk.op_le, Fk.op_gt, Fk.op_ge, Fk.op_eqi, Fk.op_eqb, Fk.op_eqs, Fk.op_nei, Fk.op_neb, Fk.op_nes, Fk.op_addl, Fk.op_addt, Fk.op_adds, Fk.tr_bl, Fk.tr_non, Fk.tr_int, Fk.tr_lst, Fk.tr_tup, Fk.va_nil, Fk.va_cons, Fk.pu_nil, Fk.pu_cons, Fk.bi_lenl, Fk.bi_lent, Fk.bi_lenr, Fk.bi_lenp, Fk.ek_lenr, Fk.bi_int, Fk.bi_min, Fk.bi_max, Fk.bi_listl, Fk.bi_listt, Fk.bi_tupl, Fk.bi_tupt, Fk.bi_tupp, Fk.ek_tupr, Fk.bi_lisp, Fk.ek_lisr, Fk.bi_str, Fk.new_f, Fk.new_t, Fk.newK_f, Fk.ix_t, Fk.ix_l, Fk.ix_r, Fk.ix_p, Fk.ek_ixr, Fk.at_0, Fk.at_1, Fk.at_2, Fk.set_l, Fk.ek_st, Fk.ek_st2, Fk.ixN_0, Fk.ixN_1, Fk.ixN_2, Fk.me_app, Fk.ek_app, Fk.ty_app, Fk.ek_tyl, Fk.me_joinl, Fk.ek_join, Fk.ty_join, Fk.it_seql, Fk.it_seqt, Fk.it_seqr, Fk.it_rngn, Fk.it_rng, Fk.it_rng2, Fk.it_rev, Fk.it_revt, Fk.it_ziptl, Fk.it_zipll, Fk.it_ziptt, Fk.lk_p, Fk.sl_t, Fk.sl_l, Fk.cut_to, Fk.cut_from1, Fk.cut_1, Fk.cut_from, Fk.hl_get, Fk.hl_set, Fk.op_eqL, Fk.op_neL, Fk.op_eqT, Fk.op_neT, tyP, R.bind_ok, R.bind_ex, R.st_ok, R.st_ex, RS2.seq_nx, RS2.seq_rt, RS2.seq_ex, RS2.seq_bk, RS2.seq_ct, List.set_cons_zero, List.set_cons_succ, List.getElem?_cons_zero, List.getElem?_cons_succ, Option.map_some, reduceCtorEq, imp_self, implies_true, Bool.not_true, Bool.not_false, decide_true, decide_false, Nat.reduceAdd, Nat.reduceSub, Nat.reduceLT, Nat.reduceLeDiff, Nat.reduceEqDiff, Int.reduceLT, Int.reduceLE, Int.reduceEq, Int.reduceNeg, Int.reduceToNat, Nat.reduceBEq, and_self, true_and, and_true, Nat.reducePow, Int.reducePow, Int.reduceAdd, Int.reduceSub, Int.reduceMul, List.length_cons, List.length_nil, List.cons_append, List.nil_append, List.append_nil, e2, al, li]
      · rcases List.mem_append.mp hk' with h | h
        · exact hk k h
        · rw [List.mem_singleton.mp h]; exact ⟨hd0, hd⟩
  obtain ⟨t', L', e, b', ks, y10, hb', hk, _, rfl, rfl⟩ := lp
  exact ⟨b', ks, y10, hb'.le (by rw [rng_len]; omega), hk, e⟩
theorem long_ok {n m : Nat} {b : List P} {zs : List Int} (hb : BagOk m b) (hm : m < 2 ^ 57) (hz : Sz zs) (h1 : 1 ≤ zs.length) :
    ∃ b', BagOk (m + 806) b' ∧ run S (n + 6) 21 [.v (.ref 0), .v (.p (.lst (iP zs)))] [.lst b] = .ok (.p (.bl true)) [.lst b'] := by
  rw [r21_2]
  have hz200 := hz.1
  obtain ⟨b1, ms, hb1, hv, e1⟩ := marks_ok (n := n + 3) (T := []) hb (by omega) hz tc_nil
  obtain ⟨b2, ns, hb2, hw, e2⟩ := marks_ok (n := n + 3) (T := []) hb1 (by omega) hz tc_nil
  obtain ⟨d, b3, hd0, hd, hb3, e3⟩ := draw_ok (n := n + 4) (T := []) (s := 2) hb2 (by omega) (by decide) (by decide)
  have lm := hv.len
  have ln := hw.len
  have li : (iP zs).length = zs.length := by rw [iP, List.length_map]
  have key : ∃ b4 ns' y4, BagOk (m + 802) b4 ∧ Vs ns' zs ∧ dS (run S (n + 5)) (cnOf S) (.if_ (.tval (.op .eq (.call 3 (.cons (.var 0) (.cons (.lit (.int 2)) .nil))) (.lit (.int 0)))) (.seq (.asg (.gn 4) (.call 3 (.cons (.var 0) (.cons (.bi .len (.cons (.var 1) .nil)) .nil)))) (.seq (.asg (.gn 3) (.op (.add false) (.op (.add false) (.sl false (.var 2) .nil (.cons (.var 4) .nil)) (.tup (.cons (.ix (.var 3) (.var 4)) .nil))) (.sl false (.var 2) (.cons (.op (.add false) (.var 4) (.lit (.int 1))) .nil) .nil))) .pass)) .pass)
      [.v (.ref 0), .v (.p (.lst (iP zs))), .v (.p (.tup (iP ms))), .v (.p (.tup (iP ns))), .u, .u, .u, .u, .u, .u, .u] [.lst b2] = .ok (.nx [.v (.ref 0), .v (.p (.lst (iP zs))), .v (.p (.tup (iP ms))), .v (.p (.tup (iP ns'))), y4, .u, .u, .u, .u, .u, .u]) [.lst b4] := by
    by_cases c0 : d = 0
    · obtain ⟨j, b4, hj0, hj, hb4, e4⟩ := draw_ok (n := n + 4) (T := []) (s := (zs.length : Int)) hb3 (by omega) (by omega) (by omega)
      obtain ⟨j, rfl⟩ := Int.eq_ofNat_of_zero_le hj0
      have hnj : ns[j]? = some ns[j] := List.getElem?_eq_getElem (by omega)
      have hzj : zs[j]? = some zs[j] := List.getElem?_eq_getElem (by omega)
      have ok := (vs_iff.mp hw).2 j _ _ hnj hzj
      have a1 := at_ip hnj
      have hs : Vs (ms.take j ++ ns[j] :: ms.drop (j + 1)) zs := by
        have s1 : ms = ms.take j ++ ms[j] :: ms.drop (j + 1) := by rw [← List.drop_eq_getElem_cons (by omega), List.take_append_drop]
        have s3 : zs = zs.take j ++ zs[j] :: zs.drop (j + 1) := by rw [← List.drop_eq_getElem_cons (by omega), List.take_append_drop]
        generalize ms[j] = a at s1
        generalize zs[j] = z at s3 ok
        generalize ns[j] = c at ok ⊢
        have w := hv
        rw [s1, s3] at w
        obtain ⟨w1, w2, w3, w4⟩ := Vs.split (by simp; omega) w
        have := Vs.app w1 (show Vs (c :: ms.drop (j + 1)) (z :: zs.drop (j + 1)) from ⟨ok.1, ok.2, w4⟩)
        rw [← s3] at this
        exact this
      have h1 : 1 ≤ sizeLine := by decide
      have k1 : (List.take j (iP ms)).length + 1 ≤ sizeLine := Nat.le_trans (show _ ≤ 300 by rw [List.length_take, iP, List.length_map]; omega) (by decide)
      have k2 : (List.take j (iP ms) ++ [P.int ns[j]]).length + (List.drop (j + 1) (iP ms)).length ≤ sizeLine := Nat.le_trans (show _ ≤ 600 by rw [List.length_append, List.length_take, List.length_drop, iP, List.length_map]; simp only [List.length_cons, List.length_nil]; omega) (by decide)
      have ef : List.take j (iP ms) ++ [P.int ns[j]] ++ List.drop (j + 1) (iP ms) = iP (ms.take j ++ ns[j] :: ms.drop (j + 1)) := by simp [iP]
      refine ⟨b4, _, .v (.p (.int (j : Int))), hb4.le (by omega), hs, ?_⟩
      subst c0
      simp -implicitDefEqProofs only [Fk.ev_var, Fk.ev_lit, Fk.ev_con, Fk.ek_ofO, Fk.ev_op, Fk.ek_op, Fk.ev_neg, Fk.ek_neg, Fk.ev_notv, Fk.ek_not, Fk.ek_not2, Fk.ev_andv, Fk.ek_and, Fk.ek_and1, Fk.ek_and0, Fk.ev_orv, Fk.ek_or, Fk.ek_or1, Fk.ek_or0, Fk.ev_chain, Fk.ek_ch, Fk.ek_ch2, Fk.ek_ch3t, Fk.ek_ch3f, Fk.ev_ite, Fk.ek_ite1, Fk.ek_ite0, Fk.ev_call, Fk.ev_bi, Fk.ek_bi1, Fk.ek_bi2, Fk.ev_me, Fk.ek_me, Fk.ek_meb, Fk.ek_me20, Fk.ek_me21, Fk.ek_me22, Fk.ev_tup, Fk.ek_tup, Fk.ek_tup2, Fk.ev_lst, Fk.ek_lst, Fk.ek_lst2, Fk.ev_trev, Fk.ek_trev, Fk.ev_lrng, Fk.ek_lrng, Fk.ev_hsum, Fk.ek_hsum, Fk.ek_hs2, Fk.ev_dct0, Fk.ev_ix, Fk.ek_ix, Fk.ev_sl, Fk.ek_sl, Fk.ek_sl2, Fk.ek_sl3, Fk.ev_fld, Fk.ek_fld, Fk.ev_isi, Fk.ek_isi, Fk.ek_blR, Fk.ev_exi, Fk.ek_exi, Fk.ev_exf, Fk.ek_exf, Fk.ev_comp, Fk.ek_comp, Fk.ek_comp3, Fk.ev_o0, Fk.ev_o1, Fk.ek_o1, Fk.ev_a0, Fk.ev_a1, Fk.ek_a, Fk.ek_a2, Fk.ev_a2, Fk.ek_exv, Fk.ev_its, Fk.ek_its1, Fk.ek_its2, Fk.ev_tand, Fk.ek_tand1, Fk.ek_tand0, Fk.ev_tor, Fk.ek_tor1, Fk.ek_tor0, Fk.ev_tnot, Fk.ek_tnot, Fk.ev_tval, Fk.ek_tval, Fk.ek_tv2, Fk.ev_tyes, Fk.ev_pass, Fk.ev_seq, Fk.ev_expr, Fk.ek_expr, Fk.ev_asg, Fk.ek_asg, Fk.ev_seti, Fk.ek_set, Fk.ek_set2, Fk.ek_set3, Fk.ek_set4, Fk.ev_ret, Fk.ek_ret, Fk.ev_retn, Fk.ev_if, Fk.ek_if1, Fk.ek_if0, Fk.ev_for, Fk.ek_for, Fk.ev_brk, Fk.ev_cont, Fk.ev_while, Fk.ev_frz, Fk.ek_frz, Fk.ek_frzp, Fk.ek_frz2, Fk.ev_raise, Fk.ek_raise, Fk.ek_raise2, Fk.ek_xp0, Fk.ek_xp1, Fk.ev_try, Fk.ek_try0, Fk.ek_tryx, Fk.ek_try1, Fk.ek_tryf, Fk.ek_endr, Fk.ek_endn, Fk.ek_endb, Fk.ek_endc, Fk.ev_forB, Fk.ev_forB2, Fk.ev_tB, Fk.ek_tB1, Fk.ek_tB0, Fk.ek_tB2, Fk.gv_0, Fk.gv_s, Fk.op_add, Fk.op_sub, Fk.op_mul, Fk.op_fdiv, Fk.op_fdivs, Fk.op_mod, Fk.op_pow, Fk.op_lt, Fk.op_le, Fk.op_gt, Fk.op_ge, Fk.op_eqi, Fk.op_eqb, Fk.op_eqs, Fk.op_nei, Fk.op_neb, Fk.op_nes, Fk.op_addl, Fk.op_addt, Fk.op_adds, Fk.tr_bl, Fk.tr_non, Fk.tr_int, Fk.tr_lst, Fk.tr_tup, Fk.va_nil, Fk.va_cons, Fk.pu_nil, Fk.pu_cons, Fk.bi_lenl, Fk.bi_lent, Fk.bi_lenr, Fk.bi_lenp, Fk.ek_lenr, Fk.bi_int, Fk.bi_min, Fk.bi_max, Fk.bi_listl, Fk.bi_listt, Fk.bi_tupl, Fk.bi_tupt, Fk.bi_tupp, Fk.ek_tupr, Fk.bi_lisp, Fk.ek_lisr, Fk.bi_str, Fk.new_f, Fk.new_t, Fk.newK_f, Fk.ix_t, Fk.ix_l, Fk.ix_r, Fk.ix_p, Fk.ek_ixr, Fk.at_0, Fk.at_1, Fk.at_2, Fk.set_l, Fk.ek_st, Fk.ek_st2, Fk.ixN_0, Fk.ixN_1, Fk.ixN_2, Fk.me_app, Fk.ek_app, Fk.ty_app, Fk.ek_tyl, Fk.me_joinl, Fk.ek_join, Fk.ty_join, Fk.it_seql, Fk.it_seqt, Fk.it_seqr, Fk.it_rngn, Fk.it_rng, Fk.it_rng2, Fk.it_rev, Fk.it_revt, Fk.it_ziptl, Fk.it_zipll, Fk.it_ziptt, Fk.lk_p, Fk.sl_t, Fk.sl_l, Fk.cut_to, Fk.cut_from1, Fk.cut_1, Fk.cut_from, Fk.hl_get, Fk.hl_set, Fk.op_eqL, Fk.op_neL, Fk.op_eqT, Fk.op_neT, tyP, R.bind_ok, R.bind_ex, R.st_ok, R.st_ex, RS2.seq_nx, RS2.seq_rt, RS2.seq_ex, RS2.seq_bk, RS2.seq_ct, List.set_cons_zero, List.set_cons_succ, List.getElem?_cons_zero, List.getElem?_cons_succ, Option.map_some, reduceCtorEq, imp_self, implies_true, Bool.not_true, Bool.not_false, decide_true, decide_false, Nat.reduceAdd, Nat.reduceSub, Nat.reduceLT, Nat.reduceLeDiff, Nat.reduceEqDiff, Int.reduceLT, Int.reduceLE, Int.reduceEq, Int.reduceNeg, Int.reduceToNat, Nat.reduceBEq, and_self, true_and, and_true, Nat.reducePow, Int.reducePow, Int.reduceAdd, Int.reduceSub, Int.reduceMul, List.length_cons, List.length_nil, List.cons_append, List.nil_append, List.append_nil, e3, e4, a1, h1, k1, k2, li, ef]
    · refine ⟨b3, ns, .u, hb3.le (by omega), hw, ?_⟩
      simp -implicitDefEqProofs only [Fk.ev_var, Fk.ev_lit, Fk.ev_con, Fk.ek_ofO, Fk.ev_op, Fk.ek_op, Fk.ev_neg, Fk.ek_neg, Fk.ev_notv, Fk.ek_not, Fk.ek_not2, Fk.ev_andv, Fk.ek_and, Fk.ek_and1, Fk.ek_and0, Fk.ev_orv, Fk.ek_or, Fk.ek_or1, Fk.ek_or0, Fk.ev_chain, Fk.ek_ch, Fk.ek_ch2, Fk.ek_ch3t, Fk.ek_ch3f, Fk.ev_ite, Fk.ek_ite1, Fk.ek_ite0, Fk.ev_call, Fk.ev_bi, Fk.ek_bi1, Fk.ek_bi2, Fk.ev_me, Fk.ek_me, Fk.ek_meb, Fk.ek_me20, Fk.ek_me21, Fk.ek_me22, Fk.ev_tup, Fk.ek_tup, Fk.ek_tup2, Fk.ev_lst, Fk.ek_lst, Fk.ek_lst2, Fk.ev_trev, Fk.ek_trev, Fk.ev_lrng, Fk.ek_lrng, Fk.ev_hsum, Fk.ek_hsum, Fk.ek_hs2, Fk.ev_dct0, Fk.ev_ix, Fk.ek_ix, Fk.ev_sl, Fk.ek_sl, Fk.ek_sl2, Fk.ek_sl3, Fk.ev_fld, Fk.ek_fld, Fk.ev_isi, Fk.ek_isi, Fk.ek_blR, Fk.ev_exi, Fk.ek_exi, Fk.ev_exf, Fk.ek_exf, Fk.ev_comp, Fk.ek_comp, Fk.ek_comp3, Fk.ev_o0, Fk.ev_o1, Fk.ek_o1, Fk.ev_a0, Fk.ev_a1, Fk.ek_a, Fk.ek_a2, Fk.ev_a2, Fk.ek_exv, Fk.ev_its, Fk.ek_its1, Fk.ek_its2, Fk.ev_tand, Fk.ek_tand1, Fk.ek_tand0, Fk.ev_tor, Fk.ek_tor1, Fk.ek_tor0, Fk.ev_tnot, Fk.ek_tnot, Fk.ev_tval, Fk.ek_tval, Fk.ek_tv2, Fk.ev_tyes, Fk.ev_pass, Fk.ev_seq, Fk.ev_expr, Fk.ek_expr, Fk.ev_asg, Fk.ek_asg, Fk.ev_seti, Fk.ek_set, Fk.ek_set2, Fk.ek_set3, Fk.ek_set4, Fk.ev_ret, Fk.ek_ret, Fk.ev_retn, Fk.ev_if, Fk.ek_if1, Fk.ek_if0, Fk.ev_for, Fk.ek_for, Fk.ev_brk, Fk.ev_cont, Fk.ev_while, Fk.ev_frz, Fk.ek_frz, Fk.ek_frzp, Fk.ek_frz2, Fk.ev_raise, Fk.ek_raise, Fk.ek_raise2, Fk.ek_xp0, Fk.ek_xp1, Fk.ev_try, Fk.ek_try0, Fk.ek_tryx, Fk.ek_try1, Fk.ek_tryf, Fk.ek_endr, Fk.ek_endn, Fk.ek_endb, Fk.ek_endc, Fk.ev_forB, Fk.ev_forB2, Fk.ev_tB, Fk.ek_tB1, Fk.ek_tB0, Fk.ek_tB2, Fk.gv_0, Fk.gv_s, Fk.op_add, Fk.op_sub, Fk.op_mul, Fk.op_fdiv, Fk.op_fdivs, Fk.op_mod, Fk.op_pow, Fk.op_lt, Fk.op_le, Fk.op_gt, Fk.op_ge, Fk.op_eqi, Fk.op_eqb, Fk.op_eqs, Fk.op_nei, Fk.op_neb, Fk.op_nes, Fk.op_addl, Fk.op_addt, Fk.op_adds, Fk.tr_bl, Fk.tr_non, Fk.tr_int, Fk.tr_lst, Fk.tr_tup, Fk.va_nil, Fk.va_cons, Fk.pu_nil, Fk.pu_cons, Fk.bi_lenl, Fk.bi_lent, Fk.bi_lenr, Fk.bi_lenp, Fk.ek_lenr, Fk.bi_int, Fk.bi_min, Fk.bi_max, Fk.bi_listl, Fk.bi_listt, Fk.bi_tupl, Fk.bi_tupt, Fk.bi_tupp, Fk.ek_tupr, Fk.bi_lisp, Fk.ek_lisr, Fk.bi_str, Fk.new_f, Fk.new_t, Fk.newK_f, Fk.ix_t, Fk.ix_l, Fk.ix_r, Fk.ix_p, Fk.ek_ixr, Fk.at_0, Fk.at_1, Fk.at_2, Fk.set_l, Fk.ek_st, Fk.ek_st2, Fk.ixN_0, Fk.ixN_1, Fk.ixN_2, Fk.me_app, Fk.ek_app, Fk.ty_app, Fk.ek_tyl, Fk.me_joinl, Fk.ek_join, Fk.ty_join, Fk.it_seql, Fk.it_seqt, Fk.it_seqr, Fk.it_rngn, Fk.it_rng, Fk.it_rng2, Fk.it_rev, Fk.it_revt, Fk.it_ziptl, Fk.it_zipll, Fk.it_ziptt, Fk.lk_p, Fk.sl_t, Fk.sl_l, Fk.cut_to, Fk.cut_from1, Fk.cut_1, Fk.cut_from, Fk.hl_get, Fk.hl_set, Fk.op_eqL, Fk.op_neL, Fk.op_eqT, Fk.op_neT, tyP, R.bind_ok, R.bind_ex, R.st_ok, R.st_ex, RS2.seq_nx, RS2.seq_rt, RS2.seq_ex, RS2.seq_bk, RS2.seq_ct, List.set_cons_zero, List.set_cons_succ, List.getElem?_cons_zero, List.getElem?_cons_succ, Option.map_some, reduceCtorEq, imp_self, implies_true, Bool.not_true, Bool.not_false, decide_true, decide_false, Nat.reduceAdd, Nat.reduceSub, Nat.reduceLT, Nat.reduceLeDiff, Nat.reduceEqDiff, Int.reduceLT, Int.reduceLE, Int.reduceEq, Int.reduceNeg, Int.reduceToNat, Nat.reduceBEq, and_self, true_and, and_true, Nat.reducePow, Int.reducePow, Int.reduceAdd, Int.reduceSub, Int.reduceMul, List.length_cons, List.length_nil, List.cons_append, List.nil_append, List.append_nil, e3, c0]
  obtain ⟨b4, ns', y4, hb4, hw', ek⟩ := key
  have hL : Clo [.lst b4] := cl_1
  have nm1 := number_ok (n := n + 4) (L := [.lst b4]) hz hv
  have ld1 := leads_ok (n := n + 2) (L := [.lst b4]) hz hv hL
  have pk1 := pack_ok (n := n + 3) (L := [.lst b4]) hz hv
  have nm2 := number_ok (n := n + 4) (L := [.lst b4]) hz hw'
  have ld2 := leads_ok (n := n + 2) (L := [.lst b4]) hz hw' hL
  have pk2 := pack_ok (n := n + 3) (L := [.lst b4]) hz hw'
  have bf1 := before_ok (n := n + 4) (L := [.lst b4]) hz hv hw'
  have bf2 := before_ok (n := n + 4) (L := [.lst b4]) hz hw' hv
  have pr := product_ok (n := n + 4) (L := [.lst b4]) hz
  have h2 : 2 ≤ sizeLine := by decide
  by_cases hnx : val ms zs + 1 < prd zs
  · obtain ⟨row', hs, es⟩ := step_ok (n := n + 4) (least := 0) (row := ms) (most := zs.map (· - 1)) (L := [.lst b4]) (by simpa using lm) (by omega) hL
    obtain ⟨hv', hval⟩ := step_val hs hv hnx
    have ld3 := leads_ok (n := n + 2) (L := [.lst b4]) hz hv' hL
    rw [hval] at ld3
    have c1 : compL (tB (run S (n + 5)) (cnOf S) [.v (.ref 0), .v (.p (.lst (iP zs))), .v (.p (.tup (iP ms))), .v (.p (.tup (iP ns'))), y4, .v (.p (.int (val ms zs))), .v (.p (.int (val ns' zs))), .u, .u, .u, .u] [7] (.gn 7) .tyes (.op .sub (.var 7) (.lit (.int 1)))) 1 (iP zs) [.lst b4, .lst []] = .ok () [.lst b4, .lst (iP (zs.map (· - 1)))] := by
      have := comp_all (turn := tB (run S (n + 5)) (cnOf S) [.v (.ref 0), .v (.p (.lst (iP zs))), .v (.p (.tup (iP ms))), .v (.p (.tup (iP ns'))), y4, .v (.p (.int (val ms zs))), .v (.p (.int (val ns' zs))), .u, .u, .u, .u] [7] (.gn 7) .tyes (.op .sub (.var 7) (.lit (.int 1)))) (L := [.lst b4]) (xs := iP zs) (fun x => match x with | .int i => .int (i - 1) | x => x) (fun x hx acc => by
        obtain ⟨i, _, rfl⟩ := List.mem_map.mp hx
        simp -implicitDefEqProofs only [Fk.ev_var, Fk.ev_lit, Fk.ev_con, Fk.ek_ofO, Fk.ev_op, Fk.ek_op, Fk.ev_neg, Fk.ek_neg, Fk.ev_notv, Fk.ek_not, Fk.ek_not2, Fk.ev_andv, Fk.ek_and, Fk.ek_and1, Fk.ek_and0, Fk.ev_orv, Fk.ek_or, Fk.ek_or1, Fk.ek_or0, Fk.ev_chain, Fk.ek_ch, Fk.ek_ch2, Fk.ek_ch3t, Fk.ek_ch3f, Fk.ev_ite, Fk.ek_ite1, Fk.ek_ite0, Fk.ev_call, Fk.ev_bi, Fk.ek_bi1, Fk.ek_bi2, Fk.ev_me, Fk.ek_me, Fk.ek_meb, Fk.ek_me20, Fk.ek_me21, Fk.ek_me22, Fk.ev_tup, Fk.ek_tup, Fk.ek_tup2, Fk.ev_lst, Fk.ek_lst, Fk.ek_lst2, Fk.ev_trev, Fk.ek_trev, Fk.ev_lrng, Fk.ek_lrng, Fk.ev_hsum, Fk.ek_hsum, Fk.ek_hs2, Fk.ev_dct0, Fk.ev_ix, Fk.ek_ix, Fk.ev_sl, Fk.ek_sl, Fk.ek_sl2, Fk.ek_sl3, Fk.ev_fld, Fk.ek_fld, Fk.ev_isi, Fk.ek_isi, Fk.ek_blR, Fk.ev_exi, Fk.ek_exi, Fk.ev_exf, Fk.ek_exf, Fk.ev_comp, Fk.ek_comp, Fk.ek_comp3, Fk.ev_o0, Fk.ev_o1, Fk.ek_o1, Fk.ev_a0, Fk.ev_a1, Fk.ek_a, Fk.ek_a2, Fk.ev_a2, Fk.ek_exv, Fk.ev_its, Fk.ek_its1, Fk.ek_its2, Fk.ev_tand, Fk.ek_tand1, Fk.ek_tand0, Fk.ev_tor, Fk.ek_tor1, Fk.ek_tor0, Fk.ev_tnot, Fk.ek_tnot, Fk.ev_tval, Fk.ek_tval, Fk.ek_tv2, Fk.ev_tyes, Fk.ev_pass, Fk.ev_seq, Fk.ev_expr, Fk.ek_expr, Fk.ev_asg, Fk.ek_asg, Fk.ev_seti, Fk.ek_set, Fk.ek_set2, Fk.ek_set3, Fk.ek_set4, Fk.ev_ret, Fk.ek_ret, Fk.ev_retn, Fk.ev_if, Fk.ek_if1, Fk.ek_if0, Fk.ev_for, Fk.ek_for, Fk.ev_brk, Fk.ev_cont, Fk.ev_while, Fk.ev_frz, Fk.ek_frz, Fk.ek_frzp, Fk.ek_frz2, Fk.ev_raise, Fk.ek_raise, Fk.ek_raise2, Fk.ek_xp0, Fk.ek_xp1, Fk.ev_try, Fk.ek_try0, Fk.ek_tryx, Fk.ek_try1, Fk.ek_tryf, Fk.ek_endr, Fk.ek_endn, Fk.ek_endb, Fk.ek_endc, Fk.ev_forB, Fk.ev_forB2, Fk.ev_tB, Fk.ek_tB1, Fk.ek_tB0, Fk.ek_tB2, Fk.gv_0, Fk.gv_s, Fk.op_add, Fk.op_sub, Fk.op_mul, Fk.op_fdiv, Fk.op_fdivs, Fk.op_mod, Fk.op_pow, Fk.op_lt, Fk.op_le, Fk.op_gt, Fk.op_ge, Fk.op_eqi, Fk.op_eqb, Fk.op_eqs, Fk.op_nei, Fk.op_neb, Fk.op_nes, Fk.op_addl, Fk.op_addt, Fk.op_adds, Fk.tr_bl, Fk.tr_non, Fk.tr_int, Fk.tr_lst, Fk.tr_tup, Fk.va_nil, Fk.va_cons, Fk.pu_nil, Fk.pu_cons, Fk.bi_lenl, Fk.bi_lent, Fk.bi_lenr, Fk.bi_lenp, Fk.ek_lenr, Fk.bi_int, Fk.bi_min, Fk.bi_max, Fk.bi_listl, Fk.bi_listt, Fk.bi_tupl, Fk.bi_tupt, Fk.bi_tupp, Fk.ek_tupr, Fk.bi_lisp, Fk.ek_lisr, Fk.bi_str, Fk.new_f, Fk.new_t, Fk.newK_f, Fk.ix_t, Fk.ix_l, Fk.ix_r, Fk.ix_p, Fk.ek_ixr, Fk.at_0, Fk.at_1, Fk.at_2, Fk.set_l, Fk.ek_st, Fk.ek_st2, Fk.ixN_0, Fk.ixN_1, Fk.ixN_2, Fk.me_app, Fk.ek_app, Fk.ty_app, Fk.ek_tyl, Fk.me_joinl, Fk.ek_join, Fk.ty_join, Fk.it_seql, Fk.it_seqt, Fk.it_seqr, Fk.it_rngn, Fk.it_rng, Fk.it_rng2, Fk.it_rev, Fk.it_revt, Fk.it_ziptl, Fk.it_zipll, Fk.it_ziptt, Fk.lk_p, Fk.sl_t, Fk.sl_l, Fk.cut_to, Fk.cut_from1, Fk.cut_1, Fk.cut_from, Fk.hl_get, Fk.hl_set, Fk.op_eqL, Fk.op_neL, Fk.op_eqT, Fk.op_neT, tyP, R.bind_ok, R.bind_ex, R.st_ok, R.st_ex, RS2.seq_nx, RS2.seq_rt, RS2.seq_ex, RS2.seq_bk, RS2.seq_ct, List.set_cons_zero, List.set_cons_succ, List.getElem?_cons_zero, List.getElem?_cons_succ, Option.map_some, reduceCtorEq, imp_self, implies_true, Bool.not_true, Bool.not_false, decide_true, decide_false, Nat.reduceAdd, Nat.reduceSub, Nat.reduceLT, Nat.reduceLeDiff, Nat.reduceEqDiff, Int.reduceLT, Int.reduceLE, Int.reduceEq, Int.reduceNeg, Int.reduceToNat, Nat.reduceBEq, and_self, true_and, and_true, Nat.reducePow, Int.reducePow, Int.reduceAdd, Int.reduceSub, Int.reduceMul, List.length_cons, List.length_nil, List.cons_append, List.nil_append, List.append_nil, wipeS]) (by rw [li]; exact Nat.le_trans hz200 (by decide))
      rw [show ((iP zs).map fun x => match x with | .int i => P.int (i - 1) | x => x) = iP (zs.map (· - 1)) by simp [iP]] at this
      exact this
    have ce : compEnd false 1 [.lst b4, .lst (iP (zs.map (· - 1)))] = .ok (.p (.lst (iP (zs.map (· - 1))))) [.lst b4] := comp_end (L := [.lst b4]) hL
    obtain ⟨b5, ks, y10, hb5, hk, el⟩ := places_loop (n := n + 4) (.v (.p (.tup (iP ms)))) (.v (.p (.tup (iP ns')))) y4 (.v (.p (.int (val ms zs)))) (.v (.p (.int (val ns' zs)))) .u (.v (.p (.tup (iP row')))) hb4 (by omega) hz h1
    obtain ⟨b6, hb6, e6⟩ := bent_ok (n := n) (T := [.dead]) hb5 (by omega) hz hv hk (tc_dead tc_nil)
    refine ⟨b6, hb6.le (by omega), ?_⟩
    simp -implicitDefEqProofs only [b21, Fk.ev_var, Fk.ev_lit, Fk.ev_con, Fk.ek_ofO, Fk.ev_op, Fk.ek_op, Fk.ev_neg, Fk.ek_neg, Fk.ev_notv, Fk.ek_not, Fk.ek_not2, Fk.ev_andv, Fk.ek_and, Fk.ek_and1, Fk.ek_and0, Fk.ev_orv, Fk.ek_or, Fk.ek_or1, Fk.ek_or0, Fk.ev_chain, Fk.ek_ch, Fk.ek_ch2, Fk.ek_ch3t, Fk.ek_ch3f, Fk.ev_ite, Fk.ek_ite1, Fk.ek_ite0, Fk.ev_call, Fk.ev_bi, Fk.ek_bi1, Fk.ek_bi2, Fk.ev_me, Fk.ek_me, Fk.ek_meb, Fk.ek_me20, Fk.ek_me21, Fk.ek_me22, Fk.ev_tup, Fk.ek_tup, Fk.ek_tup2, Fk.ev_lst, Fk.ek_lst, Fk.ek_lst2, Fk.ev_trev, Fk.ek_trev, Fk.ev_lrng, Fk.ek_lrng, Fk.ev_hsum, Fk.ek_hsum, Fk.ek_hs2, Fk.ev_dct0, Fk.ev_ix, Fk.ek_ix, Fk.ev_sl, Fk.ek_sl, Fk.ek_sl2, Fk.ek_sl3, Fk.ev_fld, Fk.ek_fld, Fk.ev_isi, Fk.ek_isi, Fk.ek_blR, Fk.ev_exi, Fk.ek_exi, Fk.ev_exf, Fk.ek_exf, Fk.ev_comp, Fk.ek_comp, Fk.ek_comp3, Fk.ev_o0, Fk.ev_o1, Fk.ek_o1, Fk.ev_a0, Fk.ev_a1, Fk.ek_a, Fk.ek_a2, Fk.ev_a2, Fk.ek_exv, Fk.ev_its, Fk.ek_its1, Fk.ek_its2, Fk.ev_tand, Fk.ek_tand1, Fk.ek_tand0, Fk.ev_tor, Fk.ek_tor1, Fk.ek_tor0, Fk.ev_tnot, Fk.ek_tnot, Fk.ev_tval, Fk.ek_tval, Fk.ek_tv2, Fk.ev_tyes, Fk.ev_pass, Fk.ev_seq, Fk.ev_expr, Fk.ek_expr, Fk.ev_asg, Fk.ek_asg, Fk.ev_seti, Fk.ek_set, Fk.ek_set2, Fk.ek_set3, Fk.ek_set4, Fk.ev_ret, Fk.ek_ret, Fk.ev_retn, Fk.ek_if1, Fk.ek_if0, Fk.ev_for, Fk.ek_for, Fk.ev_brk, Fk.ev_cont, Fk.ev_while, Fk.ev_frz, Fk.ek_frz, Fk.ek_frzp, Fk.ek_frz2, Fk.ev_raise, Fk.ek_raise, Fk.ek_raise2, Fk.ek_xp0, Fk.ek_xp1, Fk.ev_try, Fk.ek_try0, Fk.ek_tryx, Fk.ek_try1, Fk.ek_tryf, Fk.ek_endr, Fk.ek_endn, Fk.ek_endb, Fk.ek_endc, Fk.ev_forB, Fk.ev_forB2, Fk.ev_tB, Fk.ek_tB1, Fk.ek_tB0, Fk.ek_tB2, Fk.gv_0, Fk.gv_s, Fk.op_add, Fk.op_sub, Fk.op_mul, Fk.op_fdiv, Fk.op_fdivs, Fk.op_mod, Fk.op_pow, Fk.op_lt, Fk.op_le, Fk.op_gt, Fk.op_ge, Fk.op_eqi, Fk.op_eqb, Fk.op_eqs, Fk.op_nei, Fk.op_neb, Fk.op_nes, Fk.op_addl, Fk.op_addt, Fk.op_adds, Fk.tr_bl, Fk.tr_non, Fk.tr_int, Fk.tr_lst, Fk.tr_tup, Fk.va_nil, Fk.va_cons, Fk.pu_nil, Fk.pu_cons, Fk.bi_lenl, Fk.bi_lent, Fk.bi_lenr, Fk.bi_lenp, Fk.ek_lenr, Fk.bi_int, Fk.bi_min, Fk.bi_max, Fk.bi_listl, Fk.bi_listt, Fk.bi_tupl, Fk.bi_tupt, Fk.bi_tupp, Fk.ek_tupr, Fk.bi_lisp, Fk.ek_lisr, Fk.bi_str, Fk.new_f, Fk.new_t, Fk.newK_f, Fk.ix_t, Fk.ix_l, Fk.ix_r, Fk.ix_p, Fk.ek_ixr, Fk.at_0, Fk.at_1, Fk.at_2, Fk.set_l, Fk.ek_st, Fk.ek_st2, Fk.ixN_0, Fk.ixN_1, Fk.ixN_2, Fk.me_app, Fk.ek_app, Fk.ty_app, Fk.ek_tyl, Fk.me_joinl, Fk.ek_join, Fk.ty_join, Fk.it_seql, Fk.it_seqt, Fk.it_seqr, Fk.it_rngn, Fk.it_rng, Fk.it_rng2, Fk.it_rev, Fk.it_revt, Fk.it_ziptl, Fk.it_zipll, Fk.it_ziptt, Fk.lk_p, Fk.sl_t, Fk.sl_l, Fk.cut_to, Fk.cut_from1, Fk.cut_1, Fk.cut_from, Fk.hl_get, Fk.hl_set, Fk.op_eqL, Fk.op_neL, Fk.op_eqT, Fk.op_neT, tyP, R.bind_ok, R.bind_ex, R.st_ok, R.st_ex, RS2.seq_nx, RS2.seq_rt, RS2.seq_ex, RS2.seq_bk, RS2.seq_ct, List.set_cons_zero, List.set_cons_succ, List.getElem?_cons_zero, List.getElem?_cons_succ, Option.map_some, reduceCtorEq, imp_self, implies_true, Bool.not_true, Bool.not_false, decide_true, decide_false, Nat.reduceAdd, Nat.reduceSub, Nat.reduceLT, Nat.reduceLeDiff, Nat.reduceEqDiff, Int.reduceLT, Int.reduceLE, Int.reduceEq, Int.reduceNeg, Int.reduceToNat, Nat.reduceBEq, and_self, true_and, and_true, Nat.reducePow, Int.reducePow, Int.reduceAdd, Int.reduceSub, Int.reduceMul, List.length_cons, List.length_nil, List.cons_append, List.nil_append, List.append_nil, e1, e2]
    rw [ek]
    simp -implicitDefEqProofs only [Fk.ev_var, Fk.ev_lit, Fk.ev_con, Fk.ek_ofO, Fk.ev_op, Fk.ek_op, Fk.ev_neg, Fk.ek_neg, Fk.ev_notv, Fk.ek_not, Fk.ek_not2, Fk.ev_andv, Fk.ek_and, Fk.ek_and1, Fk.ek_and0, Fk.ev_orv, Fk.ek_or, Fk.ek_or1, Fk.ek_or0, Fk.ev_chain, Fk.ek_ch, Fk.ek_ch2, Fk.ek_ch3t, Fk.ek_ch3f, Fk.ev_ite, Fk.ek_ite1, Fk.ek_ite0, Fk.ev_call, Fk.ev_bi, Fk.ek_bi1, Fk.ek_bi2, Fk.ev_me, Fk.ek_me, Fk.ek_meb, Fk.ek_me20, Fk.ek_me21, Fk.ek_me22, Fk.ev_tup, Fk.ek_tup, Fk.ek_tup2, Fk.ev_lst, Fk.ek_lst, Fk.ek_lst2, Fk.ev_trev, Fk.ek_trev, Fk.ev_lrng, Fk.ek_lrng, Fk.ev_hsum, Fk.ek_hsum, Fk.ek_hs2, Fk.ev_dct0, Fk.ev_ix, Fk.ek_ix, Fk.ev_sl, Fk.ek_sl, Fk.ek_sl2, Fk.ek_sl3, Fk.ev_fld, Fk.ek_fld, Fk.ev_isi, Fk.ek_isi, Fk.ek_blR, Fk.ev_exi, Fk.ek_exi, Fk.ev_exf, Fk.ek_exf, Fk.ev_comp, Fk.ek_comp, Fk.ek_comp3, Fk.ev_o0, Fk.ev_o1, Fk.ek_o1, Fk.ev_a0, Fk.ev_a1, Fk.ek_a, Fk.ek_a2, Fk.ev_a2, Fk.ek_exv, Fk.ev_its, Fk.ek_its1, Fk.ek_its2, Fk.ev_tand, Fk.ek_tand1, Fk.ek_tand0, Fk.ev_tor, Fk.ek_tor1, Fk.ek_tor0, Fk.ev_tnot, Fk.ek_tnot, Fk.ev_tval, Fk.ek_tval, Fk.ek_tv2, Fk.ev_tyes, Fk.ev_pass, Fk.ev_seq, Fk.ev_expr, Fk.ek_expr, Fk.ev_asg, Fk.ek_asg, Fk.ev_seti, Fk.ek_set, Fk.ek_set2, Fk.ek_set3, Fk.ek_set4, Fk.ev_ret, Fk.ek_ret, Fk.ev_retn, Fk.ev_if, Fk.ek_if1, Fk.ek_if0, Fk.ev_for, Fk.ek_for, Fk.ev_brk, Fk.ev_cont, Fk.ev_while, Fk.ev_frz, Fk.ek_frz, Fk.ek_frzp, Fk.ek_frz2, Fk.ev_raise, Fk.ek_raise, Fk.ek_raise2, Fk.ek_xp0, Fk.ek_xp1, Fk.ev_try, Fk.ek_try0, Fk.ek_tryx, Fk.ek_try1, Fk.ek_tryf, Fk.ek_endr, Fk.ek_endn, Fk.ek_endb, Fk.ek_endc, Fk.ev_forB, Fk.ev_forB2, Fk.ev_tB, Fk.ek_tB1, Fk.ek_tB0, Fk.ek_tB2, Fk.gv_0, Fk.gv_s, Fk.op_add, Fk.op_sub, Fk.op_mul, Fk.op_fdiv, Fk.op_fdivs, Fk.op_mod, Fk.op_pow, Fk.op_lt, Fk.op_le, Fk.op_gt, Fk.op_ge, Fk.op_eqi, Fk.op_eqb, Fk.op_eqs, Fk.op_nei, Fk.op_neb, Fk.op_nes, Fk.op_addl, Fk.op_addt, Fk.op_adds, Fk.tr_bl, Fk.tr_non, Fk.tr_int, Fk.tr_lst, Fk.tr_tup, Fk.va_nil, Fk.va_cons, Fk.pu_nil, Fk.pu_cons, Fk.bi_lenl, Fk.bi_lent, Fk.bi_lenr, Fk.bi_lenp, Fk.ek_lenr, Fk.bi_int, Fk.bi_min, Fk.bi_max, Fk.bi_listl, Fk.bi_listt, Fk.bi_tupl, Fk.bi_tupt, Fk.bi_tupp, Fk.ek_tupr, Fk.bi_lisp, Fk.ek_lisr, Fk.bi_str, Fk.new_f, Fk.new_t, Fk.newK_f, Fk.ix_t, Fk.ix_l, Fk.ix_r, Fk.ix_p, Fk.ek_ixr, Fk.at_0, Fk.at_1, Fk.at_2, Fk.set_l, Fk.ek_st, Fk.ek_st2, Fk.ixN_0, Fk.ixN_1, Fk.ixN_2, Fk.me_app, Fk.ek_app, Fk.ty_app, Fk.ek_tyl, Fk.me_joinl, Fk.ek_join, Fk.ty_join, Fk.it_seql, Fk.it_seqt, Fk.it_seqr, Fk.it_rngn, Fk.it_rng, Fk.it_rng2, Fk.it_rev, Fk.it_revt, Fk.it_ziptl, Fk.it_zipll, Fk.it_ziptt, Fk.lk_p, Fk.sl_t, Fk.sl_l, Fk.cut_to, Fk.cut_from1, Fk.cut_1, Fk.cut_from, Fk.hl_get, Fk.hl_set, Fk.op_eqL, Fk.op_neL, Fk.op_eqT, Fk.op_neT, tyP, R.bind_ok, R.bind_ex, R.st_ok, R.st_ex, RS2.seq_nx, RS2.seq_rt, RS2.seq_ex, RS2.seq_bk, RS2.seq_ct, List.set_cons_zero, List.set_cons_succ, List.getElem?_cons_zero, List.getElem?_cons_succ, Option.map_some, reduceCtorEq, imp_self, implies_true, Bool.not_true, Bool.not_false, decide_true, decide_false, Nat.reduceAdd, Nat.reduceSub, Nat.reduceLT, Nat.reduceLeDiff, Nat.reduceEqDiff, Int.reduceLT, Int.reduceLE, Int.reduceEq, Int.reduceNeg, Int.reduceToNat, Nat.reduceBEq, and_self, true_and, and_true, Nat.reducePow, Int.reducePow, Int.reduceAdd, Int.reduceSub, Int.reduceMul, List.length_cons, List.length_nil, List.cons_append, List.nil_append, List.append_nil, nm1, ld1, pk1, nm2, ld2, pk2, bf1, bf2, pr, hnx, c1, ce, es, ld3, h2, li, el, e6]
    exact en_rtB (T := []) (M := [.dead]) rfl tc_nil
  · obtain ⟨b5, ks, y10, hb5, hk, el⟩ := places_loop (n := n + 4) (.v (.p (.tup (iP ms)))) (.v (.p (.tup (iP ns')))) y4 (.v (.p (.int (val ms zs)))) (.v (.p (.int (val ns' zs)))) .u .u hb4 (by omega) hz h1
    obtain ⟨b6, hb6, e6⟩ := bent_ok (n := n) (T := [.dead]) hb5 (by omega) hz hv hk (tc_dead tc_nil)
    refine ⟨b6, hb6.le (by omega), ?_⟩
    simp -implicitDefEqProofs only [b21, Fk.ev_var, Fk.ev_lit, Fk.ev_con, Fk.ek_ofO, Fk.ev_op, Fk.ek_op, Fk.ev_neg, Fk.ek_neg, Fk.ev_notv, Fk.ek_not, Fk.ek_not2, Fk.ev_andv, Fk.ek_and, Fk.ek_and1, Fk.ek_and0, Fk.ev_orv, Fk.ek_or, Fk.ek_or1, Fk.ek_or0, Fk.ev_chain, Fk.ek_ch, Fk.ek_ch2, Fk.ek_ch3t, Fk.ek_ch3f, Fk.ev_ite, Fk.ek_ite1, Fk.ek_ite0, Fk.ev_call, Fk.ev_bi, Fk.ek_bi1, Fk.ek_bi2, Fk.ev_me, Fk.ek_me, Fk.ek_meb, Fk.ek_me20, Fk.ek_me21, Fk.ek_me22, Fk.ev_tup, Fk.ek_tup, Fk.ek_tup2, Fk.ev_lst, Fk.ek_lst, Fk.ek_lst2, Fk.ev_trev, Fk.ek_trev, Fk.ev_lrng, Fk.ek_lrng, Fk.ev_hsum, Fk.ek_hsum, Fk.ek_hs2, Fk.ev_dct0, Fk.ev_ix, Fk.ek_ix, Fk.ev_sl, Fk.ek_sl, Fk.ek_sl2, Fk.ek_sl3, Fk.ev_fld, Fk.ek_fld, Fk.ev_isi, Fk.ek_isi, Fk.ek_blR, Fk.ev_exi, Fk.ek_exi, Fk.ev_exf, Fk.ek_exf, Fk.ev_comp, Fk.ek_comp, Fk.ek_comp3, Fk.ev_o0, Fk.ev_o1, Fk.ek_o1, Fk.ev_a0, Fk.ev_a1, Fk.ek_a, Fk.ek_a2, Fk.ev_a2, Fk.ek_exv, Fk.ev_its, Fk.ek_its1, Fk.ek_its2, Fk.ev_tand, Fk.ek_tand1, Fk.ek_tand0, Fk.ev_tor, Fk.ek_tor1, Fk.ek_tor0, Fk.ev_tnot, Fk.ek_tnot, Fk.ev_tval, Fk.ek_tval, Fk.ek_tv2, Fk.ev_tyes, Fk.ev_pass, Fk.ev_seq, Fk.ev_expr, Fk.ek_expr, Fk.ev_asg, Fk.ek_asg, Fk.ev_seti, Fk.ek_set, Fk.ek_set2, Fk.ek_set3, Fk.ek_set4, Fk.ev_ret, Fk.ek_ret, Fk.ev_retn, Fk.ek_if1, Fk.ek_if0, Fk.ev_for, Fk.ek_for, Fk.ev_brk, Fk.ev_cont, Fk.ev_while, Fk.ev_frz, Fk.ek_frz, Fk.ek_frzp, Fk.ek_frz2, Fk.ev_raise, Fk.ek_raise, Fk.ek_raise2, Fk.ek_xp0, Fk.ek_xp1, Fk.ev_try, Fk.ek_try0, Fk.ek_tryx, Fk.ek_try1, Fk.ek_tryf, Fk.ek_endr, Fk.ek_endn, Fk.ek_endb, Fk.ek_endc, Fk.ev_forB, Fk.ev_forB2, Fk.ev_tB, Fk.ek_tB1, Fk.ek_tB0, Fk.ek_tB2, Fk.gv_0, Fk.gv_s, Fk.op_add, Fk.op_sub, Fk.op_mul, Fk.op_fdiv, Fk.op_fdivs, Fk.op_mod, Fk.op_pow, Fk.op_lt, Fk.op_le, Fk.op_gt, Fk.op_ge, Fk.op_eqi, Fk.op_eqb, Fk.op_eqs, Fk.op_nei, Fk.op_neb, Fk.op_nes, Fk.op_addl, Fk.op_addt, Fk.op_adds, Fk.tr_bl, Fk.tr_non, Fk.tr_int, Fk.tr_lst, Fk.tr_tup, Fk.va_nil, Fk.va_cons, Fk.pu_nil, Fk.pu_cons, Fk.bi_lenl, Fk.bi_lent, Fk.bi_lenr, Fk.bi_lenp, Fk.ek_lenr, Fk.bi_int, Fk.bi_min, Fk.bi_max, Fk.bi_listl, Fk.bi_listt, Fk.bi_tupl, Fk.bi_tupt, Fk.bi_tupp, Fk.ek_tupr, Fk.bi_lisp, Fk.ek_lisr, Fk.bi_str, Fk.new_f, Fk.new_t, Fk.newK_f, Fk.ix_t, Fk.ix_l, Fk.ix_r, Fk.ix_p, Fk.ek_ixr, Fk.at_0, Fk.at_1, Fk.at_2, Fk.set_l, Fk.ek_st, Fk.ek_st2, Fk.ixN_0, Fk.ixN_1, Fk.ixN_2, Fk.me_app, Fk.ek_app, Fk.ty_app, Fk.ek_tyl, Fk.me_joinl, Fk.ek_join, Fk.ty_join, Fk.it_seql, Fk.it_seqt, Fk.it_seqr, Fk.it_rngn, Fk.it_rng, Fk.it_rng2, Fk.it_rev, Fk.it_revt, Fk.it_ziptl, Fk.it_zipll, Fk.it_ziptt, Fk.lk_p, Fk.sl_t, Fk.sl_l, Fk.cut_to, Fk.cut_from1, Fk.cut_1, Fk.cut_from, Fk.hl_get, Fk.hl_set, Fk.op_eqL, Fk.op_neL, Fk.op_eqT, Fk.op_neT, tyP, R.bind_ok, R.bind_ex, R.st_ok, R.st_ex, RS2.seq_nx, RS2.seq_rt, RS2.seq_ex, RS2.seq_bk, RS2.seq_ct, List.set_cons_zero, List.set_cons_succ, List.getElem?_cons_zero, List.getElem?_cons_succ, Option.map_some, reduceCtorEq, imp_self, implies_true, Bool.not_true, Bool.not_false, decide_true, decide_false, Nat.reduceAdd, Nat.reduceSub, Nat.reduceLT, Nat.reduceLeDiff, Nat.reduceEqDiff, Int.reduceLT, Int.reduceLE, Int.reduceEq, Int.reduceNeg, Int.reduceToNat, Nat.reduceBEq, and_self, true_and, and_true, Nat.reducePow, Int.reducePow, Int.reduceAdd, Int.reduceSub, Int.reduceMul, List.length_cons, List.length_nil, List.cons_append, List.nil_append, List.append_nil, e1, e2]
    rw [ek]
    simp -implicitDefEqProofs only [Fk.ev_var, Fk.ev_lit, Fk.ev_con, Fk.ek_ofO, Fk.ev_op, Fk.ek_op, Fk.ev_neg, Fk.ek_neg, Fk.ev_notv, Fk.ek_not, Fk.ek_not2, Fk.ev_andv, Fk.ek_and, Fk.ek_and1, Fk.ek_and0, Fk.ev_orv, Fk.ek_or, Fk.ek_or1, Fk.ek_or0, Fk.ev_chain, Fk.ek_ch, Fk.ek_ch2, Fk.ek_ch3t, Fk.ek_ch3f, Fk.ev_ite, Fk.ek_ite1, Fk.ek_ite0, Fk.ev_call, Fk.ev_bi, Fk.ek_bi1, Fk.ek_bi2, Fk.ev_me, Fk.ek_me, Fk.ek_meb, Fk.ek_me20, Fk.ek_me21, Fk.ek_me22, Fk.ev_tup, Fk.ek_tup, Fk.ek_tup2, Fk.ev_lst, Fk.ek_lst, Fk.ek_lst2, Fk.ev_trev, Fk.ek_trev, Fk.ev_lrng, Fk.ek_lrng, Fk.ev_hsum, Fk.ek_hsum, Fk.ek_hs2, Fk.ev_dct0, Fk.ev_ix, Fk.ek_ix, Fk.ev_sl, Fk.ek_sl, Fk.ek_sl2, Fk.ek_sl3, Fk.ev_fld, Fk.ek_fld, Fk.ev_isi, Fk.ek_isi, Fk.ek_blR, Fk.ev_exi, Fk.ek_exi, Fk.ev_exf, Fk.ek_exf, Fk.ev_comp, Fk.ek_comp, Fk.ek_comp3, Fk.ev_o0, Fk.ev_o1, Fk.ek_o1, Fk.ev_a0, Fk.ev_a1, Fk.ek_a, Fk.ek_a2, Fk.ev_a2, Fk.ek_exv, Fk.ev_its, Fk.ek_its1, Fk.ek_its2, Fk.ev_tand, Fk.ek_tand1, Fk.ek_tand0, Fk.ev_tor, Fk.ek_tor1, Fk.ek_tor0, Fk.ev_tnot, Fk.ek_tnot, Fk.ev_tval, Fk.ek_tval, Fk.ek_tv2, Fk.ev_tyes, Fk.ev_pass, Fk.ev_seq, Fk.ev_expr, Fk.ek_expr, Fk.ev_asg, Fk.ek_asg, Fk.ev_seti, Fk.ek_set, Fk.ek_set2, Fk.ek_set3, Fk.ek_set4, Fk.ev_ret, Fk.ek_ret, Fk.ev_retn, Fk.ev_if, Fk.ek_if1, Fk.ek_if0, Fk.ev_for, Fk.ek_for, Fk.ev_brk, Fk.ev_cont, Fk.ev_while, Fk.ev_frz, Fk.ek_frz, Fk.ek_frzp, Fk.ek_frz2, Fk.ev_raise, Fk.ek_raise, Fk.ek_raise2, Fk.ek_xp0, Fk.ek_xp1, Fk.ev_try, Fk.ek_try0, Fk.ek_tryx, Fk.ek_try1, Fk.ek_tryf, Fk.ek_endr, Fk.ek_endn, Fk.ek_endb, Fk.ek_endc, Fk.ev_forB, Fk.ev_forB2, Fk.ev_tB, Fk.ek_tB1, Fk.ek_tB0, Fk.ek_tB2, Fk.gv_0, Fk.gv_s, Fk.op_add, Fk.op_sub, Fk.op_mul, Fk.op_fdiv, Fk.op_fdivs, Fk.op_mod, Fk.op_pow, Fk.op_lt, Fk.op_le, Fk.op_gt, Fk.op_ge, Fk.op_eqi, Fk.op_eqb, Fk.op_eqs, Fk.op_nei, Fk.op_neb, Fk.op_nes, Fk.op_addl, Fk.op_addt, Fk.op_adds, Fk.tr_bl, Fk.tr_non, Fk.tr_int, Fk.tr_lst, Fk.tr_tup, Fk.va_nil, Fk.va_cons, Fk.pu_nil, Fk.pu_cons, Fk.bi_lenl, Fk.bi_lent, Fk.bi_lenr, Fk.bi_lenp, Fk.ek_lenr, Fk.bi_int, Fk.bi_min, Fk.bi_max, Fk.bi_listl, Fk.bi_listt, Fk.bi_tupl, Fk.bi_tupt, Fk.bi_tupp, Fk.ek_tupr, Fk.bi_lisp, Fk.ek_lisr, Fk.bi_str, Fk.new_f, Fk.new_t, Fk.newK_f, Fk.ix_t, Fk.ix_l, Fk.ix_r, Fk.ix_p, Fk.ek_ixr, Fk.at_0, Fk.at_1, Fk.at_2, Fk.set_l, Fk.ek_st, Fk.ek_st2, Fk.ixN_0, Fk.ixN_1, Fk.ixN_2, Fk.me_app, Fk.ek_app, Fk.ty_app, Fk.ek_tyl, Fk.me_joinl, Fk.ek_join, Fk.ty_join, Fk.it_seql, Fk.it_seqt, Fk.it_seqr, Fk.it_rngn, Fk.it_rng, Fk.it_rng2, Fk.it_rev, Fk.it_revt, Fk.it_ziptl, Fk.it_zipll, Fk.it_ziptt, Fk.lk_p, Fk.sl_t, Fk.sl_l, Fk.cut_to, Fk.cut_from1, Fk.cut_1, Fk.cut_from, Fk.hl_get, Fk.hl_set, Fk.op_eqL, Fk.op_neL, Fk.op_eqT, Fk.op_neT, tyP, R.bind_ok, R.bind_ex, R.st_ok, R.st_ex, RS2.seq_nx, RS2.seq_rt, RS2.seq_ex, RS2.seq_bk, RS2.seq_ct, List.set_cons_zero, List.set_cons_succ, List.getElem?_cons_zero, List.getElem?_cons_succ, Option.map_some, reduceCtorEq, imp_self, implies_true, Bool.not_true, Bool.not_false, decide_true, decide_false, Nat.reduceAdd, Nat.reduceSub, Nat.reduceLT, Nat.reduceLeDiff, Nat.reduceEqDiff, Int.reduceLT, Int.reduceLE, Int.reduceEq, Int.reduceNeg, Int.reduceToNat, Nat.reduceBEq, and_self, true_and, and_true, Nat.reducePow, Int.reducePow, Int.reduceAdd, Int.reduceSub, Int.reduceMul, List.length_cons, List.length_nil, List.cons_append, List.nil_append, List.append_nil, nm1, ld1, pk1, nm2, ld2, pk2, bf1, bf2, pr, hnx, h2, li, el, e6]
    exact en_rtB (T := []) (M := [.dead]) rfl tc_nil
theorem law_ok {n : Nat} (ns : List Int) : ∃ L, run S (n + 7) 0 [.v (.p (.rol (iP ns)))] [] = .ok (.p (.bl true)) L := by
  rw [r0_1]
  obtain ⟨b0', hb0, e0⟩ := bag_ok (n := n + 5) ns
  obtain ⟨b1, zs, hb1, hl, hz, hp, e1⟩ := sizes_ok (n := n + 4) hb0 (by decide)
  have Hz : Sz zs := ⟨by omega, fun z h => by have := hz z h; omega⟩
  have e2 := counted_ok (n := n + 4) (L := [.lst b1]) Hz
  have e3 := all_states_ok (n := n + 2) (L := [.lst b1]) Hz hp cl_1
  obtain ⟨sh, s1, s2, s3, e4⟩ := shorter_ok (n := n + 5) (L := [.lst b1]) Hz cl_1
  have Hs : Sz sh := ⟨by omega, fun z h => Hz.2 z (s2 z h)⟩
  have Hs2 : Sz (sh.map (· + 2)) := ⟨by rw [List.length_map]; omega, fun z h => by
    obtain ⟨u, hu, rfl⟩ := List.mem_map.mp h
    have := hz u (s2 u hu)
    omega⟩
  have e5 := counted_ok (n := n + 4) (L := [.lst b1]) Hs
  have e6 := all_tuples_ok (n := n + 2) (L := [.lst b1]) Hs s1 Hs2 cl_1
  obtain ⟨b2, ms, hb2, hv, e7⟩ := marks_ok (n := n + 4) (T := []) hb1 (by decide) Hz tc_nil
  obtain ⟨b3, hb3, e8⟩ := bent_ok (n := n + 1) (T := []) (ks := upto zs.length) hb2 (by decide) Hz hv (fun k hk => by
    obtain ⟨u, hu, rfl⟩ := List.mem_map.mp hk
    have := List.mem_range.mp hu
    omega) tc_nil
  obtain ⟨b4, qs, hb4, Hq, q1, q2, e9⟩ := longsizes_ok (n := n + 4) hb3 (by decide)
  have e10 := counted_ok (n := n + 4) (L := [.lst b4]) Hq
  obtain ⟨b5, hb5, e11⟩ := long_ok (n := n) hb4 (by decide) Hq q1
  have li : (iP zs).length = zs.length := by rw [iP, List.length_map]
  have rl : zs.length ≤ 16777216 := by omega
  simp -implicitDefEqProofs only [b0, Fk.ev_var, Fk.ev_lit, Fk.ev_con, Fk.ek_ofO, Fk.ev_op, Fk.ek_op, Fk.ev_neg, Fk.ek_neg, Fk.ev_notv, Fk.ek_not, Fk.ek_not2, Fk.ev_andv, Fk.ek_and, Fk.ek_and1, Fk.ek_and0, Fk.ev_orv, Fk.ek_or, Fk.ek_or1, Fk.ek_or0, Fk.ev_chain, Fk.ek_ch, Fk.ek_ch2, Fk.ek_ch3t, Fk.ek_ch3f, Fk.ev_ite, Fk.ek_ite1, Fk.ek_ite0, Fk.ev_call, Fk.ev_bi, Fk.ek_bi1, Fk.ek_bi2, Fk.ev_me, Fk.ek_me, Fk.ek_meb, Fk.ek_me20, Fk.ek_me21, Fk.ek_me22, Fk.ev_tup, Fk.ek_tup, Fk.ek_tup2, Fk.ev_lst, Fk.ek_lst, Fk.ek_lst2, Fk.ev_trev, Fk.ek_trev, Fk.ev_lrng, Fk.ek_lrng, Fk.ev_hsum, Fk.ek_hsum, Fk.ek_hs2, Fk.ev_dct0, Fk.ev_ix, Fk.ek_ix, Fk.ev_sl, Fk.ek_sl, Fk.ek_sl2, Fk.ek_sl3, Fk.ev_fld, Fk.ek_fld, Fk.ev_isi, Fk.ek_isi, Fk.ek_blR, Fk.ev_exi, Fk.ek_exi, Fk.ev_exf, Fk.ek_exf, Fk.ev_comp, Fk.ek_comp, Fk.ek_comp3, Fk.ev_o0, Fk.ev_o1, Fk.ek_o1, Fk.ev_a0, Fk.ev_a1, Fk.ek_a, Fk.ek_a2, Fk.ev_a2, Fk.ek_exv, Fk.ev_its, Fk.ek_its1, Fk.ek_its2, Fk.ev_tand, Fk.ek_tand1, Fk.ek_tand0, Fk.ev_tor, Fk.ek_tor1, Fk.ek_tor0, Fk.ev_tnot, Fk.ek_tnot, Fk.ev_tval, Fk.ek_tval, Fk.ek_tv2, Fk.ev_tyes, Fk.ev_pass, Fk.ev_seq, Fk.ev_expr, Fk.ek_expr, Fk.ev_asg, Fk.ek_asg, Fk.ev_seti, Fk.ek_set, Fk.ek_set2, Fk.ek_set3, Fk.ek_set4, Fk.ev_ret, Fk.ek_ret, Fk.ev_retn, Fk.ev_if, Fk.ek_if1, Fk.ek_if0, Fk.ev_for, Fk.ek_for, Fk.ev_brk, Fk.ev_cont, Fk.ev_while, Fk.ev_frz, Fk.ek_frz, Fk.ek_frzp, Fk.ek_frz2, Fk.ev_raise, Fk.ek_raise, Fk.ek_raise2, Fk.ek_xp0, Fk.ek_xp1, Fk.ev_try, Fk.ek_try0, Fk.ek_tryx, Fk.ek_try1, Fk.ek_tryf, Fk.ek_endr, Fk.ek_endn, Fk.ek_endb, Fk.ek_endc, Fk.ev_forB, Fk.ev_forB2, Fk.ev_tB, Fk.ek_tB1, Fk.ek_tB0, Fk.ek_tB2, Fk.gv_0, Fk.gv_s, Fk.op_add, Fk.op_sub, Fk.op_mul, Fk.op_fdiv, Fk.op_fdivs, Fk.op_mod, Fk.op_pow, Fk.op_lt, Fk.op_le, Fk.op_gt, Fk.op_ge, Fk.op_eqi, Fk.op_eqb, Fk.op_eqs, Fk.op_nei, Fk.op_neb, Fk.op_nes, Fk.op_addl, Fk.op_addt, Fk.op_adds, Fk.tr_bl, Fk.tr_non, Fk.tr_int, Fk.tr_lst, Fk.tr_tup, Fk.va_nil, Fk.va_cons, Fk.pu_nil, Fk.pu_cons, Fk.bi_lenl, Fk.bi_lent, Fk.bi_lenr, Fk.bi_lenp, Fk.ek_lenr, Fk.bi_int, Fk.bi_min, Fk.bi_max, Fk.bi_listl, Fk.bi_listt, Fk.bi_tupl, Fk.bi_tupt, Fk.bi_tupp, Fk.ek_tupr, Fk.bi_lisp, Fk.ek_lisr, Fk.bi_str, Fk.new_f, Fk.new_t, Fk.newK_f, Fk.ix_t, Fk.ix_l, Fk.ix_r, Fk.ix_p, Fk.ek_ixr, Fk.at_0, Fk.at_1, Fk.at_2, Fk.set_l, Fk.ek_st, Fk.ek_st2, Fk.ixN_0, Fk.ixN_1, Fk.ixN_2, Fk.me_app, Fk.ek_app, Fk.ty_app, Fk.ek_tyl, Fk.me_joinl, Fk.ek_join, Fk.ty_join, Fk.it_seql, Fk.it_seqt, Fk.it_seqr, Fk.it_rngn, Fk.it_rng, Fk.it_rng2, Fk.it_rev, Fk.it_revt, Fk.it_ziptl, Fk.it_zipll, Fk.it_ziptt, Fk.lk_p, Fk.sl_t, Fk.sl_l, Fk.cut_to, Fk.cut_from1, Fk.cut_1, Fk.cut_from, Fk.hl_get, Fk.hl_set, Fk.op_eqL, Fk.op_neL, Fk.op_eqT, Fk.op_neT, tyP, R.bind_ok, R.bind_ex, R.st_ok, R.st_ex, RS2.seq_nx, RS2.seq_rt, RS2.seq_ex, RS2.seq_bk, RS2.seq_ct, List.set_cons_zero, List.set_cons_succ, List.getElem?_cons_zero, List.getElem?_cons_succ, Option.map_some, reduceCtorEq, imp_self, implies_true, Bool.not_true, Bool.not_false, decide_true, decide_false, Nat.reduceAdd, Nat.reduceSub, Nat.reduceLT, Nat.reduceLeDiff, Nat.reduceEqDiff, Int.reduceLT, Int.reduceLE, Int.reduceEq, Int.reduceNeg, Int.reduceToNat, Nat.reduceBEq, and_self, true_and, and_true, Nat.reducePow, Int.reducePow, Int.reduceAdd, Int.reduceSub, Int.reduceMul, List.length_cons, List.length_nil, List.cons_append, List.nil_append, List.append_nil, e0, e1, e2, e3, e4, e5, e6, e7, e8, e9, e10, e11, li, rl, rng_ip]
  exact ⟨_, rfl⟩
end Lw

set_option Elab.async false
set_option linter.all false
set_option autoImplicit false
set_option maxRecDepth 100000
set_option maxHeartbeats 0
namespace Lw
open PySem PySem.Spec PyProof.Rows L2 Fk
theorem c0 : fnB S 1000 f0 d0 = true := by kernel_rfl
theorem c1 : fnB S 1000 f1 d1 = true := by kernel_rfl
theorem c2 : fnB S 1000 f2 d2 = true := by kernel_rfl
theorem c3 : fnB S 1000 f3 d3 = true := by kernel_rfl
theorem c4 : fnB S 1000 f4 d4 = true := by kernel_rfl
theorem c5 : fnB S 1000 f5 d5 = true := by kernel_rfl
theorem c6 : fnB S 1000 f6 d6 = true := by kernel_rfl
theorem c7 : fnB S 1000 f7 d7 = true := by kernel_rfl
theorem c8 : fnB S 1000 f8 d8 = true := by kernel_rfl
theorem c9 : fnB S 1000 f9 d9 = true := by kernel_rfl
theorem c10 : fnB S 1000 f10 d10 = true := by kernel_rfl
theorem c11 : fnB S 1000 f11 d11 = true := by kernel_rfl
theorem c12 : fnB S 1000 f12 d12 = true := by kernel_rfl
theorem c13 : fnB S 1000 f13 d13 = true := by kernel_rfl
theorem c14 : fnB S 1000 f14 d14 = true := by kernel_rfl
theorem c15 : fnB S 1000 f15 d15 = true := by kernel_rfl
theorem c16 : fnB S 1000 f16 d16 = true := by kernel_rfl
theorem c17 : fnB S 1000 f17 d17 = true := by kernel_rfl
theorem c18 : fnB S 1000 f18 d18 = true := by kernel_rfl
theorem c19 : fnB S 1000 f19 d19 = true := by kernel_rfl
theorem c20 : fnB S 1000 f20 d20 = true := by kernel_rfl
theorem c21 : fnB S 1000 f21 d21 = true := by kernel_rfl
theorem c22 : fnB S 1000 f22 d22 = true := by kernel_rfl
theorem c23 : fnB S 1000 f23 d23 = true := by kernel_rfl
theorem c24 : fnB S 1000 f24 d24 = true := by kernel_rfl
theorem c25 : fnB S 1000 f25 d25 = true := by kernel_rfl
theorem c26 : fnB S 1000 f26 d26 = true := by kernel_rfl
theorem c27 : fnB S 1000 f27 d27 = true := by kernel_rfl
theorem c28 : fnB S 1000 f28 d28 = true := by kernel_rfl
theorem fa_eq : faOf S [] = fa := rfl
end Lw
set_option maxRecDepth 100000
set_option maxHeartbeats 0
namespace Lw
open PySem PySem.Spec PyProof.Rows L2 Fk
theorem stc_ok : stcB S 1000 fn = true := by kernel_rfl
end Lw
open PySem PySem.W PySem.Calls PyProof.Rows
theorem PySem.Challenge.cw_forkflags_k01_whole_state_numbers_holds : PySem.Challenge.rw_forkflags_k01_whole_state_numbers.Holds := by
  w_on; o_law
  refine HandSHeadRun.head_any (r := OpenLaw.row PySem.Challenge.rw_forkflags_k01_whole_state_numbers) (q := Lw.qv) (H := Lw.hk) (ob := Lw.ob) (M := 30000) (loose := Lw.nms) (d := HandSHeadRun.topDef (OpenLaw.row PySem.Challenge.rw_forkflags_k01_whole_state_numbers).prog 60) (kwd := []) Lw.ob_eq
    (by kernel_rfl) (fun s => by kernel_rfl) Lw.runH (by kernel_rfl) (by kernel_rfl) (by kernel_rfl) (by rfl) (by first | assumption | decide +kernel) (by decide +kernel) ⟨rfl, rfl, rfl, rfl, rfl, by decide +kernel⟩ ?hw ?hc
  case hw => w_witness2
  case hc =>
    exact Fk.walk_run (S := Lw.S) (nn := 1000) (k := 7) (fl := 0) (fi := Lw.f0) (n := 63) (more := []) (hx := 6) rfl (by decide) rfl ⟨rfl, by decide, by decide⟩ Lw.stc_ok rfl rfl (by kernel_rfl) rfl rfl rfl (fun ns _ _ => Lw.law_ok (n := 0) ns)
