import PyProof.Rows.All
import Wide.All
import KE.KStateDown
import HandS.Head0
import HandS.Head1
import HandS.Head2
import HandS.HeadEnd
import HandS.HeadHook1
import HandS.HeadHook2
import HandS.EndOwn
import HandS.Words
import PySem.Challenge.RW_lastslip_k12_components_and_normal_forms
import HandS.ForMost
import HandS.ForExc
import HandS.IsInst
import HandS.Flow
import HandS.AnyAll
import HandS.StrMore
import HandS.Sort
import HandS.SortKw
import HandS.SetKeys
import HandS.Defaults
import HandS.Deep
import HandS.MakeKw
import KE.SortData
import HandS.SortInts
import HandS.Text
import HandS.Zip
import HandS.Style
import PyProof.Rows.SetFrom
import KE.KOpsOwn
import PyProof.InstNe
import HandS.Set
import HandS.FStr
import HandS.ClsMeth
import HandS.MakeKwOnly
import KE.KCallOwn
import PyProof.ListStr
import HandS.DictComp
import KE.GoesZip
import KE.GoesMore
import HandS.Conv
import HandS.ExcInit
import HandS.Lambda
import KE.KDflt
import HandS.HotCalls
import HandS.ExcField
import KE.KTryMore
import HandS.Codes
import HandS.TryOnly
import PyProof.TwoTypes
import PyProof.StrReplace2
import HandS.RaiseMore
import HandS.TupLe
import HandS.Exc
import PyProof.WalksMore
import PyProof.TupleIter
import KE.GoesEnum
import HandS.TupLen
import HandS.WordsDict
import PyProof.CollectStr
import HandS.Property
import HandS.DictSub
import PyProof.Rows.Range3
import KE.KDictDisplayH
import PyProof.Rows.TupDisplay
import HandS.Dict
import KE.KDictKeyed
import KE.KeyNested
import PyProof.DictMoreH
import HandS.TupSets
import HandS.More
set_option Elab.async false
set_option linter.all false
set_option maxRecDepth 100000
set_option maxHeartbeats 4000000
namespace L2.DL.Hk
open PySem PySem.Spec PyProof.Rows L2
/-- one def -/
structure DefM where
  at_ : PySem.W.Frag → Addr
  name : Str
  qual : Str
  params : Arguments
  body : List Stmt
  scope : Scope
  dfl : List V := []
  kwd : List (Str × V) := []
def fnM (K : PySem.W.Frag) (a : Addr) : He.FnW := match K.lookup a with
  | some ⟨_, _, .func fd, _⟩ => some (fd.name, fd.qualname, fd.params, fd.body, fd.scope, fd.globals, fd.closure, fd.builtins)
  | _ => none
def DefM.val (d : DefM) : He.FnW := some (d.name, d.qual, d.params, .stmts d.body, d.scope, mainGlobals, [], builtinsNs)
def DefM.ok (K : PySem.W.Frag) (d : DefM) : Bool := PySem.W.keepIn K (.ref (d.at_ K)) && (match K.lookup (d.at_ K) with
  | some ⟨_, _, .func fd, _⟩ => PySem.W.codeIn K fd.code d.qual && (He.dflB K fd.defaults d.dfl && He.kwdB K fd.kwdefaults d.kwd)
  | _ => false)
theorem DefM.funD {K : PySem.W.Frag} {d : DefM} (e : fnM K (d.at_ K) = d.val) (c : d.ok K = true) : ∃ fd, FunD K d.name d.qual d.params d.body d.scope d.dfl d.kwd (d.at_ K) fd := by
  obtain ⟨kp, c2⟩ := He.ba c
  unfold fnM at e
  cases q : K.lookup (d.at_ K) with
  | none =>
    rw [q] at c2
    cases c2
  | some o =>
    obtain ⟨oc, od, dt, osl⟩ := o
    rw [q] at c2 e
    cases dt with
    | func fd =>
      obtain ⟨n1, n2, n3, n4, n5, n6, n7, n8, n9, n10, n11, n12, n13, n14, n15⟩ := fd
      have e2 : (some (n1, n2, n3, n4, n5, n6, n7, n15) : He.FnW) = some (d.name, d.qual, d.params, .stmts d.body, d.scope, mainGlobals, [], builtinsNs) := e
      simp only [Option.some.injEq, Prod.mk.injEq] at e2
      obtain ⟨h1, h2, h3, h4, h5, h6, h7, h8⟩ := e2
      subst h1 h2 h3 h4 h5 h6 h7 h8
      have c3 : (PySem.W.codeIn K n13 d.qual && (He.dflB K n8 d.dfl && He.kwdB K n9 d.kwd)) = true := c2
      obtain ⟨k1, k2⟩ := He.ba c3
      obtain ⟨k3, k4⟩ := He.ba k2
      exact ⟨_, ⟨oc, od, n8, n9, n10, n11, n12, n13, n14, osl, rfl, q, k1, He.dflB_ok k3, He.kwdB_ok k4⟩, kp⟩
    | _ => cases c2
def obsM (fb : List (PySem.W.Frag → Bool)) (fn : List DefM) (K : PySem.W.Frag) : He.AlD := ((fb.all fun f => f K) && fn.all fun d => d.ok K, fn.map fun d => fnM K (d.at_ K))
def valM (fn : List DefM) : He.AlD := (true, fn.map DefM.val)
def SaysM (fb : List (PySem.W.Frag → Bool)) (fn : List DefM) (K : PySem.W.Frag) : Prop := obsM fb fn K = valM fn
/-- what an object names; the parts of code are not asked for -/
def refsM (o : Obj) : List Addr := match o.cls with
  | .type "code" => []
  | _ => He.refsD o
/-- all that stands in all, and what the objects at late reach in n steps -/
def goM (g : Addr → Option Obj) : Nat → List Addr → List Addr → List Addr
  | 0, all, late => late ++ all
  | n + 1, all, late => goM g n (late ++ all) (((late.flatMap fun a => match g a with
    | some o => refsM o
    | none => []).filter fun a => !((late ++ all).contains a)).eraseDups)
def asM (g : Addr → Option Obj) (n : Nat) : List Addr := goM g n [cStatics] [mainGlobals]
def obsG (n : Nat) (fb : List (PySem.W.Frag → Bool)) (fn : List DefM) (g : Addr → Option Obj) : He.AlD := obsM fb fn (He.frG g (asM g n))
def hookM (n : Nat) (fb : List (PySem.W.Frag → Bool)) (fn : List DefM) : PySem.W.Hook where
  α := He.AlD
  obs := fun s => obsG n fb fn s.heap.get?
  val := fun _ => valM fn
  says := fun _ h => ∃ K : PySem.W.Frag, K.In h ∧ SaysM fb fn K
  of := fun _ _ e => ⟨_, He.frG_in, e⟩
  keeps := fun _ _ _ ⟨K, hK, c⟩ k => ⟨K, PySem.W.Frag.In.keeps hK k, c⟩
theorem obsG_eq {n : Nat} {fb : List (PySem.W.Frag → Bool)} {fn : List DefM} {g : Addr → Option Obj} {s : Shared} (h : ∀ a, g a = s.heap.get? a) : obsG n fb fn g = (hookM n fb fn).obs s := by
  have e : g = s.heap.get? := funext h
  rw [e] <;> rfl
section
variable {fb : List (PySem.W.Frag → Bool)} {fn : List DefM} {K : PySem.W.Frag}
theorem SaysM.fact (c : SaysM fb fn K) (i : Nat) {f : PySem.W.Frag → Bool} (h : fb[i]? = some f) : f K = true := by
  have c1 := (He.ba (show ((fb.all fun f => f K) && fn.all fun d => d.ok K) = true from congrArg (fun z : He.AlD => z.1) c)).1
  exact List.all_eq_true.mp c1 f (List.mem_of_getElem? h)
theorem SaysM.def_ (c : SaysM fb fn K) (i : Nat) {d : DefM} (h : fn[i]? = some d) : ∃ fd, FunD K d.name d.qual d.params d.body d.scope d.dfl d.kwd (d.at_ K) fd := by
  have c2 := (He.ba (show ((fb.all fun f => f K) && fn.all fun d => d.ok K) = true from congrArg (fun z : He.AlD => z.1) c)).2
  have e : fn.map (fun d => fnM K (d.at_ K)) = fn.map DefM.val := congrArg (fun z : He.AlD => z.2) c
  have e2 : (fn.map fun d => fnM K (d.at_ K))[i]? = (fn.map DefM.val)[i]? := by rw [e]
  rw [List.getElem?_map, List.getElem?_map, h] at e2
  exact DefM.funD (Option.some.inj e2) (List.all_eq_true.mp c2 d (List.mem_of_getElem? h))
end
end L2.DL.Hk
namespace L2.DL.LW
open PySem PySem.Spec PyProof.Rows
def topS (i : Nat) : Stmt := PySem.Challenge.pw_lastslip_k12_components_and_normal_forms.main.body.getD i (.Pass ⟨0, 0, 0, 0⟩)
def bodyC : Stmt → List Stmt
  | .ClassDef _ _ _ b _ _ _ _ _ _ _ => b
  | _ => []
def clsS (i j : Nat) : Stmt := (bodyC (topS i)).getD j (.Pass ⟨0, 0, 0, 0⟩)
abbrev s__law_draws : Stmt := topS 28
abbrev s__law_pull : Stmt := topS 29
abbrev s__law_any : Stmt := topS 30
abbrev s_is_number : Stmt := topS 12
abbrev s_is_word : Stmt := topS 13
abbrev s_is_alphabet : Stmt := topS 14
abbrev s__law_like : Stmt := topS 32
abbrev s__law_alphabet : Stmt := topS 33
abbrev s_is_transition : Stmt := topS 19
abbrev s_Automaton___init__ : Stmt := clsS 20 1
abbrev s_Automaton_check_state : Stmt := clsS 20 3
abbrev s_Automaton_check_letter : Stmt := clsS 20 4
abbrev s_Automaton_moves : Stmt := clsS 20 5
abbrev s_Automaton_targets : Stmt := clsS 20 6
abbrev s_Automaton_transitions : Stmt := clsS 20 7
abbrev s_Automaton___eq__ : Stmt := clsS 20 14
abbrev s_finishing_order : Stmt := topS 22
abbrev s_strong_parts : Stmt := topS 23
abbrev s_safe_edges : Stmt := topS 24
abbrev s_normal : Stmt := topS 26
abbrev s_components : Stmt := topS 25
abbrev s__law_mixed : Stmt := topS 31
abbrev s__law_rows : Stmt := topS 34
abbrev s__law_spec : Stmt := topS 35
abbrev s__law_made : Stmt := topS 36
abbrev s__law_steps : Stmt := topS 37
abbrev s__law_goals : Stmt := topS 38
abbrev s__law_reach : Stmt := topS 39
abbrev s__law_lots : Stmt := topS 40
abbrev s__law_normal : Stmt := topS 41
abbrev s__law_is : Stmt := topS 42
abbrev s_law : Stmt := topS 43
end L2.DL.LW
namespace L2.DL.LW
open PySem PySem.Spec PyProof.Rows
section
namespace Hd
def d0 : Hk.DefM := ⟨fun K => (He.ga K "_law_draws"), "_law_draws", "_law_draws", defArgs s__law_draws, defBody s__law_draws, defScope s__law_draws, [], []⟩
def d1 : Hk.DefM := ⟨fun K => (He.ga K "_law_pull"), "_law_pull", "_law_pull", defArgs s__law_pull, defBody s__law_pull, defScope s__law_pull, [], []⟩
def d2 : Hk.DefM := ⟨fun K => (He.ga K "_law_any"), "_law_any", "_law_any", defArgs s__law_any, defBody s__law_any, defScope s__law_any, [], []⟩
def d3 : Hk.DefM := ⟨fun K => (He.ga K "is_number"), "is_number", "is_number", defArgs s_is_number, defBody s_is_number, defScope s_is_number, [], []⟩
def d4 : Hk.DefM := ⟨fun K => (He.ga K "is_word"), "is_word", "is_word", defArgs s_is_word, defBody s_is_word, defScope s_is_word, [V.int 200], []⟩
def d5 : Hk.DefM := ⟨fun K => (He.ga K "is_alphabet"), "is_alphabet", "is_alphabet", defArgs s_is_alphabet, defBody s_is_alphabet, defScope s_is_alphabet, [], []⟩
def d6 : Hk.DefM := ⟨fun K => (He.ga K "_law_like"), "_law_like", "_law_like", defArgs s__law_like, defBody s__law_like, defScope s__law_like, [], []⟩
def d7 : Hk.DefM := ⟨fun K => (He.ga K "_law_alphabet"), "_law_alphabet", "_law_alphabet", defArgs s__law_alphabet, defBody s__law_alphabet, defScope s__law_alphabet, [], []⟩
def d8 : Hk.DefM := ⟨fun K => (He.ga K "is_transition"), "is_transition", "is_transition", defArgs s_is_transition, defBody s_is_transition, defScope s_is_transition, [], []⟩
def d9 : Hk.DefM := ⟨fun K => (He.ma K (He.ga K "Automaton") "__init__"), "__init__", "Automaton.__init__", defArgs s_Automaton___init__, defBody s_Automaton___init__, defScope s_Automaton___init__, [], [("initial", V.int 0)]⟩
def d10 : Hk.DefM := ⟨fun K => (He.ma K (He.ga K "Automaton") "check_state"), "check_state", "Automaton.check_state", defArgs s_Automaton_check_state, defBody s_Automaton_check_state, defScope s_Automaton_check_state, [], []⟩
def d11 : Hk.DefM := ⟨fun K => (He.ma K (He.ga K "Automaton") "check_letter"), "check_letter", "Automaton.check_letter", defArgs s_Automaton_check_letter, defBody s_Automaton_check_letter, defScope s_Automaton_check_letter, [], []⟩
def d12 : Hk.DefM := ⟨fun K => (He.ma K (He.ga K "Automaton") "moves"), "moves", "Automaton.moves", defArgs s_Automaton_moves, defBody s_Automaton_moves, defScope s_Automaton_moves, [], []⟩
def d13 : Hk.DefM := ⟨fun K => (He.ma K (He.ga K "Automaton") "targets"), "targets", "Automaton.targets", defArgs s_Automaton_targets, defBody s_Automaton_targets, defScope s_Automaton_targets, [V.non], []⟩
def d14 : Hk.DefM := ⟨fun K => (He.ma K (He.ga K "Automaton") "transitions"), "transitions", "Automaton.transitions", defArgs s_Automaton_transitions, defBody s_Automaton_transitions, defScope s_Automaton_transitions, [], []⟩
def d15 : Hk.DefM := ⟨fun K => (He.ma K (He.ga K "Automaton") "__eq__"), "__eq__", "Automaton.__eq__", defArgs s_Automaton___eq__, defBody s_Automaton___eq__, defScope s_Automaton___eq__, [], []⟩
def d16 : Hk.DefM := ⟨fun K => (He.ga K "finishing_order"), "finishing_order", "finishing_order", defArgs s_finishing_order, defBody s_finishing_order, defScope s_finishing_order, [], []⟩
def d17 : Hk.DefM := ⟨fun K => (He.ga K "strong_parts"), "strong_parts", "strong_parts", defArgs s_strong_parts, defBody s_strong_parts, defScope s_strong_parts, [], []⟩
def d18 : Hk.DefM := ⟨fun K => (He.ga K "safe_edges"), "safe_edges", "safe_edges", defArgs s_safe_edges, defBody s_safe_edges, defScope s_safe_edges, [], []⟩
def d19 : Hk.DefM := ⟨fun K => (He.ga K "normal"), "normal", "normal", defArgs s_normal, defBody s_normal, defScope s_normal, [], []⟩
def d20 : Hk.DefM := ⟨fun K => (He.ga K "components"), "components", "components", defArgs s_components, defBody s_components, defScope s_components, [], []⟩
def d21 : Hk.DefM := ⟨fun K => (He.ga K "_law_mixed"), "_law_mixed", "_law_mixed", defArgs s__law_mixed, defBody s__law_mixed, defScope s__law_mixed, [], []⟩
def d22 : Hk.DefM := ⟨fun K => (He.ga K "_law_rows"), "_law_rows", "_law_rows", defArgs s__law_rows, defBody s__law_rows, defScope s__law_rows, [], []⟩
def d23 : Hk.DefM := ⟨fun K => (He.ga K "_law_spec"), "_law_spec", "_law_spec", defArgs s__law_spec, defBody s__law_spec, defScope s__law_spec, [], []⟩
def d24 : Hk.DefM := ⟨fun K => (He.ga K "_law_made"), "_law_made", "_law_made", defArgs s__law_made, defBody s__law_made, defScope s__law_made, [], []⟩
def d25 : Hk.DefM := ⟨fun K => (He.ga K "_law_steps"), "_law_steps", "_law_steps", defArgs s__law_steps, defBody s__law_steps, defScope s__law_steps, [], []⟩
def d26 : Hk.DefM := ⟨fun K => (He.ga K "_law_goals"), "_law_goals", "_law_goals", defArgs s__law_goals, defBody s__law_goals, defScope s__law_goals, [], []⟩
def d27 : Hk.DefM := ⟨fun K => (He.ga K "_law_reach"), "_law_reach", "_law_reach", defArgs s__law_reach, defBody s__law_reach, defScope s__law_reach, [], []⟩
def d28 : Hk.DefM := ⟨fun K => (He.ga K "_law_lots"), "_law_lots", "_law_lots", defArgs s__law_lots, defBody s__law_lots, defScope s__law_lots, [], []⟩
def d29 : Hk.DefM := ⟨fun K => (He.ga K "_law_normal"), "_law_normal", "_law_normal", defArgs s__law_normal, defBody s__law_normal, defScope s__law_normal, [], []⟩
def d30 : Hk.DefM := ⟨fun K => (He.ga K "_law_is"), "_law_is", "_law_is", defArgs s__law_is, defBody s__law_is, defScope s__law_is, [], []⟩
def d31 : Hk.DefM := ⟨fun K => (He.ga K "law"), "law", "law", defArgs s_law, defBody s_law, defScope s_law, [], []⟩
def fn : List Hk.DefM := [d0, d1, d2, d3, d4, d5, d6, d7, d8, d9, d10, d11, d12, d13, d14, d15, d16, d17, d18, d19, d20, d21, d22, d23, d24, d25, d26, d27, d28, d29, d30, d31]
def fb0 : List (PySem.W.Frag → Bool) := [fun K => He.eqO (PySem.W.nsIn K mainGlobals "Automaton") (some (some (.ref (He.ga K "Automaton")))),
  fun K => He.eqO (PySem.W.nsIn K mainGlobals "_law_draws") (some (some (.ref (He.ga K "_law_draws")))),
  fun K => He.eqO (PySem.W.nsIn K mainGlobals "_law_pull") (some (some (.ref (He.ga K "_law_pull")))),
  fun K => He.eqO (PySem.W.nsIn K mainGlobals "_law_any") (some (some (.ref (He.ga K "_law_any")))),
  fun K => He.eqO (PySem.W.nsIn K mainGlobals "is_number") (some (some (.ref (He.ga K "is_number")))),
  fun K => He.eqO (PySem.W.nsIn K mainGlobals "is_word") (some (some (.ref (He.ga K "is_word")))),
  fun K => He.eqO (PySem.W.nsIn K mainGlobals "is_alphabet") (some (some (.ref (He.ga K "is_alphabet")))),
  fun K => He.eqO (PySem.W.nsIn K mainGlobals "_law_like") (some (some (.ref (He.ga K "_law_like")))),
  fun K => He.eqO (PySem.W.nsIn K mainGlobals "_law_alphabet") (some (some (.ref (He.ga K "_law_alphabet")))),
  fun K => He.eqO (PySem.W.nsIn K mainGlobals "is_transition") (some (some (.ref (He.ga K "is_transition")))),
  fun K => He.eqO (PySem.W.findIn K (.ref (He.ga K "Automaton")) "__init__") (some (some (.ref (He.ma K (He.ga K "Automaton") "__init__")))),
  fun K => PySem.W.isFn K (.ref (He.ma K (He.ga K "Automaton") "__init__")),
  fun K => PySem.W.keepIn K (.ref (He.ma K (He.ga K "Automaton") "__init__")),
  fun K => He.eqO (PySem.W.findIn K (.ref (He.ga K "Automaton")) "check_state") (some (some (.ref (He.ma K (He.ga K "Automaton") "check_state")))),
  fun K => PySem.W.isFn K (.ref (He.ma K (He.ga K "Automaton") "check_state")),
  fun K => PySem.W.keepIn K (.ref (He.ma K (He.ga K "Automaton") "check_state")),
  fun K => He.eqO (PySem.W.findIn K (.ref (He.ga K "Automaton")) "check_letter") (some (some (.ref (He.ma K (He.ga K "Automaton") "check_letter")))),
  fun K => PySem.W.isFn K (.ref (He.ma K (He.ga K "Automaton") "check_letter")),
  fun K => PySem.W.keepIn K (.ref (He.ma K (He.ga K "Automaton") "check_letter")),
  fun K => He.eqO (PySem.W.findIn K (.ref (He.ga K "Automaton")) "moves") (some (some (.ref (He.ma K (He.ga K "Automaton") "moves")))),
  fun K => PySem.W.isFn K (.ref (He.ma K (He.ga K "Automaton") "moves")),
  fun K => PySem.W.keepIn K (.ref (He.ma K (He.ga K "Automaton") "moves")),
  fun K => He.eqO (PySem.W.findIn K (.ref (He.ga K "Automaton")) "targets") (some (some (.ref (He.ma K (He.ga K "Automaton") "targets")))),
  fun K => PySem.W.isFn K (.ref (He.ma K (He.ga K "Automaton") "targets")),
  fun K => PySem.W.keepIn K (.ref (He.ma K (He.ga K "Automaton") "targets")),
  fun K => He.eqO (PySem.W.findIn K (.ref (He.ga K "Automaton")) "transitions") (some (some (.ref (He.ma K (He.ga K "Automaton") "transitions")))),
  fun K => PySem.W.isFn K (.ref (He.ma K (He.ga K "Automaton") "transitions")),
  fun K => PySem.W.keepIn K (.ref (He.ma K (He.ga K "Automaton") "transitions")),
  fun K => He.eqO (PySem.W.findIn K (.ref (He.ga K "Automaton")) "__eq__") (some (some (.ref (He.ma K (He.ga K "Automaton") "__eq__")))),
  fun K => PySem.W.isFn K (.ref (He.ma K (He.ga K "Automaton") "__eq__"))]
def fb1 : List (PySem.W.Frag → Bool) := [fun K => PySem.W.keepIn K (.ref (He.ma K (He.ga K "Automaton") "__eq__")),
  fun K => He.eqO (PySem.W.nsIn K mainGlobals "finishing_order") (some (some (.ref (He.ga K "finishing_order")))),
  fun K => He.eqO (PySem.W.nsIn K mainGlobals "strong_parts") (some (some (.ref (He.ga K "strong_parts")))),
  fun K => He.eqO (PySem.W.nsIn K mainGlobals "safe_edges") (some (some (.ref (He.ga K "safe_edges")))),
  fun K => He.eqO (PySem.W.nsIn K mainGlobals "normal") (some (some (.ref (He.ga K "normal")))),
  fun K => He.eqO (PySem.W.nsIn K mainGlobals "components") (some (some (.ref (He.ga K "components")))),
  fun K => He.eqO (PySem.W.nsIn K mainGlobals "_law_mixed") (some (some (.ref (He.ga K "_law_mixed")))),
  fun K => He.eqO (PySem.W.nsIn K mainGlobals "_law_rows") (some (some (.ref (He.ga K "_law_rows")))),
  fun K => He.eqO (PySem.W.nsIn K mainGlobals "_law_spec") (some (some (.ref (He.ga K "_law_spec")))),
  fun K => He.eqO (PySem.W.nsIn K mainGlobals "_law_made") (some (some (.ref (He.ga K "_law_made")))),
  fun K => He.eqO (PySem.W.nsIn K mainGlobals "_law_steps") (some (some (.ref (He.ga K "_law_steps")))),
  fun K => He.eqO (PySem.W.nsIn K mainGlobals "_law_goals") (some (some (.ref (He.ga K "_law_goals")))),
  fun K => He.eqO (PySem.W.nsIn K mainGlobals "_law_reach") (some (some (.ref (He.ga K "_law_reach")))),
  fun K => He.eqO (PySem.W.nsIn K mainGlobals "_law_lots") (some (some (.ref (He.ga K "_law_lots")))),
  fun K => He.eqO (PySem.W.nsIn K mainGlobals "_law_normal") (some (some (.ref (He.ga K "_law_normal")))),
  fun K => He.eqO (PySem.W.nsIn K mainGlobals "_law_is") (some (some (.ref (He.ga K "_law_is")))),
  fun K => He.eqO (PySem.W.nsIn K mainGlobals "law") (some (some (.ref (He.ga K "law")))),
  fun K => PySem.W.plainGet K (He.ga K "Automaton") Str.empty,
  fun K => PySem.W.hasDictIn K (He.ga K "Automaton"),
  fun K => PySem.W.plainOver K (He.ga K "Automaton"),
  fun K => He.eqO (PySem.W.findIn K (.ref (He.ga K "Automaton")) "__setattr__") (some (some (.builtin "object.__setattr__"))),
  fun K => He.eqO (PySem.W.findIn K (.ref (He.ga K "Automaton")) "__class__") (some (some (.builtin "object.__class__"))),
  fun K => He.eqO (PySem.W.specialIn K (.builtin "object.__class__") "__get__") (some (some (.builtin "getset_descriptor.__get__"))),
  fun K => decide (PySem.W.takesIn K (.builtin "object.__class__") = some true),
  fun K => decide (PySem.W.mroIn K (He.ga K "Automaton") (.type "object") = some true),
  fun K => PySem.W.isClsIn K (He.ga K "Automaton"),
  fun K => decide (PySem.W.typeIn K (.ref (He.ga K "Automaton")) = some (.type "type")),
  fun K => decide (PySem.W.subIn K (.type "NoneType") (.ref (He.ga K "Automaton")) = some false),
  fun K => decide (PySem.W.subIn K (.type "bool") (.ref (He.ga K "Automaton")) = some false),
  fun K => decide (PySem.W.subIn K (.type "int") (.ref (He.ga K "Automaton")) = some false)]
def fb2 : List (PySem.W.Frag → Bool) := [fun K => decide (PySem.W.subIn K (.type "str") (.ref (He.ga K "Automaton")) = some false),
  fun K => decide (PySem.W.subIn K (.type "list") (.ref (He.ga K "Automaton")) = some false),
  fun K => decide (PySem.W.subIn K (.type "tuple") (.ref (He.ga K "Automaton")) = some false),
  fun K => PySem.W.makesIn K (He.ga K "Automaton"),
  fun K => PySem.W.keepIn K (.ref (He.ga K "Automaton")),
  fun K => He.eqO (PySem.W.findIn K (.ref (He.ga K "Automaton")) "alphabet") (some none),
  fun K => He.eqO (PySem.W.findIn K (.ref (He.ga K "Automaton")) "size") (some none),
  fun K => He.eqO (PySem.W.findIn K (.ref (He.ga K "Automaton")) "initial") (some none),
  fun K => He.eqO (PySem.W.findIn K (.ref (He.ga K "Automaton")) "own_moves") (some none),
  fun K => He.eqO (PySem.W.findIn K (.ref (He.ga K "Automaton")) "__ne__") (some (some (.builtin "object.__ne__"))),
  fun K => (He.Fa.str "LETTERS" "abcdefghijklmnopqrstuvwxyz").ok K,
  fun K => (He.Fa.int "MOST_LETTERS" 200).ok K,
  fun K => (He.Fa.int "MOST_STATES" 65).ok K,
  fun K => (He.Fa.str "SAFE" "safe").ok K,
  fun K => (He.Fa.str "SLIP" "slip").ok K,
  fun K => He.eqO (PySem.W.nsIn K mainGlobals "all") (some none),
  fun K => He.eqO (PySem.W.nsIn K mainGlobals "bool") (some none),
  fun K => He.eqO (PySem.W.nsIn K mainGlobals "enumerate") (some none),
  fun K => He.eqO (PySem.W.nsIn K mainGlobals "int") (some none),
  fun K => He.eqO (PySem.W.nsIn K mainGlobals "isinstance") (some none),
  fun K => He.eqO (PySem.W.nsIn K mainGlobals "len") (some none),
  fun K => He.eqO (PySem.W.nsIn K mainGlobals "list") (some none),
  fun K => He.eqO (PySem.W.nsIn K mainGlobals "min") (some none),
  fun K => He.eqO (PySem.W.nsIn K mainGlobals "range") (some none),
  fun K => He.eqO (PySem.W.nsIn K mainGlobals "sorted") (some none),
  fun K => He.eqO (PySem.W.nsIn K mainGlobals "str") (some none),
  fun K => He.eqO (PySem.W.nsIn K mainGlobals "tuple") (some none),
  fun K => He.eqO (PySem.W.nsIn K mainGlobals "zip") (some none)]
def fb : List (PySem.W.Frag → Bool) := fb0 ++ fb1 ++ fb2
def nm0 : List PySem.Str := ["_wall", "SlipError", "InvalidAlphabet", "InvalidSize", "InvalidState", "StrangeLetter", "InvalidTransitions", "Incomplete", "is_number", "is_word", "is_alphabet", "is_transition", "Automaton", "finishing_order", "strong_parts", "safe_edges", "components", "normal", "_law_draws", "_law_pull", "_law_any", "_law_mixed", "_law_like", "_law_alphabet", "_law_rows", "_law_spec", "_law_made", "_law_steps", "_law_goals", "_law_reach"]
def nm1 : List PySem.Str := ["_law_lots", "_law_normal", "_law_is", "LETTERS", "MOST_LETTERS", "MOST_STATES", "SAFE", "SLIP"]
def names : List PySem.Str := nm0 ++ nm1
abbrev R : PySem.W.OpenRow := PySem.W.OpenLaw.row PySem.Challenge.rw_lastslip_k12_components_and_normal_forms
abbrev hk : PySem.W.Hook := Hk.hookM 5 fb fn
def ob (s : PySem.W.SharedT) : He.AlD := Hk.obsG 5 fb fn (HandSHeadRun.getT s)
theorem ob_eq (s : PySem.W.SharedT) : ob s = hk.obs s.abs := Hk.obsG_eq (HandSHeadRun.getT_eq s)
theorem run (w : World) : HandSHeadRun.RunEq R (PySem.W.view R.prog [43]) hk ob 14000 names w := by
  intro os
  kernel_rfl
end Hd
end
end L2.DL.LW
namespace L2.DL
open PySem PySem.Spec PyProof.Rows
/-- a text by its codes -/
abbrev S2 (l : List Nat) : Str := ⟨l.toArray⟩
theorem S2_eta (x : Str) : S2 x.cps.toList = x := rfl
inductive D where
  | non
  | bl (b : Bool)
  | int (i : Int)
  | str (s : List Nat)
  | lst (xs : List D)
  | tup (xs : List D)
  | dic (t lk : Bool) (ks vs : List D)
  | ins (C : Addr) (ns : List Str) (vs : List D)
  | raw (v : V)
  | bag
  | clo (i : Nat)
/-- a dict's key as data -/
def kD : Key → D
  | .inl i => .int i
  | .inr x => .str x.cps.toList
abbrev tD (k : List Key) : D := .tup (k.map kD)
/-- what a lambda of the law's def is -/
structure LamN where
  params : Arguments
  body : Expr
  scope : Scope
/-- the bag and its list; the table of code objects that lambdas write; the lambdas, the cells that they take, the def's name -/
structure Bz where
  bag : Option (Addr × Addr)
  tab : Option Addr
  lam : List LamN
  cl : List (Str × Addr)
  q : Str
def isB (z : Bz) (a : Addr) : Prop := (∃ l, z.bag = some (a, l)) ∨ z.tab = some a
def resB (z : Bz) (a : Addr) : Prop := (∃ p q, z.bag = some (p, q) ∧ (a = p ∨ a = q)) ∨ z.tab = some a
theorem isB.res {z : Bz} {a : Addr} (h : isB z a) : resB z a := by
  rcases h with ⟨l, e⟩ | h
  · exact .inl ⟨a, l, e, .inl rfl⟩
  · exact .inr h
/-- a code object of the name q -/
def CodeO (c : Addr) (q : Str) : HO := .ext fun h => ∃ (oc : Obj) (vs : Array Value) (t : Tok), h.get? c = some oc ∧ oc.data = .fields vs ∧ vs[1]? = some (.str q t)
/-- the table at P: each code object that it tells bears the name q -/
def TabS (H : Hp) (P : Addr) (q : Str) : Prop := ∃ ps : Array Value, H P = some (.tbl ps) ∧ TriplesOk ps.toList ∧ ∀ (pos : Pos) (cv : Value), codeAmong pos ps.toList = some cv → ∃ c, cv = .ref c ∧ H c = some (CodeO c q)
abbrev MS := Addr → Prop
/-- all objects but the bag's are kept -/
def Ext (z : Bz) (H H' : Hp) : Prop := ∀ a o, H a = some o → ¬ isB z a → H' a = some o
theorem Ext.refl {z : Bz} {H : Hp} : Ext z H H := fun _ _ e _ => e
theorem Ext.trans {z : Bz} {H H1 H2 : Hp} (a : Ext z H H1) (b : Ext z H1 H2) : Ext z H H2 := fun c o e n => b c o (a c o e n) n
theorem Ext.new {z : Bz} {H : Hp} {p : Addr} {o : HO} (hp : H p = none) : Ext z H (upd H p o) := fun a u e _ => by
  rw [upd_ne (ne_of_none e hp)]; exact e
/-- an address that does not stand in H -/
theorem Ext.upd {z : Bz} {H H1 : Hp} {p : Addr} {o : HO} (h : Ext z H H1) (hp : H p = none) : Ext z H (upd H1 p o) := fun a u e n => by
  rw [upd_ne (ne_of_none e hp)]; exact h a u e n
structure BagAt (H : Hp) (a l : Addr) : Prop where
  ne : a ≠ l
  ex : ∃ (ns : List Int) (at_ big seed cnt : Int), H a = some (.lst [.ref l, .int at_, .int big, .int seed, .int cnt]) ∧ H l = some (.lst (ns.map .int)) ∧ ns.length ≤ 63 ∧ 0 ≤ at_ ∧ 0 ≤ big ∧ 0 ≤ seed ∧ seed < 2147483549 ∧ 0 ≤ cnt
structure BagOk (z : Bz) (H : Hp) : Prop where
  bg : ∀ a l, z.bag = some (a, l) → BagAt H a l
  tb : ∀ P, z.tab = some P → TabS H P (z.q ++ "<lambda>")
  ap : ∀ a l P, z.bag = some (a, l) → z.tab = some P → a ≠ P ∧ l ≠ P
/-- a thing stands there, and it is no tuple -/
def NtO : HO → Prop
  | .tup _ => False
  | .ext φ => ∀ (c : Addr) (q : Str), HO.ext φ ≠ CodeO c q
  | _ => True
def Nt (H : Hp) (a : Addr) : Prop := ∃ o, H a = some o ∧ NtO o
theorem Nt.ne {H : Hp} {a : Addr} (h : Nt H a) : H a ≠ none := by
  obtain ⟨o, e, _⟩ := h
  rw [e]; intro q; cases q
theorem Nt.tup {H : Hp} {a : Addr} {xs : List V} (h : Nt H a) : H a ≠ some (.tup xs) := fun q => by
  obtain ⟨o, e, n⟩ := h
  rw [e] at q
  cases q
  exact n
theorem Nt.code {H : Hp} {a c : Addr} {q : Str} (h : Nt H a) : H a ≠ some (CodeO c q) := fun e' => by
  obtain ⟨o, e, n⟩ := h
  rw [e] at e'
  cases e'
  exact n c q rfl
theorem Nt.upd {H : Hp} {a : Addr} {o : HO} (h : NtO o) : Nt (upd H a o) a := ⟨o, upd_same, h⟩
theorem BagOk.alive {z : Bz} {H : Hp} (h : BagOk z H) {a : Addr} (r : resB z a) : Nt H a := by
  rcases r with ⟨p, q, e, h'⟩ | r
  · obtain ⟨_, ns, at_, big, seed, cnt, e1, e2, _⟩ := h.bg p q e
    rcases h' with rfl | rfl
    · exact ⟨_, e1, trivial⟩
    · exact ⟨_, e2, trivial⟩
  · obtain ⟨ps, e, _⟩ := h.tb a r
    exact ⟨_, e, trivial⟩
/-- a dict that may be walked is locked -/
def LkD : Bool → Hp → Addr → HO → Prop
  | false, H, a, u => H a = some u
  | true, H, a, u => ∃ o, H a = some (.frz o u)
theorem LkD.rd {lk : Bool} {H : Hp} {a : Addr} {u : HO} (h : LkD lk H a u) : Rd H a u := by
  cases lk
  · exact .inl h
  · exact .inr h
/-- the defaults of a lambda: none, or one number -/
def DefV (M : MS) (H : Hp) (dv : Value) : Prop := dv = .none ∨ ∃ (b : Addr) (n : Int), dv = .ref b ∧ H b = some (.tup [.int n]) ∧ ¬ M b
/-- a function that the i-th lambda made stands at a -/
structure CloAt (z : Bz) (M : MS) (H : Hp) (a : Addr) (i : Nat) : Prop where
  ex : ∃ (nd : LamN) (c' : Addr) (dv doc pm ctv : Value), z.lam[i]? = some nd ∧ (dv = .none ↔ nd.params.defaults = []) ∧
    H a = some (.ext fun h => h.get? a = some ({ cls := .type "function", data := .func { name := "<lambda>", qualname := z.q ++ "<lambda>", params := nd.params, body := .expr nd.body, scope := nd.scope, globals := mainGlobals, closure := cloFrom z.cl nd.scope.names [], defaults := dv, kwdefaults := .none, doc := doc, pyModule := pm, annotations := none, code := .ref c', closureTuple := ctv, builtins := builtinsNs } } : Obj)) ∧
    H c' = some (CodeO c' (z.q ++ "<lambda>")) ∧ DefV M H dv ∧ ¬ M a ∧ ¬ M c'
mutual
inductive Rp (z : Bz) (M : MS) (H : Hp) : V → D → Prop
  | non : Rp z M H .non .non
  | bl (b : Bool) : Rp z M H (.bl b) (.bl b)
  | int (i : Int) : Rp z M H (.int i) (.int i)
  | str (x : List Nat) : Rp z M H (.str (S2 x)) (.str x)
  | lst {a : Addr} {xs : List V} {ds : List D} : H a = some (.lst xs) → ¬ M a → RpL z M H xs ds → Rp z M H (.ref a) (.lst ds)
  | tup {a : Addr} {xs : List V} {ds : List D} : H a = some (.tup xs) → ¬ M a → RpL z M H xs ds → Rp z M H (.ref a) (.tup ds)
  | dicK {a : Addr} {kvs : List (Key × V)} {vs : List D} {lk : Bool} : LkD lk H a (.dK kvs) → ¬ M a → RpL z M H (kvs.map fun p => p.2) vs → Rp z M H (.ref a) (.dic false lk (kvs.map fun p => kD p.1) vs)
  | dicT {a : Addr} {kvs : List (List Key × V)} {vs : List D} {lk : Bool} : LkD lk H a (.dT kvs) → ¬ M a → RpL z M H (kvs.map fun p => p.2) vs → Rp z M H (.ref a) (.dic true lk (kvs.map fun p => tD p.1) vs)
  | ins {a C dx : Addr} {fs : List (Str × V)} {ds : List D} : H a = some (.ins C dx fs) → ("" : Str) ∉ (fs.map fun p => p.1) → ¬ M a → RpL z M H (fs.map fun p => p.2) ds → Rp z M H (.ref a) (.ins C (fs.map fun p => p.1) ds)
  | slf {a C dx : Addr} {fs : List (Str × V)} {ds : List D} : H a = some (.ins C dx fs) → ¬ M a → RpL z M H (fs.map fun p => p.2) ds → Rp z M H (.ref a) (.ins C ("" :: fs.map fun p => p.1) (.raw (.ref a) :: ds))
  | raw (v : V) : Rp z M H v (.raw v)
  | bag {a l : Addr} : z.bag = some (a, l) → Rp z M H (.ref a) .bag
  | clo {a : Addr} {i : Nat} : CloAt z M H a i → Rp z M H (.ref a) (.clo i)
inductive RpL (z : Bz) (M : MS) (H : Hp) : List V → List D → Prop
  | nil : RpL z M H [] []
  | cons {v : V} {vs : List V} {d : D} {ds : List D} : Rp z M H v d → RpL z M H vs ds → RpL z M H (v :: vs) (d :: ds)
inductive RpLL (z : Bz) (M : MS) (H : Hp) : List (List V) → List (List D) → Prop
  | nil : RpLL z M H [] []
  | cons {v : List V} {vs : List (List V)} {d : List D} {ds : List (List D)} : RpL z M H v d → RpLL z M H vs ds → RpLL z M H (v :: vs) (d :: ds)
end
def isDic : HO → Bool
  | .dK _ => true
  | .dT _ => true
  | .frz _ u => isDic u
  | _ => false
structure Tr (M : MS) (H : Hp) (M' : MS) (H' : Hp) : Prop where
  ex : ∀ a o, ¬ M a → H a = some o → H' a = some o ∧ ¬ M' a
theorem Tr.of {M M' : MS} {H H' : Hp} (h : ∀ a o, ¬ M a → H a = some o → H' a = some o ∧ ¬ M' a) : Tr M H M' H' := ⟨h⟩
theorem Tr.lk {M M' : MS} {H H' : Hp} (t : Tr M H M' H') {a : Addr} {lk : Bool} {u : HO} (n : ¬ M a) (h : LkD lk H a u) : LkD lk H' a u ∧ ¬ M' a := by
  cases lk
  · exact t.ex a _ n h
  · obtain ⟨o, e⟩ := h
    exact ⟨⟨o, (t.ex a _ n e).1⟩, (t.ex a _ n e).2⟩
theorem CloAt.tr {z : Bz} {M M' : MS} {H H' : Hp} (t : Tr M H M' H') {a : Addr} {i : Nat} (c : CloAt z M H a i) : CloAt z M' H' a i := by
  obtain ⟨nd, c', dv, doc, pm, ctv, e, hd, h1, h2, h3, n1, n2⟩ := c.ex
  refine ⟨nd, c', dv, doc, pm, ctv, e, hd, (t.ex _ _ n1 h1).1, (t.ex _ _ n2 h2).1, ?_, (t.ex _ _ n1 h1).2, (t.ex _ _ n2 h2).2⟩
  rcases h3 with h3 | ⟨b, n, e, h, nb⟩
  · exact .inl h3
  · exact .inr ⟨b, n, e, (t.ex _ _ nb h).1, (t.ex _ _ nb h).2⟩
mutual
theorem Rp.tr {z : Bz} {M M' : MS} {H H' : Hp} (t : Tr M H M' H') : ∀ {v : V} {d : D}, Rp z M H v d → Rp z M' H' v d
  | _, _, .non => .non
  | _, _, .bl b => .bl b
  | _, _, .int b => .int b
  | _, _, .str b => .str b
  | _, _, .lst r n l => .lst (t.ex _ _ n r).1 (t.ex _ _ n r).2 (l.tr t)
  | _, _, .tup r n l => .tup (t.ex _ _ n r).1 (t.ex _ _ n r).2 (l.tr t)
  | _, _, .dicK r n l => .dicK (t.lk n r).1 (t.lk n r).2 (l.tr t)
  | _, _, .dicT r n l => .dicT (t.lk n r).1 (t.lk n r).2 (l.tr t)
  | _, _, .ins r q n l => .ins (t.ex _ _ n r).1 q (t.ex _ _ n r).2 (l.tr t)
  | _, _, .slf r n l => .slf (t.ex _ _ n r).1 (t.ex _ _ n r).2 (l.tr t)
  | _, _, .raw v => .raw v
  | _, _, .bag e => .bag e
  | _, _, .clo c => .clo (c.tr t)
theorem RpL.tr {z : Bz} {M M' : MS} {H H' : Hp} (t : Tr M H M' H') : ∀ {v : List V} {d : List D}, RpL z M H v d → RpL z M' H' v d
  | _, _, .nil => .nil
  | _, _, .cons a b => .cons (a.tr t) (b.tr t)
theorem RpLL.tr {z : Bz} {M M' : MS} {H H' : Hp} (t : Tr M H M' H') : ∀ {v : List (List V)} {d : List (List D)}, RpLL z M H v d → RpLL z M' H' v d
  | _, _, .nil => .nil
  | _, _, .cons a b => .cons (a.tr t) (b.tr t)
end
end L2.DL
namespace L2.DL
open PySem PySem.Spec PyProof.Rows
/-- what is raised: its class, its fields -/
structure XD where
  C : Addr
  ns : List Str
  vs : List D
/-- who owns: a name's slot; the things of a resource slot -/
abbrev Ix := Nat ⊕ (Nat × Nat)
instance : Coe Nat Ix := ⟨Sum.inl⟩
inductive Sl where
  | no
  | val (d : D)
  | own (d : D)
  | rs (as : List Addr) (φ : Bz → (Addr → Prop) → Hp → Prop)
  | ex (E : XK) (Ed : XD → Prop)
  | zz (p : Bz → (Addr → Prop) → Hp → Prop)
def Sl.dat : Sl → Option D
  | .no => none
  | .val d => some d
  | .own d => some d
  | .ex _ _ => none
  | .zz _ => none
  | .rs _ _ => none
def Mo (M0 : MS) (z : Bz) (ow : Ix → Option Addr) : MS := fun a => M0 a ∨ resB z a ∨ ∃ i, ow i = some a
inductive Ow (z : Bz) (M : MS) (H : Hp) : Addr → D → Prop
  | lst {a : Addr} {xs : List V} {ds : List D} : H a = some (.lst xs) → RpL z M H xs ds → Ow z M H a (.lst ds)
  | dicK {a : Addr} {kvs : List (Key × V)} {vs : List D} : H a = some (.dK kvs) → RpL z M H (kvs.map fun p => p.2) vs → Ow z M H a (.dic false false (kvs.map fun p => kD p.1) vs)
  | dicT {a : Addr} {kvs : List (List Key × V)} {vs : List D} : H a = some (.dT kvs) → RpL z M H (kvs.map fun p => p.2) vs → Ow z M H a (.dic true false (kvs.map fun p => tD p.1) vs)
  | ins {a C dx : Addr} {fs : List (Str × V)} {ds : List D} : H a = some (.ins C dx fs) → ("" : Str) ∉ (fs.map fun p => p.1) → RpL z M H (fs.map fun p => p.2) ds → Ow z M H a (.ins C (fs.map fun p => p.1) ds)
  | slf {a C dx : Addr} {fs : List (Str × V)} {ds : List D} : H a = some (.ins C dx fs) → RpL z M H (fs.map fun p => p.2) ds → Ow z M H a (.ins C ("" :: fs.map fun p => p.1) (.raw (.ref a) :: ds))
theorem Ow.alive {z : Bz} {M : MS} {H : Hp} {a : Addr} {d : D} (h : Ow z M H a d) : Nt H a := by
  cases h with
  | lst e _ => exact ⟨_, e, trivial⟩
  | dicK e _ => exact ⟨_, e, trivial⟩
  | dicT e _ => exact ⟨_, e, trivial⟩
  | ins e _ _ => exact ⟨_, e, trivial⟩
  | slf e _ => exact ⟨_, e, trivial⟩
theorem Ow.tr {z : Bz} {M M' : MS} {H H' : Hp} {a : Addr} {d : D} (h : Ow z M H a d) (t : Tr M H M' H') (e : ∀ o, H a = some o → H' a = some o) : Ow z M' H' a d := by
  cases h with
  | lst r l => exact .lst (e _ r) (l.tr t)
  | dicK r l => exact .dicK (e _ r) (l.tr t)
  | dicT r l => exact .dicT (e _ r) (l.tr t)
  | ins r q l => exact .ins (e _ r) q (l.tr t)
  | slf r l => exact .slf (e _ r) (l.tr t)
theorem Ow.code {z : Bz} {M : MS} {H : Hp} {a : Addr} {d : D} (h : Ow z M H a d) (c : Addr) (q : Str) : H a ≠ some (CodeO c q) := fun e => by
  cases h with
  | lst e' _ => rw [e'] at e; cases e
  | dicK e' _ => rw [e'] at e; cases e
  | dicT e' _ => rw [e'] at e; cases e
  | ins e' _ _ => rw [e'] at e; cases e
  | slf e' _ => rw [e'] at e; cases e
/-- an owned thing that is owned no more -/
theorem Ow.rp {z : Bz} {M M' : MS} {H : Hp} {a : Addr} {d : D} (h : Ow z M H a d) (t : Tr M H M' H) (n : ¬ M' a) : Rp z M' H (.ref a) d := by
  cases h with
  | lst r l => exact .lst r n (l.tr t)
  | dicK r l => exact .dicK (lk := false) r n (l.tr t)
  | dicT r l => exact .dicT (lk := false) r n (l.tr t)
  | ins r q l => exact .ins r q n (l.tr t)
  | slf r l => exact .slf r n (l.tr t)
/-- an exception with the own dict at d -/
def XRp (z : Bz) (M : MS) (H : Hp) (d : Addr) (x : XD) : Prop := ∃ fs : List (Str × V), H d = some (.xd fs) ∧ (fs.map fun p => p.1) = x.ns ∧ RpL z M H (fs.map fun p => p.2) x.vs
/-- what the wish E takes, over data -/
def XLink (z : Bz) (M0 : MS) (H0 : Hp) (E : XK) (Ed : XD → Prop) : Prop := ∀ (x : XD) (d : Addr) (H' : Hp), Ed x → Ext z H0 H' → BagOk z H' → XRp z (Mo M0 z fun _ => none) H' d x → E (.ref x.C) (some d) H'
abbrev SS0 := List Sl
structure Gh where
  z : Bz
  M0 : MS
  H0 : Hp
  X0 : Hp
  XM : MS
  ow : Ix → Option Addr
  S : List Sl
/-- the wishes about exceptions that the slots hold -/
structure ExOk (g : Gh) : Prop where
  e0 : Ext g.z g.X0 g.H0
  em : ∀ a, g.XM a → g.M0 a
  ea : ∀ a, g.XM a → g.X0 a ≠ none
  el : ∀ (i : Nat) (E : XK) (Ed : XD → Prop), g.S[i]? = some (.ex E Ed) → XLink g.z g.XM g.X0 E Ed
  ez : ∀ (i : Nat) (p : Bz → MS → Hp → Prop), g.S[i]? = some (.zz p) → p g.z g.XM g.X0
  en : ∀ a, g.M0 a → g.XM a ∨ g.X0 a = none
abbrev Gh.M (g : Gh) : MS := Mo g.M0 g.z g.ow
/-- what stands at the addresses of a resource slot leans on them alone, and on kept things -/
def RsOk (as : List Addr) (φ : Bz → (Addr → Prop) → Hp → Prop) : Prop := ∀ (z : Bz) (M M' : MS) (H H' : Hp), φ z M H → Tr M H M' H' → (∀ a ∈ as, ∀ o, H a = some o → H' a = some o) → φ z M' H'
structure RsAt (g : Gh) (M : MS) (H : Hp) (i : Nat) (as : List Addr) (φ : Bz → (Addr → Prop) → Hp → Prop) : Prop where
  ok : RsOk as φ
  ow : ∀ a ∈ as, ∃ j, g.ow (.inr (i, j)) = some a
  at_ : φ g.z M H
structure Stt (g : Gh) (σ : St) (H : Hp) : Prop where
  rs : ∀ (i : Nat) (as : List Addr) (φ : Bz → (Addr → Prop) → Hp → Prop), g.S[i]? = some (.rs as φ) → RsAt g g.M H i as φ
  len : g.S.length = σ.length
  val : ∀ (i : Nat) (d : D), g.S[i]? = some (.val d) → ∃ v, σ[i]? = some (some v) ∧ Rp g.z g.M H v d
  own : ∀ (i : Nat) (d : D), g.S[i]? = some (.own d) → ∃ a, σ[i]? = some (some (.ref a)) ∧ g.ow i = some a ∧ Ow g.z g.M H a d
  inj : ∀ (i j : Ix) (a : Addr), g.ow i = some a → g.ow j = some a → i = j
  new : ∀ (i : Ix) (a : Addr), g.ow i = some a → g.H0 a = none ∧ ¬ g.M0 a ∧ ¬ resB g.z a
  alive : ∀ a, g.M a → Nt H a
  keep : Ext g.z g.H0 H
  bag : BagOk g.z H
  ex : ExOk g
theorem res_M {g : Gh} {a : Addr} (h : resB g.z a) : g.M a := .inr (.inl h)
theorem Stt.x0 {g : Gh} {σ : St} {H : Hp} (s : Stt g σ H) {a : Addr} (ha : H a = none) : g.X0 a = none := by
  cases e : g.X0 a with
  | none => rfl
  | some o =>
    exfalso
    by_cases hb : isB g.z a
    · exact (s.alive a (res_M hb.res)).ne ha
    · have h1 := s.keep a o (s.ex.e0 a o e hb) hb
      rw [ha] at h1
      cases h1
theorem Ext.trM {g : Gh} {H H' : Hp} (x : Ext g.z H H') : Tr g.M H g.M H' := Tr.of fun a o n e => ⟨x a o e fun q => n (res_M q.res), n⟩
theorem Ext.trMS {z : Bz} {M : MS} {H H' : Hp} (x : Ext z H H') (hM : ∀ a, resB z a → M a) : Tr M H M H' := Tr.of fun a o n e => ⟨x a o e fun q => n (hM _ q.res), n⟩
theorem Rp.ext {g : Gh} {H H' : Hp} {v : V} {d : D} (h : Rp g.z g.M H v d) (x : Ext g.z H H') : Rp g.z g.M H' v d := h.tr x.trM
theorem RpL.ext {g : Gh} {H H' : Hp} {v : List V} {d : List D} (h : RpL g.z g.M H v d) (x : Ext g.z H H') : RpL g.z g.M H' v d := h.tr x.trM
theorem RsAt.tr {g g' : Gh} {M M' : MS} {H H' : Hp} {i : Nat} {as : List Addr} {φ : Bz → (Addr → Prop) → Hp → Prop} (r : RsAt g M H i as φ) (t : Tr M H M' H') (k : ∀ a ∈ as, ∀ o, H a = some o → H' a = some o) (hz : g'.z = g.z) (ho : ∀ j, g'.ow (.inr (i, j)) = g.ow (.inr (i, j))) : RsAt g' M' H' i as φ :=
  ⟨r.ok, fun a ha => by obtain ⟨j, e⟩ := r.ow a ha; exact ⟨j, by rw [ho]; exact e⟩, by rw [hz]; exact r.ok _ _ _ _ _ r.at_ t k⟩
theorem Stt.rsNe {g : Gh} {σ : St} {H : Hp} (s : Stt g σ H) {i k : Nat} {a : Addr} {as : List Addr} {φ : Bz → (Addr → Prop) → Hp → Prop} (e : g.S[i]? = some (.rs as φ)) (eo : g.ow k = some a) : a ∉ as := fun h => by
  obtain ⟨j, ej⟩ := (s.rs i as φ e).ow a h
  cases s.inj _ _ a ej eo
theorem Stt.rsNew {g : Gh} {σ : St} {H : Hp} (s : Stt g σ H) {i : Nat} {as : List Addr} {φ : Bz → (Addr → Prop) → Hp → Prop} (e : g.S[i]? = some (.rs as φ)) {a : Addr} (h : a ∈ as) : g.H0 a = none ∧ ¬ g.M0 a ∧ ¬ resB g.z a := by
  obtain ⟨j, ej⟩ := (s.rs i as φ e).ow a h
  exact s.new _ a ej
theorem Stt.ext {g : Gh} {σ : St} {H H' : Hp} (s : Stt g σ H) (x : Ext g.z H H') (b : BagOk g.z H') : Stt g σ H' where
  rs := fun i as φ e => (s.rs i as φ e).tr x.trM (fun a ha o q => x a o q fun z => (s.rsNew e ha).2.2 z.res) rfl fun _ => rfl
  len := s.len
  val := fun i d e => by
    obtain ⟨v, e1, r⟩ := s.val i d e
    exact ⟨v, e1, r.ext x⟩
  own := fun i d e => by
    obtain ⟨a, e1, e2, r⟩ := s.own i d e
    refine ⟨a, e1, e2, r.tr x.trM fun o q => x a o q fun z => (s.new i a e2).2.2 z.res⟩
  inj := s.inj
  new := s.new
  alive := fun a h => by
    by_cases hb : resB g.z a
    · exact b.alive hb
    · obtain ⟨o, e, n⟩ := s.alive a h
      exact ⟨o, x a o e fun z => hb z.res, n⟩
  keep := s.keep.trans x
  bag := b
  ex := s.ex
theorem TabS.keeps {H H' : Hp} {P : Addr} {q : Str} (t : TabS H P q) (e : ∀ b o, H b = some o → H' b = some o) : TabS H' P q := by
  obtain ⟨ps, h1, h2, h3⟩ := t
  refine ⟨ps, e _ _ h1, h2, fun pos cv hc => ?_⟩
  obtain ⟨c, e1, e2⟩ := h3 pos cv hc
  exact ⟨c, e1, e _ _ e2⟩
theorem BagOk.new {z : Bz} {H : Hp} {p : Addr} {o : HO} (b : BagOk z H) (hp : H p = none) : BagOk z (upd H p o) where
  bg := fun a l e => by
    obtain ⟨ne, ns, at_, big, seed, cnt, e1, e2, r⟩ := b.bg a l e
    refine ⟨ne, ns, at_, big, seed, cnt, ?_, ?_, r⟩
    · rw [upd_ne (ne_of_none e1 hp)]; exact e1
    · rw [upd_ne (ne_of_none e2 hp)]; exact e2
  tb := fun P e => (b.tb P e).keeps fun c u q => by rw [upd_ne (ne_of_none q hp)]; exact q
  ap := b.ap
theorem BagOk.mut {z : Bz} {H : Hp} {a : Addr} {o : HO} (b : BagOk z H) (h : ¬ resB z a) (hc : ∀ c q, H a ≠ some (CodeO c q)) : BagOk z (upd H a o) where
  bg := fun p l e => by
    obtain ⟨ne, ns, at_, big, seed, cnt, e1, e2, r⟩ := b.bg p l e
    have n1 : p ≠ a := by rintro rfl; exact h (.inl ⟨p, l, e, .inl rfl⟩)
    have n2 : l ≠ a := by rintro rfl; exact h (.inl ⟨p, l, e, .inr rfl⟩)
    exact ⟨ne, ns, at_, big, seed, cnt, by rw [upd_ne n1]; exact e1, by rw [upd_ne n2]; exact e2, r⟩
  tb := fun P e => by
    obtain ⟨ps, h1, h2, h3⟩ := b.tb P e
    have n1 : P ≠ a := by rintro rfl; exact h (.inr e)
    refine ⟨ps, by rw [upd_ne n1]; exact h1, h2, fun pos cv hcv => ?_⟩
    obtain ⟨c, e1, e2⟩ := h3 pos cv hcv
    exact ⟨c, e1, by rw [upd_ne (show c ≠ a by rintro rfl; exact hc _ _ e2)]; exact e2⟩
  ap := b.ap
theorem ex_set {S : SS0} {i j : Nat} {x : Sl} {E : XK} {Ed : XD → Prop} (e : (S.set i x)[j]? = some (.ex E Ed)) (hx : ∀ E Ed, x ≠ .ex E Ed) : S[j]? = some (.ex E Ed) := by
  rw [List.getElem?_set] at e
  by_cases hij : i = j
  · subst hij
    rw [if_pos rfl] at e
    split at e
    · exact absurd (Option.some.inj e) (hx E Ed)
    · cases e
  · rwa [if_neg hij] at e
theorem zz_set {S : SS0} {i j : Nat} {x : Sl} {p : Bz → MS → Hp → Prop} (e : (S.set i x)[j]? = some (.zz p)) (hx : ∀ p, x ≠ .zz p) : S[j]? = some (.zz p) := by
  rw [List.getElem?_set] at e
  by_cases hij : i = j
  · subst hij
    rw [if_pos rfl] at e
    split at e
    · exact absurd (Option.some.inj e) (hx p)
    · cases e
  · rwa [if_neg hij] at e
theorem rs_set {S : SS0} {i j : Nat} {x : Sl} {as : List Addr} {φ : Bz → (Addr → Prop) → Hp → Prop} (e : (S.set i x)[j]? = some (.rs as φ)) (hx : ∀ as φ, x ≠ .rs as φ) : S[j]? = some (.rs as φ) := by
  rw [List.getElem?_set] at e
  by_cases hij : i = j
  · subst hij
    rw [if_pos rfl] at e
    split at e
    · exact absurd (Option.some.inj e) (hx as φ)
    · cases e
  · rwa [if_neg hij] at e
theorem rs_val {S : SS0} {i j : Nat} {d : D} {as : List Addr} {φ : Bz → (Addr → Prop) → Hp → Prop} (e : (S.set i (.val d))[j]? = some (.rs as φ)) : S[j]? = some (.rs as φ) := rs_set e fun _ _ q => by cases q
theorem rs_own {S : SS0} {i j : Nat} {d : D} {as : List Addr} {φ : Bz → (Addr → Prop) → Hp → Prop} (e : (S.set i (.own d))[j]? = some (.rs as φ)) : S[j]? = some (.rs as φ) := rs_set e fun _ _ q => by cases q
theorem ExOk.set {g : Gh} (e : ExOk g) {ow : Ix → Option Addr} {i : Nat} {x : Sl} (hx : ∀ E Ed, x ≠ .ex E Ed) (hz : ∀ p, x ≠ .zz p) : ExOk { g with ow := ow, S := g.S.set i x } := ⟨e.e0, e.em, e.ea, fun j E Ed q => e.el j E Ed (ex_set q hx), fun j p q => e.ez j p (zz_set q hz), e.en⟩
theorem ExOk.val {g : Gh} (e : ExOk g) {ow : Ix → Option Addr} {i : Nat} {d : D} : ExOk { g with ow := ow, S := g.S.set i (.val d) } := e.set (fun _ _ q => by cases q) fun _ q => by cases q
theorem ExOk.own {g : Gh} (e : ExOk g) {ow : Ix → Option Addr} {i : Nat} {d : D} : ExOk { g with ow := ow, S := g.S.set i (.own d) } := e.set (fun _ _ q => by cases q) fun _ q => by cases q
theorem ExOk.more {g : Gh} (e : ExOk g) {M1 : MS} (h : ∀ a, g.M0 a → M1 a) (hn : ∀ a, M1 a → g.M0 a ∨ g.X0 a = none) : ExOk { g with M0 := M1 } := ⟨e.e0, fun a q => h a (e.em a q), e.ea, e.el, e.ez, fun a q => (hn a q).elim (e.en a) .inr⟩
theorem Stt.alloc {g : Gh} {σ : St} {H : Hp} {p : Addr} {o : HO} (s : Stt g σ H) (hp : H p = none) : Stt g σ (upd H p o) := s.ext (.new hp) (s.bag.new hp)
theorem Stt.fresh {g : Gh} {σ : St} {H : Hp} {p : Addr} (s : Stt g σ H) (hp : H p = none) : ¬ g.M p := fun h => (s.alive p h).ne hp
/-- read, not kept -/
def Pk (g : Gh) (H : Hp) (v : V) (d : D) : Prop := Rp g.z g.M H v d ∨ ∃ a, v = .ref a ∧ (∃ i, g.ow i = some a) ∧ (¬ g.M0 a ∧ ¬ resB g.z a) ∧ Ow g.z g.M H a d
theorem Pk.ext {g : Gh} {H H' : Hp} {v : V} {d : D} (h : Pk g H v d) (x : Ext g.z H H') : Pk g H' v d := by
  rcases h with h | ⟨a, e, m, n, o⟩
  · exact .inl (h.ext x)
  · exact .inr ⟨a, e, m, n, o.tr x.trM fun o q => x a o q fun z => n.2 z.res⟩
theorem Pk.lst {g : Gh} {H : Hp} {v : V} {ds : List D} (h : Pk g H v (.lst ds)) : ∃ a xs, v = .ref a ∧ H a = some (.lst xs) ∧ RpL g.z g.M H xs ds := by
  rcases h with h | ⟨a, e, m, n, o⟩
  · cases h with | lst r _ l => exact ⟨_, _, rfl, r, l⟩
  · cases o with | lst r l => exact ⟨_, _, e, r, l⟩
theorem Pk.tup {g : Gh} {H : Hp} {v : V} {ds : List D} (h : Pk g H v (.tup ds)) : ∃ a xs, v = .ref a ∧ H a = some (.tup xs) ∧ RpL g.z g.M H xs ds := by
  rcases h with h | ⟨a, e, m, n, o⟩
  · cases h with | tup r _ l => exact ⟨_, _, rfl, r, l⟩
  · cases o
theorem Pk.int {g : Gh} {H : Hp} {v : V} {i : Int} (h : Pk g H v (.int i)) : v = .int i := by
  rcases h with h | ⟨a, e, m, n, o⟩
  · cases h; rfl
  · cases o
theorem Pk.bl {g : Gh} {H : Hp} {v : V} {i : Bool} (h : Pk g H v (.bl i)) : v = .bl i := by
  rcases h with h | ⟨a, e, m, n, o⟩
  · cases h; rfl
  · cases o
theorem Pk.str {g : Gh} {H : Hp} {v : V} {i : List Nat} (h : Pk g H v (.str i)) : v = .str (S2 i) := by
  rcases h with h | ⟨a, e, m, n, o⟩
  · cases h; rfl
  · cases o
theorem Pk.non {g : Gh} {H : Hp} {v : V} (h : Pk g H v .non) : v = .non := by
  rcases h with h | ⟨a, e, m, n, o⟩
  · cases h; rfl
  · cases o
theorem Pk.raw {g : Gh} {H : Hp} {v u : V} (h : Pk g H v (.raw u)) : v = u := by
  rcases h with h | ⟨a, e, m, n, o⟩
  · cases h; rfl
  · cases o
abbrev SS := List Sl
abbrev TDE := SS → (D → Prop) → Prop
abbrev TDT := SS → (Bool → Prop) → Prop
abbrev TDA := SS → (List D → Prop) → Prop
structure EndsD where
  nx : SS → Prop
  rt : D → Prop
  rf : D → Prop
  bk : SS → Prop := fun _ => False
  ct : SS → Prop := fun _ => False
  rg : List D → Prop := fun _ => False
abbrev TDS := EndsD → SS → Prop
/-- kept values; read values; new objects; tests; arguments -/
def lE (t : TDE) : TE := fun σ H Q => ∃ (g : Gh) (Qd : D → Prop), Stt g σ H ∧ t g.S Qd ∧ ∀ d v H', Qd d → Ext g.z H H' → Stt g σ H' → Rp g.z g.M H' v d → Q v H'
def lP (t : TDE) : TE := fun σ H Q => ∃ (g : Gh) (Qd : D → Prop), Stt g σ H ∧ t g.S Qd ∧ ∀ d v H', Qd d → Ext g.z H H' → Stt g σ H' → Pk g H' v d → Q v H'
def OwF (z : Bz) (M : MS) (H : Hp) (a : Addr) (d : D) : Prop := Ow z (fun b => M b ∨ b = a) H a d
def lF (t : TDE) : TE := fun σ H Q => ∃ (g : Gh) (Qd : D → Prop), Stt g σ H ∧ t g.S Qd ∧ ∀ d a H', Qd d → Ext g.z H H' → Stt g σ H' → H a = none → ¬ g.M a → OwF g.z g.M H' a d → Q (.ref a) H'
def lT (t : TDT) : TT := fun σ H Q => ∃ (g : Gh) (Qd : Bool → Prop), Stt g σ H ∧ t g.S Qd ∧ ∀ b H', Qd b → Ext g.z H H' → Stt g σ H' → Q b H'
def lA (t : TDA) : TA := fun σ H Q => ∃ (g : Gh) (Qd : List D → Prop), Stt g σ H ∧ t g.S Qd ∧ ∀ ds vs H', Qd ds → Ext g.z H H' → Stt g σ H' → RpL g.z g.M H' vs ds → Q vs H'
/-- a new tuple of new things, all owned -/
structure FrG (z : Bz) (M : MS) (H0 H : Hp) (p : Addr) (as : List Addr) (ds : List D) : Prop where
  at_ : H p = some (.tup (as.map .ref))
  nd : (p :: as).Nodup
  fr : ∀ a ∈ p :: as, H0 a = none ∧ ¬ M a
  len : as.length = ds.length
  ow : ∀ (i : Nat) (a : Addr) (d : D), as[i]? = some a → ds[i]? = some d → Ow z (fun b => M b ∨ b ∈ p :: as) H a d
structure LE (g : Gh) (De : EndsD) (D : Ends) : Prop where
  nx : ∀ (ow : Ix → Option Addr) (S : SS) σ H, Stt { g with ow := ow, S := S } σ H → De.nx S → D.nx σ H
  bk : ∀ (ow : Ix → Option Addr) (S : SS) σ H, Stt { g with ow := ow, S := S } σ H → De.bk S → D.bk σ H
  ct : ∀ (ow : Ix → Option Addr) (S : SS) σ H, Stt { g with ow := ow, S := S } σ H → De.ct S → D.ct σ H
  rt : ∀ d v H, De.rt d → Ext g.z g.H0 H → BagOk g.z H → Rp g.z (Mo g.M0 g.z fun _ => none) H v d → D.rt v H
  rf : ∀ d a H, De.rf d → Ext g.z g.H0 H → BagOk g.z H → g.H0 a = none → ¬ Mo g.M0 g.z (fun _ => none) a → OwF g.z (Mo g.M0 g.z fun _ => none) H a d → D.rt (.ref a) H
  rg : ∀ ds p as H, De.rg ds → Ext g.z g.H0 H → BagOk g.z H → FrG g.z (Mo g.M0 g.z fun _ => none) g.H0 H p as ds → D.rt (.ref p) H
def lS (t : TDS) : TS := fun D σ H => ∃ (g : Gh) (De : EndsD), Stt g σ H ∧ t De g.S ∧ LE g De D
theorem PE.imp {X : Cx} {e : Expr} {t t' : TE} (h : PE X e t) (i : ∀ σ H Q, t' σ H Q → t σ H Q) : PE X e t' := ⟨fun pins s σ H Q I w => h.run pins s σ H Q I (i _ _ _ w)⟩
theorem PT.imp {X : Cx} {e : Expr} {t t' : TT} (h : PT X e t) (i : ∀ σ H Q, t' σ H Q → t σ H Q) : PT X e t' := ⟨fun pins s σ H Q I w => h.run pins s σ H Q I (i _ _ _ w)⟩
theorem PW.imp {X : Cx} {e : Expr} {t t' : TT} (h : PW X e t) (i : ∀ σ H Q, t' σ H Q → t σ H Q) : PW X e t' := ⟨fun wh pins s σ H Q I w => h.run wh pins s σ H Q I (i _ _ _ w)⟩
theorem PA.imp {X : Cx} {e : List Expr} {t t' : TA} (h : PA X e t) (i : ∀ σ H Q, t' σ H Q → t σ H Q) : PA X e t' := ⟨fun pos pins s σ H Q I w => h.run pos pins s σ H Q I (i _ _ _ w)⟩
theorem PS.imp {X : Cx} {e : Stmt} {t t' : TS} (h : PS X e t) (i : ∀ D σ H, t' D σ H → t D σ H) : PS X e t' := ⟨fun pins s σ H D I w => h.run pins s σ H D I (i _ _ _ w)⟩
theorem PSs.imp {X : Cx} {e : List Stmt} {t t' : TS} (h : PSs X e t) (i : ∀ D σ H, t' D σ H → t D σ H) : PSs X e t' := ⟨fun pins s σ H D I w => h.run pins s σ H D I (i _ _ _ w)⟩
theorem PE.or {X : Cx} {e : Expr} {t t' : TE} (h : PE X e t) (h' : PE X e t') : PE X e (fun σ H Q => t σ H Q ∨ t' σ H Q) := ⟨fun pins s σ H Q I w => w.elim (fun w => h.run pins s σ H Q I w) fun w => h'.run pins s σ H Q I w⟩
section
variable {X : Cx} {e : Expr} {t : TDE}
/-- a kept value, a new object: read -/
theorem PE.toP (h : PE X e (lE t)) : PE X e (lP t) := PE.imp h fun σ H Q ⟨g, Qd, s, w, k⟩ => ⟨g, Qd, s, w, fun d v H' q x s' r => k d v H' q x s' (.inl r)⟩
theorem Ow.keepE {g : Gh} {H : Hp} {a : Addr} {d : D} (o : Ow g.z g.M H a d) (n : ¬ g.M a) : Rp g.z g.M H (.ref a) d := o.rp (Tr.of fun _ _ n e => ⟨e, n⟩) n
/-- a new thing, its items apart from it -/
theorem OwF.keepE {g : Gh} {H : Hp} {a : Addr} {d : D} (o : OwF g.z g.M H a d) (n : ¬ g.M a) : Rp g.z g.M H (.ref a) d := Ow.rp o (Tr.of fun _ _ n e => ⟨e, fun q => n (.inl q)⟩) n
theorem PE.toE (h : PE X e (lF t)) : PE X e (lE t) := PE.imp h fun σ H Q ⟨g, Qd, s, w, k⟩ => ⟨g, Qd, s, w, fun d a H' q x s' hn nm o => k d (.ref a) H' q x s' (o.keepE nm)⟩
end
end L2.DL
namespace L2.DL
open PySem PySem.Spec PyProof.Rows
section
variable {z : Bz} {M : MS} {H : Hp}
theorem RpL.length : ∀ {vs : List V} {ds : List D}, RpL z M H vs ds → vs.length = ds.length
  | _, _, .nil => rfl
  | _, _, .cons _ b => by rw [List.length_cons, List.length_cons, b.length]
theorem RpL.get : ∀ {vs : List V} {ds : List D} {i : Nat} {d : D}, RpL z M H vs ds → ds[i]? = some d → ∃ v, vs[i]? = some v ∧ Rp z M H v d
  | _, _, i, _, .nil, e => by simp at e
  | _, _, 0, _, .cons a _, e => by simp at e; subst e; exact ⟨_, rfl, a⟩
  | _, _, i + 1, d, .cons _ b, e => by
    obtain ⟨v, h1, h2⟩ := RpL.get (i := i) (d := d) b (by simpa using e)
    exact ⟨v, by simpa using h1, h2⟩
theorem RpL.getV : ∀ {vs : List V} {ds : List D} {i : Nat} {v : V}, RpL z M H vs ds → vs[i]? = some v → ∃ d, ds[i]? = some d ∧ Rp z M H v d
  | _, _, i, _, .nil, e => by simp at e
  | _, _, 0, _, .cons a _, e => by simp at e; subst e; exact ⟨_, rfl, a⟩
  | _, _, i + 1, d, .cons _ b, e => by
    obtain ⟨v, h1, h2⟩ := RpL.getV (i := i) (v := d) b (by simpa using e)
    exact ⟨v, by simpa using h1, h2⟩
theorem RpL.append : ∀ {vs vs' : List V} {ds ds' : List D}, RpL z M H vs ds → RpL z M H vs' ds' → RpL z M H (vs ++ vs') (ds ++ ds')
  | _, _, _, _, .nil, s => s
  | _, _, _, _, .cons a b, s => .cons a (b.append s)
theorem RpL.one {v : V} {d : D} (h : Rp z M H v d) : RpL z M H [v] [d] := .cons h .nil
theorem RpL.take : ∀ {vs : List V} {ds : List D} (n : Nat), RpL z M H vs ds → RpL z M H (vs.take n) (ds.take n)
  | _, _, 0, _ => by simp; exact .nil
  | _, _, n + 1, .nil => by simp; exact .nil
  | _, _, n + 1, .cons a b => by simp; exact .cons a (b.take n)
theorem RpL.drop : ∀ {vs : List V} {ds : List D} (n : Nat), RpL z M H vs ds → RpL z M H (vs.drop n) (ds.drop n)
  | _, _, 0, h => by simp; exact h
  | _, _, n + 1, .nil => by simp; exact .nil
  | _, _, n + 1, .cons a b => by simp; exact b.drop n
theorem RpL.set : ∀ {vs : List V} {ds : List D} {v : V} {d : D} (n : Nat), RpL z M H vs ds → Rp z M H v d → RpL z M H (vs.set n v) (ds.set n d)
  | _, _, _, _, 0, .nil, h => by simp; exact .nil
  | _, _, _, _, n + 1, .nil, h => by simp; exact .nil
  | _, _, _, _, 0, .cons a b, h => by simp; exact .cons h b
  | _, _, _, _, n + 1, .cons a b, h => by simp; exact .cons a (b.set n h)
theorem RpL.reverse : ∀ {vs : List V} {ds : List D}, RpL z M H vs ds → RpL z M H vs.reverse ds.reverse
  | _, _, .nil => by simp; exact .nil
  | _, _, .cons a b => by simp; exact b.reverse.append (.one a)
theorem RpL.rep : ∀ {vs : List V} {ds : List D} (n : Nat), RpL z M H vs ds → RpL z M H (List.replicate n vs).flatten (List.replicate n ds).flatten
  | _, _, 0, _ => by simp; exact .nil
  | _, _, n + 1, h => by rw [List.replicate_succ, List.replicate_succ, List.flatten_cons, List.flatten_cons]; exact h.append (h.rep n)
theorem Rp.int_inv {v : V} {i : Int} (h : Rp z M H v (.int i)) : v = .int i := by cases h; rfl
theorem Rp.str_inv {v : V} {i : List Nat} (h : Rp z M H v (.str i)) : v = .str (S2 i) := by cases h; rfl
theorem Rp.raw_inv {v u : V} (h : Rp z M H v (.raw u)) : v = u := by cases h; rfl
theorem RpL.strs : ∀ {vs : List V} {ns : List (List Nat)}, RpL z M H vs (ns.map D.str) → vs = (ns.map S2).map V.str
  | _, [], .nil => rfl
  | _, n :: ns, .cons a b => by cases a; rw [b.strs]; rfl
end
def cut {α : Type} (xs : List α) (lo hi : Option Int) : List α := (xs.drop (HT.sIx xs.length 0 lo)).take (HT.sIx xs.length xs.length hi - HT.sIx xs.length 0 lo)
theorem RpL.cut {z : Bz} {M : MS} {H : Hp} {vs : List V} {ds : List D} (h : RpL z M H vs ds) (lo hi : Option Int) : RpL z M H (cutV vs lo hi) (cut ds lo hi) := by
  unfold cutV DL.cut
  rw [h.length]
  exact (h.drop _).take _
theorem RpL.atI {z : Bz} {M : MS} {H : Hp} {vs : List V} {ds : List D} {i : Int} {d : D} (h : RpL z M H vs ds) (e : atI ds i = some d) : ∃ v, L2.atI vs i = some v ∧ Rp z M H v d := by
  unfold L2.atI at e ⊢
  rw [h.length]
  cases q : ixN ds.length i with
  | none => rw [q] at e; simp at e
  | some j =>
    rw [q] at e
    obtain ⟨v, h1, h2⟩ := h.get (i := j) (d := d) (by simpa using e)
    exact ⟨v, by simpa using h1, h2⟩
def RetE (g : Gh) (σ : St) (H : Hp) (Qd : D → Prop) (Q : VK) : Prop := ∀ d v H', Qd d → Ext g.z H H' → Stt g σ H' → Rp g.z g.M H' v d → Q v H'
def RetF (g : Gh) (σ : St) (H : Hp) (Qd : D → Prop) (Q : VK) : Prop := ∀ d a H', Qd d → Ext g.z H H' → Stt g σ H' → H a = none → ¬ g.M a → OwF g.z g.M H' a d → Q (.ref a) H'
theorem RetE.F {g : Gh} {σ : St} {H : Hp} {Qd : D → Prop} {Q : VK} (h : RetE g σ H Qd Q) : RetF g σ H Qd Q := fun d a H' q x s n m o => h d (.ref a) H' q x s (o.keepE m)
/-- a value here -/
theorem RetE.here {g : Gh} {σ : St} {H : Hp} {Qd : D → Prop} {Q : VK} {d : D} {v : V} (h : RetE g σ H Qd Q) (s : Stt g σ H) (q : Qd d) (r : Rp g.z g.M H v d) : Q v H := h d v H q .refl s r
/-- a new list -/
theorem Tr.new {M : MS} {H : Hp} {p : Addr} {o : HO} (hp : H p = none) : Tr M H (fun b => M b ∨ b = p) (upd H p o) := Tr.of fun a u n e => by
  have ne := ne_of_none e hp
  exact ⟨by rw [upd_ne ne]; exact e, fun q => q.elim n ne⟩
theorem RetF.lst {g : Gh} {σ : St} {H : Hp} {Qd : D → Prop} {Q : VK} {xs : List V} {ds : List D} {p : Addr} (h : RetF g σ H Qd Q) (s : Stt g σ H) (hp : H p = none) (q : Qd (.lst ds)) (r : RpL g.z g.M H xs ds) : Q (.ref p) (upd H p (.lst xs)) :=
  h (.lst ds) p _ q (.new hp) (s.alloc hp) hp (s.fresh hp) (.lst upd_same (r.tr (.new hp)))
theorem RetE.tup {g : Gh} {σ : St} {H : Hp} {Qd : D → Prop} {Q : VK} {xs : List V} {ds : List D} {p : Addr} (h : RetE g σ H Qd Q) (s : Stt g σ H) (hp : H p = none) (q : Qd (.tup ds)) (r : RpL g.z g.M H xs ds) : Q (.ref p) (upd H p (.tup xs)) :=
  h (.tup ds) _ _ q (.new hp) (s.alloc hp) (.tup upd_same (s.fresh hp) (r.ext (.new hp)))
section
variable {X : Cx} {pos : Pos}
def dVar (i : Nat) : TDE := fun S Q => ∃ d, S[i]? = some (.val d) ∧ Q d
def dPeek (i : Nat) : TDE := fun S Q => ∃ d, (S[i]?).bind Sl.dat = some d ∧ Q d
def dC (d : D) : TDE := fun _ Q => Q d
theorem de_var {e : Expr} {i : Nat} (h : PE X e (tVar i)) : PE X e (lE (dVar i)) := PE.imp h fun σ H Q ⟨g, Qd, s, ⟨d, e1, q⟩, k⟩ => by
  obtain ⟨v, e2, r⟩ := s.val i d e1
  exact ⟨v, e2, k d v H q .refl s r⟩
theorem dp_var {e : Expr} {i : Nat} (h : PE X e (tVar i)) : PE X e (lP (dPeek i)) := PE.imp h fun σ H Q ⟨g, Qd, s, ⟨d, e1, q⟩, k⟩ => by
  cases e0 : g.S[i]? with
  | none => rw [e0] at e1; simp at e1
  | some w =>
    rw [e0] at e1
    cases w with
    | no => simp [Sl.dat] at e1
    | ex _ _ => simp [Sl.dat] at e1
    | zz _ => simp [Sl.dat] at e1
    | rs _ _ => simp [Sl.dat] at e1
    | val d' =>
      simp [Sl.dat] at e1
      subst e1
      obtain ⟨v, e2, r⟩ := s.val i d' e0
      exact ⟨v, e2, k d' v H q .refl s (.inl r)⟩
    | own d' =>
      simp [Sl.dat] at e1
      subst e1
      obtain ⟨a, e2, e3, r⟩ := s.own i d' e0
      exact ⟨.ref a, e2, k d' (.ref a) H q .refl s (.inr ⟨a, rfl, ⟨i, e3⟩, (s.new i a e3).2, r⟩)⟩
theorem de_C {e : Expr} {v : V} {d : D} (h : PE X e (tC v)) (r : ∀ z M H, Rp z M H v d) : PE X e (lE (dC d)) := PE.imp h fun σ H Q ⟨g, Qd, s, q, k⟩ => k d v H q .refl s (r _ _ _)
theorem de_int {i : Int} {j : Nat} : PE X (.Constant (.int i) j pos) (lE (dC (.int i))) := de_C pe_int fun _ _ _ => .int i
theorem de_str {i : Str} {j : Nat} : PE X (.Constant (.str i) j pos) (lE (dC (.str i.cps.toList))) := de_C pe_str fun _ _ _ => .str i.cps.toList
theorem de_bl {i : Bool} {j : Nat} : PE X (.Constant (.bool i) j pos) (lE (dC (.bl i))) := de_C pe_bl fun _ _ _ => .bl i
variable {a b : Expr} {ta tb : TDE}
abbrev RD2 := D → D → (D → Prop) → Prop
def Real2 (r : R2) (R : RD2) : Prop := ∀ (g : Gh) (σ : St) (H : Hp) (x y : V) (d e : D) (Qd : D → Prop) (Q : VK), Stt g σ H → Pk g H x d → Pk g H y e → R d e Qd → RetE g σ H Qd Q → r x y H Q
def Real2F (r : R2) (R : RD2) : Prop := ∀ (g : Gh) (σ : St) (H : Hp) (x y : V) (d e : D) (Qd : D → Prop) (Q : VK), Stt g σ H → Pk g H x d → Pk g H y e → R d e Qd → RetF g σ H Qd Q → r x y H Q
def d2 (R : RD2) (ta tb : TDE) : TDE := fun S Q => ta S fun x => tb S fun y => R x y Q
theorem lift2 {r : R2} {R : RD2} (hr : Real2 r R) {e : Expr} (h : PE X e (tOp r (lP ta) (lP tb))) : PE X e (lE (d2 R ta tb)) := PE.imp h fun σ H Q ⟨g, Qd, s, w, k⟩ =>
  ⟨g, _, s, w, fun d v H1 w1 x1 s1 r1 => ⟨g, _, s1, w1, fun d2 v2 H2 w2 x2 s2 r2 =>
    hr g σ H2 v v2 d d2 Qd Q s2 (r1.ext x2) r2 w2 fun d' v' H' q x s' r => k d' v' H' q ((x1.trans x2).trans x) s' r⟩⟩
theorem lift2F {r : R2} {R : RD2} (hr : Real2F r R) {e : Expr} (h : PE X e (tOp r (lP ta) (lP tb))) : PE X e (lF (d2 R ta tb)) := PE.imp h fun σ H Q ⟨g, Qd, s, w, k⟩ =>
  ⟨g, _, s, w, fun d v H1 w1 x1 s1 r1 => ⟨g, _, s1, w1, fun d2 v2 H2 w2 x2 s2 r2 =>
    hr g σ H2 v v2 d d2 Qd Q s2 (r1.ext x2) r2 w2 fun d' a' H' q x s' n m r => k d' a' H' q ((x1.trans x2).trans x) s' (by
      cases e0 : H a' with
      | none => rfl
      | some o =>
        by_cases hb : isB g.z a'
        · exact absurd (res_M hb.res) m
        · rw [(x1.trans x2) a' o e0 hb] at n; cases n) m r⟩⟩
theorem de_op {op : Operator} {r : R2} {R : RD2} (ho : OpR X (binaryOp op) r) (hr : Real2 r R) (ha : PE X a (lP ta)) (hb : PE X b (lP tb)) : PE X (.BinOp a op b pos) (lE (d2 R ta tb)) := lift2 hr (pe_op ho ha hb)
theorem df_op {op : Operator} {r : R2} {R : RD2} (ho : OpR X (binaryOp op) r) (hr : Real2F r R) (ha : PE X a (lP ta)) (hb : PE X b (lP tb)) : PE X (.BinOp a op b pos) (lF (d2 R ta tb)) := lift2F hr (pe_op ho ha hb)
theorem de_cmp {op : CmpOp} {r : R2} {R : RD2} (ho : OpR X (compareOp op) r) (hr : Real2 r R) (ha : PE X a (lP ta)) (hb : PE X b (lP tb)) (hm : behindInMarks op b = false := by first | exact nomark _ | rfl) : PE X (.Compare a [op] [b] pos) (lE (d2 R ta tb)) := lift2 hr (pe_cmpR ho ha hb hm)
theorem de_ix {r : R2} {R : RD2} (ho : IxR X r) (hr : Real2 r R) (ha : PE X a (lP ta)) (hb : PE X b (lP tb)) (hs : PlainIx b := by exact fun _ _ => rfl) : PE X (.Subscript a b pos) (lE (d2 R ta tb)) := lift2 hr (pe_ix ho ha hb hs)
theorem S2_append (x y : List Nat) : S2 x ++ S2 y = S2 (x ++ y) := by
  show (⟨x.toArray ++ y.toArray⟩ : Str) = ⟨(x ++ y).toArray⟩
  simp
theorem S2_length (x : List Nat) : (S2 x).length = x.length := by simp [Str.length]
def rAddD : RD2
  | .int i, .int j, Q => Q (.int (i + j))
  | .str x, .str y, Q => x.length + y.length ≤ sizeLine ∧ Q (.str (x ++ y))
  | .lst x, .lst y, Q => x.length + y.length ≤ sizeLine ∧ Q (.lst (x ++ y))
  | .tup x, .tup y, Q => x ≠ [] ∧ x.length + y.length ≤ sizeLine ∧ Q (.tup (x ++ y))
  | _, _, _ => False
def opAdd (K : PySem.W.Frag) : R2 := fun x y H Q => ((rI0 fun i j => .int (i + j)) x y H Q ∨ (∃ i j, x = .str i ∧ y = .str j ∧ i.length + j.length ≤ sizeLine ∧ Q (.str (i ++ j)) H)) ∨ (rCat x y H Q ∨ rCatT K x y H Q)
theorem op_addAll : OpR X (binaryOp .Add) (opAdd X.K) := OpR.or (OpR.or op_add op_add_str) (OpR.or op_cat op_catT)
theorem real_add {K : PySem.W.Frag} : Real2 (opAdd K) rAddD := by
  intro g σ H x y d e Qd Q s hx hy w k
  cases d <;> cases e <;> try exact w.elim
  · cases hx.int; cases hy.int
    exact .inl (.inl ⟨_, _, rfl, rfl, k.here s w (.int _)⟩)
  · cases hx.str; cases hy.str
    exact .inl (.inr ⟨_, _, rfl, rfl, by simpa [Str.length] using w.1, k.here s w.2 (by rw [S2_append]; exact .str _)⟩)
  · obtain ⟨p, xs, rfl, h1, l1⟩ := hx.lst
    obtain ⟨q, ys, rfl, h2, l2⟩ := hy.lst
    exact .inr (.inl ⟨_, _, _, _, rfl, rfl, h1, h2, by rw [l1.length, l2.length]; exact w.1, fun p hp => k.F.lst s hp w.2 (l1.append l2)⟩)
  · obtain ⟨p, xs, rfl, h1, l1⟩ := hx.tup
    obtain ⟨q, ys, rfl, h2, l2⟩ := hy.tup
    refine .inr (.inr ⟨_, _, _, _, rfl, rfl, .of h1, .of h2, ?_, by rw [l1.length, l2.length]; exact w.2.1, fun hy0 => ?_, fun _ p hp => k.tup s hp w.2.2 (l1.append l2)⟩)
    · intro e
      subst e
      cases l1
      exact w.1 rfl
    · subst hy0
      cases l2
      have q := w.2.2
      rw [List.append_nil] at q
      rcases hx with hx | ⟨a, e, _, _, o⟩
      · exact k.here s q hx
      · cases o
theorem de_add (ha : PE X a (lP ta)) (hb : PE X b (lP tb)) : PE X (.BinOp a .Add b pos) (lE (d2 rAddD ta tb)) := de_op op_addAll real_add ha hb
end
end L2.DL
namespace L2.DL
open PySem PySem.Spec PyProof.Rows
mutual
def toPy : D → PyData
  | .non => .none
  | .bl b => .bool b
  | .int i => .int i
  | .str s => .str (S2 s)
  | .lst xs => .list (toPyL xs)
  | .tup xs => .tuple (toPyL xs)
  | .dic _ _ _ _ => .none
  | .ins _ _ _ => .none
  | .raw _ => .none
  | .bag => .none
  | .clo _ => .none
def toPyL : List D → List PyData
  | [] => []
  | x :: xs => toPy x :: toPyL xs
end
mutual
def plainD : D → Bool
  | .non => true
  | .bl _ => true
  | .int _ => true
  | .str s => s.all (· < 0x110000)
  | .lst xs => plainL xs
  | .tup xs => plainL xs
  | .dic _ _ _ _ => false
  | .ins _ _ _ => false
  | .raw _ => false
  | .bag => false
  | .clo _ => false
def plainL : List D → Bool
  | [] => true
  | x :: xs => plainD x && plainL xs
end
mutual
def dep : D → Nat
  | .lst xs => depL xs + 1
  | .tup xs => depL xs + 1
  | _ => 0
def depL : List D → Nat
  | [] => 0
  | x :: xs => max (dep x) (depL xs)
end
theorem depL_le : ∀ {xs : List D} {n : Nat}, depL xs ≤ n ↔ ∀ x ∈ xs, dep x ≤ n
  | [], n => by simp [depL]
  | x :: xs, n => by simp [depL, Nat.max_le, depL_le (xs := xs)]
mutual
theorem toPy_lay : ∀ d : D, plainD d = true → (toPy d).canLay0 = true
  | .non, _ => rfl
  | .bl _, _ => rfl
  | .int _, _ => rfl
  | .str s, h => by
    simp only [toPy, PyData.canLay0, PyData.strOk]
    simpa [plainD] using h
  | .lst xs, h => by simp only [toPy, PyData.canLay0]; exact toPyL_lay xs (by simpa [plainD] using h)
  | .tup xs, h => by simp only [toPy, PyData.canLay0]; exact toPyL_lay xs (by simpa [plainD] using h)
  | .dic _ _ _ _, h => by simp [plainD] at h
  | .ins _ _ _, h => by simp [plainD] at h
  | .raw _, h => by simp [plainD] at h
  | .bag, h => by simp [plainD] at h
  | .clo _, h => by simp [plainD] at h
theorem toPyL_lay : ∀ d : List D, plainL d = true → PyData.canLayAll0 (toPyL d) = true
  | [], _ => rfl
  | x :: xs, h => by
    have h' : plainD x = true ∧ plainL xs = true := by simpa [plainL] using h
    simp only [toPyL, PyData.canLayAll0, toPy_lay x h'.1, toPyL_lay xs h'.2, Bool.and_self]
end
mutual
theorem toPy_dep : ∀ d : D, (toPy d).depth = dep d
  | .non => by simp [toPy, PyData.depth, dep]
  | .bl _ => by simp [toPy, PyData.depth, dep]
  | .int _ => by simp [toPy, PyData.depth, dep]
  | .str s => by simp [toPy, PyData.depth, dep]
  | .lst xs => by simp only [toPy, PyData.depth, dep, toPyL_dep xs]
  | .tup xs => by simp only [toPy, PyData.depth, dep, toPyL_dep xs]
  | .dic _ _ _ _ => by simp [toPy, PyData.depth, dep]
  | .ins _ _ _ => by simp [toPy, PyData.depth, dep]
  | .raw _ => by simp [toPy, PyData.depth, dep]
  | .bag => by simp [toPy, PyData.depth, dep]
  | .clo _ => by simp [toPy, PyData.depth, dep]
theorem toPyL_dep : ∀ d : List D, PyData.depthAll (toPyL d) = depL d
  | [] => by simp [toPyL, PyData.depthAll, depL]
  | x :: xs => by simp only [toPyL, PyData.depthAll, depL, toPy_dep x, toPyL_dep xs]
end
mutual
theorem Rp.dp {z : Bz} {M : MS} {H : Hp} {K : PySem.W.Frag} : ∀ {v : V} {d : D}, Rp z M H v d → plainD d = true → Dp K H v (toPy d)
  | _, _, .non, _ => .non
  | _, _, .bl b, _ => .bl b
  | _, _, .int b, _ => .int b
  | _, _, .str b, _ => .str _
  | _, _, .lst r n l, h => .lst (.of r) (l.dp (by simpa [plainD] using h))
  | _, _, .tup r n l, h => .tup (.of r) (l.dp (by simpa [plainD] using h))
  | _, _, .dicK r n l, h => by simp [plainD] at h
  | _, _, .dicT r n l, h => by simp [plainD] at h
  | _, _, .ins r q n l, h => by simp [plainD] at h
  | _, _, .slf r n l, h => by simp [plainD] at h
  | _, _, .raw v, h => by simp [plainD] at h
  | _, _, .bag e, h => by simp [plainD] at h
  | _, _, .clo e, h => by simp [plainD] at h
theorem RpL.dp {z : Bz} {M : MS} {H : Hp} {K : PySem.W.Frag} : ∀ {v : List V} {d : List D}, RpL z M H v d → plainL d = true → DpAll K H v (toPyL d)
  | _, _, .nil, _ => .nil
  | _, _, .cons a b, h => by
    simp [plainL] at h
    exact .cons (a.dp h.1) (b.dp h.2)
end
theorem Pk.dp {g : Gh} {H : Hp} {K : PySem.W.Frag} {v : V} {d : D} (h : Pk g H v d) (p : plainD d = true) : Dp K H v (toPy d) := by
  rcases h with h | ⟨a, rfl, _, _, o⟩
  · exact h.dp p
  · cases o with
    | lst r l => exact .lst (.of r) (l.dp (by simpa [plainD] using p))
    | dicK => simp [plainD] at p
    | dicT => simp [plainD] at p
    | ins => simp [plainD] at p
    | slf => simp [plainD] at p
def okD (d : D) : Bool := plainD d && decide (dep d ≤ 64)
theorem okD.shaped {d : D} (h : okD d = true) : SeqAt.shaped (toPy d) = true := by
  unfold okD at h
  simp at h
  unfold SeqAt.shaped
  rw [toPy_lay d h.1, toPy_dep d]
  simpa using h.2
theorem okD.plain {d : D} (h : okD d = true) : plainD d = true := by
  unfold okD at h
  simp at h
  exact h.1
def deqv (d e : D) : Bool := PyData.eqv (toPy d) (toPy e)
def deqvL (d e : List D) : Bool := PyData.eqvAll (toPyL d) (toPyL e)
section
variable {X : Cx} {pos : Pos} {a b c : Expr} {ta tb tc : TDE}
def rEqDD : RD2 := fun d e Q => okD d = true ∧ okD e = true ∧ Q (.bl (deqv d e))
def rNeDD : RD2 := fun d e Q => okD d = true ∧ okD e = true ∧ Q (.bl (!deqv d e))
theorem real_eq {K : PySem.W.Frag} : Real2 (rEqD K) rEqDD := fun g σ H x y d e Qd Q s hx hy w k => ⟨_, _, hx.dp (okD.plain w.1), hy.dp (okD.plain w.2.1), okD.shaped w.1, okD.shaped w.2.1, k.here s w.2.2 (.bl _)⟩
theorem real_ne {K : PySem.W.Frag} : Real2 (rNeD K) rNeDD := fun g σ H x y d e Qd Q s hx hy w k => ⟨_, _, hx.dp (okD.plain w.1), hy.dp (okD.plain w.2.1), okD.shaped w.1, okD.shaped w.2.1, k.here s w.2.2 (.bl _)⟩
theorem de_eq (hu : X.A.units + 64 < cLine) (ha : PE X a (lP ta)) (hb : PE X b (lP tb)) : PE X (.Compare a [.Eq] [b] pos) (lE (d2 rEqDD ta tb)) := de_cmp (op_eqD hu) real_eq ha hb
def rII (C : Int → Int → Prop) (f : Int → Int → D) : RD2
  | .int i, .int j, Q => C i j ∧ Q (f i j)
  | _, _, _ => False
theorem real_ii0 {f : Int → Int → Int} : Real2 (rI0 fun i j => .int (f i j)) (rII (fun _ _ => True) fun i j => .int (f i j)) := by
  intro g σ H x y d e Qd Q s hx hy w k
  cases d <;> cases e <;> try exact w.elim
  cases hx.int; cases hy.int
  exact ⟨_, _, rfl, rfl, k.here s w.2 (.int _)⟩
theorem de_sub (ha : PE X a (lP ta)) (hb : PE X b (lP tb)) : PE X (.BinOp a .Sub b pos) (lE (d2 (rII (fun _ _ => True) fun i j => .int (i - j)) ta tb)) := de_op op_sub real_ii0 ha hb
def repL {α : Type} (n : Int) (xs : List α) : List α := (List.replicate n.toNat xs).flatten
theorem repL_length {α : Type} (n : Int) (xs : List α) : (repL n xs).length = n.toNat * xs.length := by
  unfold repL
  simp [List.length_flatten, List.map_replicate, List.sum_replicate_nat]
def rStrMul : R2 := fun x y H Q => ∃ i n, x = .str i ∧ y = .int n ∧ 0 ≤ n ∧ n < 2 ^ 62 ∧ i.length * n.toNat ≤ sizeLine ∧ Q (.str ⟨((List.replicate n.toNat i.cps.toList).flatten).toArray⟩) H
theorem foldl_app (a : Array Nat) (l : List (Array Nat)) : (l.foldl (· ++ ·) a).toList = a.toList ++ (l.map (·.toList)).flatten := by
  induction l generalizing a with
  | nil => simp
  | cons x r ih => simp [ih]
theorem op_mul_str : OpR X (binaryOp .Mult) rStrMul := by
  intro pins s σ H x y v u Q I rx ry h
  obtain ⟨i, n, rfl, rfl, h0, h1, hz, q⟩ := h
  obtain ⟨t, rfl⟩ := rx
  obtain ⟨t', rfl⟩ := ry
  have hline : sizeLine = 16777216 := sizeLine_eq
  have q' : Q (.str (Txt.mul i n)) H := by
    have e : Txt.mul i n = ⟨((List.replicate n.toNat i.cps.toList).flatten).toArray⟩ := by
      unfold Txt.mul
      by_cases c1 : n < 1
      · rw [if_pos c1]
        have : n.toNat = 0 := by omega
        rw [this]; rfl
      · rw [if_neg c1]
        by_cases c2 : (n == 1 || i.length == 0) = true
        · rw [if_pos c2]
          rcases (Bool.or_eq_true _ _).mp c2 with c | c
          · have : n = 1 := by simpa using c
            subst this
            simp
          · have c' : i.cps.toList = [] := by
              have c0 : i.cps.size = 0 := by simpa [Str.length] using c
              exact List.eq_nil_of_length_eq_zero (by simpa using c0)
            have e2 : (List.replicate n.toNat i.cps.toList).flatten = [] := by rw [c']; simp
            rw [e2]
            have : i = S2 i.cps.toList := rfl
            rw [this, c']
        · rw [if_neg c2]
          congr 1
          apply Array.toList_inj.mp
          rw [foldl_app]
          simp
    rw [e]; exact q
  refine SB.mul ⟨?_, fun c1 c2 => ?_, fun c1 c2 => ?_⟩ fun t' k => ⟨.str _, H, I.tok _, ⟨_, rfl⟩, q'⟩
  · rw [decide_eq_false (by omega), decide_eq_false (by omega)]; rfl
  · have hn : 0 < n := by omega
    intro hgt
    have h3 : (2 ^ 63 - 1) / n < (i.length : Int) := hgt
    have h4 : (2 ^ 63 - 1 : Int) < i.length * n := by
      have := (Int.ediv_lt_iff_lt_mul hn).mp h3
      exact this
    have h5 : (i.length : Int) * n = ((i.length * n.toNat : Nat) : Int) := by
      rw [Int.natCast_mul, Int.toNat_of_nonneg h0]
    rw [h5] at h4
    rw [hline] at hz
    omega
  · exact decide_eq_false (by omega)
def rMulD : RD2
  | .int i, .int j, Q => CMul i j ∧ Q (.int (i * j))
  | .str x, .int n, Q => (0 ≤ n ∧ n < 2 ^ 62 ∧ x.length * n.toNat ≤ sizeLine) ∧ Q (.str (repL n x))
  | .lst x, .int n, Q => (0 ≤ n ∧ n < 2 ^ 62 ∧ x.length * n.toNat ≤ sizeLine) ∧ Q (.lst (repL n x))
  | _, _, _ => False
def opMul : R2 := fun x y H Q => (rI CMul fun i j => .int (i * j)) x y H Q ∨ (rStrMul x y H Q ∨ rRep x y H Q)
theorem op_mulAll : OpR X (binaryOp .Mult) opMul := OpR.or op_mul (OpR.or op_mul_str op_rep)
theorem real_mul : Real2 opMul rMulD := by
  intro g σ H x y d e Qd Q s hx hy w k
  cases d <;> cases e <;> try exact w.elim
  · cases hx.int; cases hy.int
    exact .inl ⟨_, _, rfl, rfl, w.1, k.here s w.2 (.int _)⟩
  · cases hx.str; cases hy.int
    exact .inr (.inl ⟨_, _, rfl, rfl, w.1.1, w.1.2.1, by rw [S2_length]; exact w.1.2.2, k.here s w.2 (.str _)⟩)
  · obtain ⟨p, xs, rfl, h1, l1⟩ := hx.lst
    cases hy.int
    exact .inr (.inr ⟨_, _, _, rfl, rfl, h1, by have := w.1.1; omega, by have := w.1.2.1; omega, by rw [l1.length]; exact w.1.2.2, fun p hp => k.F.lst s hp w.2 (l1.rep _)⟩)
theorem de_mul (ha : PE X a (lP ta)) (hb : PE X b (lP tb)) : PE X (.BinOp a .Mult b pos) (lE (d2 rMulD ta tb)) := de_op op_mulAll real_mul ha hb
def rMulF : RD2 := fun d e Q => match d, e with | .lst x, .int n => (0 ≤ n ∧ n < 2 ^ 62 ∧ x.length * n.toNat ≤ sizeLine) ∧ Q (.lst (repL n x)) | _, _ => False
theorem real_mulF : Real2F opMul rMulF := by
  intro g σ H x y d e Qd Q s hx hy w k
  cases d <;> cases e <;> try exact w.elim
  obtain ⟨p, xs, rfl, h1, l1⟩ := hx.lst
  cases hy.int
  exact .inr (.inr ⟨_, _, _, rfl, rfl, h1, by have := w.1.1; omega, by have := w.1.2.1; omega, by rw [l1.length]; exact w.1.2.2, fun p hp => k.lst s hp w.2 (l1.rep _)⟩)
theorem df_mul (ha : PE X a (lP ta)) (hb : PE X b (lP tb)) : PE X (.BinOp a .Mult b pos) (lF (d2 rMulF ta tb)) := df_op op_mulAll real_mulF ha hb
end
end L2.DL
namespace L2.DL
open PySem PySem.Spec PyProof.Rows
section
variable {X : Cx} {pos : Pos} {a b c : Expr} {ta tb tc : TDE}
def rOrdD (fi : Int → Int → Bool) (fs : List Nat → List Nat → Bool) : RD2
  | .int i, .int j, Q => Q (.bl (fi i j))
  | .str i, .str j, Q => Q (.bl (fs i j))
  | _, _, _ => False
def opOrd (fi : Int → Int → Bool) (fs : List Nat → List Nat → Bool) : R2 := fun x y H Q => (rI0 fun i j => .bl (fi i j)) x y H Q ∨ (∃ i j : Str, x = .str i ∧ y = .str j ∧ Q (.bl (fs i.cps.toList j.cps.toList)) H)
theorem real_ord {fi : Int → Int → Bool} {fs : List Nat → List Nat → Bool} : Real2 (opOrd fi fs) (rOrdD fi fs) := by
  intro g σ H x y d e Qd Q s hx hy w k
  cases d <;> cases e <;> try exact w.elim
  · cases hx.int; cases hy.int
    exact .inl ⟨_, _, rfl, rfl, k.here s w (.bl _)⟩
  · cases hx.str; cases hy.str
    exact .inr ⟨_, _, rfl, rfl, k.here s w (.bl _)⟩
abbrev rLt := rOrdD (fun i j => decide (i < j)) (fun i j => decide (i < j))
abbrev rLe := rOrdD (fun i j => decide (i ≤ j)) (fun i j => !decide (j < i))
abbrev rGe := rOrdD (fun i j => decide (j ≤ i)) (fun i j => !decide (i < j))
theorem op_ltA : OpR X (compareOp .Lt) (opOrd (fun i j => decide (i < j)) (fun i j => decide (i < j))) := OpR.or op_lt op_lt_str
theorem op_leA : OpR X (compareOp .LtE) (opOrd (fun i j => decide (i ≤ j)) (fun i j => !decide (j < i))) := OpR.or op_le op_le_str
theorem op_geA : OpR X (compareOp .GtE) (opOrd (fun i j => decide (j ≤ i)) (fun i j => !decide (i < j))) := OpR.or op_ge op_ge_str
theorem de_lt (ha : PE X a (lP ta)) (hb : PE X b (lP tb)) : PE X (.Compare a [.Lt] [b] pos) (lE (d2 rLt ta tb)) := de_cmp op_ltA real_ord ha hb
theorem de_le (ha : PE X a (lP ta)) (hb : PE X b (lP tb)) : PE X (.Compare a [.LtE] [b] pos) (lE (d2 rLe ta tb)) := de_cmp op_leA real_ord ha hb
/-- a < b < c -/
def d3 (R R' : RD2) (ta tb tc : TDE) : TDE := fun S Q => ta S fun x => tb S fun y => R x y fun z => ∃ k, z = .bl k ∧ if k = true then tc S fun w => R' y w Q else Q (.bl false)
theorem de_chain {op op' : CmpOp} {r r' : R2} {R R' : RD2} (ho : OpR X (compareOp op) r) (ho' : OpR X (compareOp op') r') (hr : Real2 r R) (hr' : Real2 r' R') (ha : PE X a (lP ta)) (hb : PE X b (lP tb)) (hc : PE X c (lP tc))
    (hm : lastMarks [op, op'] [b, c] = false := by with_unfolding_all rfl) : PE X (.Compare a [op, op'] [b, c] pos) (lE (d3 R R' ta tb tc)) := PE.imp (pe_chain ho ho' ha hb hc hm) fun σ H Q ⟨g, Qd, s, w, k⟩ =>
  ⟨g, _, s, w, fun d v H1 w1 x1 s1 r1 => ⟨g, _, s1, w1, fun d2 v2 H2 w2 x2 s2 r2 =>
    hr g σ H2 v v2 d d2 _ _ s2 (r1.ext x2) r2 w2 fun d' v' H3 q x3 s3 r3 => by
      obtain ⟨kk, e, q⟩ := q
      subst e
      cases r3
      refine ⟨kk, rfl, ?_⟩
      cases kk with
      | false => exact k (.bl false) _ H3 q ((x1.trans x2).trans x3) s3 (.bl false)
      | true =>
        exact ⟨g, _, s3, q, fun d4 v4 H4 w4 x4 s4 r4 => hr' g σ H4 v2 v4 d2 d4 Qd Q s4 ((r2.ext x3).ext x4) r4 w4 fun d' v' H' q x s' r => k d' v' H' q ((((x1.trans x2).trans x3).trans x4).trans x) s' r⟩⟩⟩
theorem de_lele (ha : PE X a (lP ta)) (hb : PE X b (lP tb)) (hc : PE X c (lP tc)) (hm : lastMarks [.LtE, .LtE] [b, c] = false := by with_unfolding_all rfl) : PE X (.Compare a [.LtE, .LtE] [b, c] pos) (lE (d3 rLe rLe ta tb tc)) := de_chain op_leA op_leA real_ord real_ord ha hb hc hm
def flatD : D → Bool
  | .non => true
  | .bl _ => true
  | .int _ => true
  | .str _ => true
  | _ => false
def inStr (x y : List Nat) : Bool := match x with
  | [c] => decide (c ∈ y)
  | _ => !(Builtin.Str.occurrences (S2 y) (S2 x) 0 y.length 1).isEmpty
def rInDD (f : Bool → Bool) : RD2 := fun x c Q => match c with
  | .str y => (match x with | .str x => Q (.bl (f (inStr x y))) | _ => False)
  | .lst ys => okD x = true ∧ okD (.lst ys) = true ∧ Q (.bl (f (ys.any fun z => deqv z x)))
  | .tup ys => flatD x = true ∧ ys.all flatD = true ∧ Q (.bl (f (ys.any fun z => deqv z x)))
  | _ => False
theorem flatD.V {g : Gh} {H : Hp} {v : V} {d : D} (h : Rp g.z g.M H v d) (f : flatD d = true) : flatV v = true ∧ ∀ v' d', Rp g.z g.M H v' d' → flatD d' = true → eqV v v' = deqv d d' := by
  cases h <;> (try (simp [flatD] at f; done))
  all_goals refine ⟨rfl, fun v' d' h' f' => ?_⟩
  all_goals (cases h' <;> (try (simp [flatD] at f'; done)))
  all_goals first | rfl | (simp [eqV, deqv, toPy, PyData.eqv])
theorem flatL.V {g : Gh} {H : Hp} {v : V} {d : D} (h : Rp g.z g.M H v d) (f : flatD d = true) : ∀ {vs : List V} {ds : List D}, RpL g.z g.M H vs ds → ds.all flatD = true → vs.all flatV = true ∧ (vs.any fun y => eqV y v) = ds.any fun z => deqv z d
  | _, _, .nil, _ => ⟨rfl, rfl⟩
  | _, _, .cons a b, hf => by
    simp only [List.all_cons, Bool.and_eq_true] at hf
    obtain ⟨i1, i2⟩ := flatL.V h f b hf.2
    obtain ⟨j1, j2⟩ := flatD.V a hf.1
    exact ⟨by simp [j1, i1], by rw [List.any_cons, List.any_cons, i2, j2 _ _ h f]⟩
theorem toPyL_any (d : D) : ∀ ds : List D, ((toPyL ds).any fun z => PyData.eqv z (toPy d)) = ds.any fun z => deqv z d
  | [] => by simp [toPyL]
  | x :: xs => by simp [toPyL, toPyL_any d xs, deqv]
def opIn (K : PySem.W.Frag) (f : Bool → Bool) : R2 := fun x y H Q => ((∃ (c : Nat) (z : Str), x = .str ⟨#[c]⟩ ∧ y = .str z ∧ Q (.bl (f (decide (c ∈ z.cps.toList)))) H) ∨
   (∃ i j, x = .str i ∧ y = .str j ∧ Q (.bl (f (!(Builtin.Str.occurrences j i 0 j.length 1).isEmpty))) H)) ∨
   ((∃ d ds, Dp K H x d ∧ Dp K H y (.list ds) ∧ SeqAt.shaped d = true ∧ SeqAt.shaped (.list ds) = true ∧ Q (.bl (f (ds.any fun z => PyData.eqv z d))) H) ∨
   ∃ p xs, y = .ref p ∧ (SqL K H p xs ∨ SqT K H p xs) ∧ flatV x = true ∧ xs.all flatV = true ∧ Q (.bl (f (inV x xs))) H)
theorem op_inA (hu : X.A.units + 65 < cLine) : OpR X (compareOp .In) (opIn X.K id) := OpR.or (OpR.or op_in_sign op_in_str) (OpR.or (op_inD hu) op_in_seq)
theorem op_notInA (hu : X.A.units + 65 < cLine) : OpR X (compareOp .NotIn) (opIn X.K not) := OpR.or (OpR.or op_notIn_sign op_notin_str) (OpR.or (op_notInD hu) op_notIn_seq)
theorem Pk.flat {g : Gh} {H : Hp} {v : V} {d : D} (h : Pk g H v d) (f : flatD d = true) : Rp g.z g.M H v d := by
  rcases h with h | ⟨a, _, _, _, o⟩
  · exact h
  · cases o <;> simp [flatD] at f
theorem real_in {K : PySem.W.Frag} {f : Bool → Bool} : Real2 (opIn K f) (rInDD f) := by
  intro g σ H x y d e Qd Q s hx hy w k
  have tup : ∀ ys, e = .tup ys → flatD d = true ∧ ys.all flatD = true ∧ Qd (.bl (f (ys.any fun z => deqv z d))) → opIn K f x y H Q := fun ys h w' => by
    subst h
    obtain ⟨p, xs, rfl, h1, l1⟩ := hy.tup
    obtain ⟨i1, i2⟩ := flatL.V (hx.flat w'.1) w'.1 l1 w'.2.1
    obtain ⟨j1, _⟩ := flatD.V (hx.flat w'.1) w'.1
    refine .inr (.inr ⟨_, _, rfl, .inr (.of h1), j1, i1, ?_⟩)
    unfold inV
    rw [i2]
    exact k.here s w'.2.2 (.bl _)
  have lst : ∀ ys, e = .lst ys → okD d = true ∧ okD (.lst ys) = true ∧ Qd (.bl (f (ys.any fun z => deqv z d))) → opIn K f x y H Q := fun ys h w' => by
    subst h
    refine .inr (.inl ⟨_, toPyL ys, hx.dp (okD.plain w'.1), hy.dp (okD.plain w'.2.1), okD.shaped w'.1, okD.shaped w'.2.1, ?_⟩)
    rw [toPyL_any]
    exact k.here s w'.2.2 (.bl _)
  cases e with
  | lst ys => exact lst ys rfl w
  | tup ys => exact tup ys rfl w
  | str z =>
    cases d <;> try exact w.elim
    rename_i z0
    cases hx.str; cases hy.str
    match z0, w with
    | [c], w => exact .inl (.inl ⟨c, S2 z, rfl, rfl, k.here s w (.bl _)⟩)
    | [], w =>
      refine .inl (.inr ⟨_, _, rfl, rfl, k.here s (d := .bl _) w ?_⟩)
      simp only [inStr, S2_length]
      exact .bl _
    | c :: c' :: r, w =>
      refine .inl (.inr ⟨_, _, rfl, rfl, k.here s (d := .bl _) w ?_⟩)
      simp only [inStr, S2_length]
      exact .bl _
  | _ => exact w.elim
theorem de_in (hu : X.A.units + 65 < cLine) (ha : PE X a (lP ta)) (hb : PE X b (lP tb)) (hm : behindInMarks .In b = false := by rfl) : PE X (.Compare a [.In] [b] pos) (lE (d2 (rInDD id) ta tb)) := de_cmp (op_inA hu) real_in ha hb hm
def isNon : D → Bool
  | .non => true
  | _ => false
def knownD : D → Bool
  | .raw _ => false
  | _ => true
def d1 (R : D → (D → Prop) → Prop) (ta : TDE) : TDE := fun S Q => ta S fun x => R x Q
theorem Pk.nonIff {g : Gh} {H : Hp} {v : V} {d : D} (h : Pk g H v d) (hk : knownD d = true) : decide (v = .non) = isNon d := by
  rcases h with h | ⟨a, rfl, _, _, o⟩
  · cases h <;> first | (simp [knownD] at hk; done) | rfl | (simp [isNon]; done)
  · cases o <;> simp [isNon]
theorem de_isN {j pos'} (ha : PE X a (lP ta)) : PE X (.Compare a [.Is] [.Constant .none j pos'] pos) (lE (d1 (fun d Q => knownD d = true ∧ Q (.bl (isNon d))) ta)) := PE.imp (pe_cmp (pc_isN ha)) fun σ H Q ⟨g, Qd, s, w, k⟩ =>
  ⟨g, _, s, w, fun d v H1 w1 x1 s1 r1 => by
    show Q (.bl _) H1
    rw [r1.nonIff w1.1]
    exact k _ _ H1 w1.2 x1 s1 (.bl _)⟩
variable {rest : List Expr}
def dAnd (ta tb : TDE) : TDE := fun S Q => ta S fun x => ∃ k, x = .bl k ∧ if k = true then tb S Q else Q (.bl false)
def dOr (ta tb : TDE) : TDE := fun S Q => ta S fun x => ∃ k, x = .bl k ∧ if k = true then Q (.bl true) else tb S Q
def dNot (ta : TDE) : TDE := fun S Q => ta S fun x => ∃ k, x = .bl k ∧ Q (.bl (!k))
theorem de_and (ha : PE X a (lP ta)) (hb : PE X (.BoolOp .And (b :: rest) pos) (lE tb)) : PE X (.BoolOp .And (a :: b :: rest) pos) (lE (dAnd ta tb)) := PE.imp (pe_and ha hb) fun σ H Q ⟨g, Qd, s, w, k⟩ =>
  ⟨g, _, s, w, fun d v H1 w1 x1 s1 r1 => by
    obtain ⟨kk, e, q⟩ := w1
    subst e
    cases r1.bl
    refine ⟨kk, rfl, ?_⟩
    cases kk with
    | false => exact k (.bl false) _ H1 q x1 s1 (.bl false)
    | true => exact ⟨g, _, s1, q, fun d' v' H' q x s' r => k d' v' H' q (x1.trans x) s' r⟩⟩
theorem de_one {op} (ha : PE X a (lE ta)) : PE X (.BoolOp op [a] pos) (lE ta) := pe_one ha
theorem de_not (ha : PE X a (lP ta)) : PE X (.UnaryOp .Not a pos) (lE (dNot ta)) := PE.imp (pe_not ha) fun σ H Q ⟨g, Qd, s, w, k⟩ =>
  ⟨g, _, s, w, fun d v H1 w1 x1 s1 r1 => by
    obtain ⟨kk, e, q⟩ := w1
    subst e
    cases r1.bl
    exact ⟨kk, rfl, k (.bl (!kk)) _ H1 q x1 s1 (.bl _)⟩⟩
/-- tests -/
def truD : D → (Bool → Prop) → Prop
  | .non, Q => Q false
  | .bl b, Q => Q b
  | .int i, Q => Q (i != 0)
  | .str x, Q => x.length ≤ sizeLine ∧ Q (!x.isEmpty)
  | .lst x, Q => Q (!x.isEmpty)
  | .tup x, Q => Q (!x.isEmpty)
  | _, _ => False
def dTest (ta : TDE) : TDT := fun S Q => ta S fun x => truD x Q
theorem isEmpty_len {α β : Type} {x : List α} {y : List β} (h : x.length = y.length) : (!x.isEmpty) = !y.isEmpty := by cases x <;> cases y <;> simp_all
theorem truD.V {g : Gh} {H : Hp} {v : V} {d : D} {K : PySem.W.Frag} {Qd : Bool → Prop} (h : Pk g H v d) (w : truD d Qd) : ∃ k, TruV K v H k ∧ Qd k := by
  cases d <;> try exact w.elim
  · cases h.non; exact ⟨_, rfl, w⟩
  · cases h.bl; exact ⟨_, rfl, w⟩
  · cases h.int; exact ⟨_, rfl, w⟩
  · rename_i x
    cases h.str
    refine ⟨_, ⟨by rw [S2_length]; exact w.1, rfl⟩, ?_⟩
    rw [S2_length]
    have e : (((x.length : Nat) : Int) != 0) = !x.isEmpty := by
      cases x with
      | nil => rfl
      | cons y r =>
        have : ((((y :: r).length : Nat) : Int) != 0) = true := bne_iff_ne.mpr (by rw [List.length_cons]; omega)
        rw [this]; rfl
    rw [e]
    exact w.2
  · obtain ⟨p, xs, rfl, h1, l1⟩ := h.lst
    exact ⟨_, .inl ⟨_, .of h1, rfl⟩, by rw [isEmpty_len l1.length]; exact w⟩
  · obtain ⟨p, xs, rfl, h1, l1⟩ := h.tup
    exact ⟨_, .inr (.inl ⟨_, .of h1, rfl⟩), by rw [isEmpty_len l1.length]; exact w⟩
theorem dt_val (ha : PE X a (lP ta)) (he : ∀ whole, isTrue a X.env whole = (do let v ← whole; standAt a.pos; holding [v] (truthy v)) := by intro _; rfl) : PT X a (lT (dTest ta)) := PT.imp (pt_truth ha he) fun σ H Q ⟨g, Qd, s, w, k⟩ =>
  ⟨g, _, s, w, fun d v H1 w1 x1 s1 r1 => by
    obtain ⟨kk, t, q⟩ := truD.V r1 w1
    exact ⟨kk, t, k _ H1 q x1 s1⟩⟩
end
end L2.DL
namespace L2.DL
open PySem PySem.Spec PyProof.Rows
section
variable {X : Cx} {pos : Pos} {a b c : Expr} {ta tb tc : TDE} {tt tu : TDT} {rest : List Expr} {es : List Expr}
def dtAnd (t u : TDT) : TDT := fun S Q => t S fun k => if k = true then u S Q else Q false
def dtOr (t u : TDT) : TDT := fun S Q => t S fun k => if k = true then Q true else u S Q
def dtNot (t : TDT) : TDT := fun S Q => t S fun k => Q (!k)
theorem dt_and1 (ha : PT X a (lT tt)) : PW X (.BoolOp .And [a] pos) (lT tt) := pw_and1 ha
theorem dt_or1 (ha : PT X a (lT tt)) : PW X (.BoolOp .Or [a] pos) (lT tt) := pw_or1 ha
theorem dt_and (ha : PT X a (lT tt)) (hb : PW X (.BoolOp .And (b :: rest) pos) (lT tu)) : PW X (.BoolOp .And (a :: b :: rest) pos) (lT (dtAnd tt tu)) := PW.imp (pw_and ha hb) fun σ H Q ⟨g, Qd, s, w, k⟩ =>
  ⟨g, _, s, w, fun kk H1 w1 x1 s1 => by
    cases kk with
    | false => exact k false H1 w1 x1 s1
    | true => exact ⟨g, _, s1, w1, fun d' H' q x s' => k d' H' q (x1.trans x) s'⟩⟩
theorem dt_or (ha : PT X a (lT tt)) (hb : PW X (.BoolOp .Or (b :: rest) pos) (lT tu)) : PW X (.BoolOp .Or (a :: b :: rest) pos) (lT (dtOr tt tu)) := PW.imp (pw_or ha hb) fun σ H Q ⟨g, Qd, s, w, k⟩ =>
  ⟨g, _, s, w, fun kk H1 w1 x1 s1 => by
    cases kk with
    | true => exact k true H1 w1 x1 s1
    | false => exact ⟨g, _, s1, w1, fun d' H' q x s' => k d' H' q (x1.trans x) s'⟩⟩
theorem dt_not (ha : PT X a (lT tt)) : PT X (.UnaryOp .Not a pos) (lT (dtNot tt)) := PT.imp (pt_not ha) fun σ H Q ⟨g, Qd, s, w, k⟩ => ⟨g, _, s, w, fun kk H1 w1 x1 s1 => k _ H1 w1 x1 s1⟩
def dIf (t : TDT) (ta tb : TDE) : TDE := fun S Q => t S fun k => if k = true then ta S Q else tb S Q
theorem de_if (hc : PT X c (lT tt)) (ha : PE X a (lE ta)) (hb : PE X b (lE tb)) : PE X (.IfExp c a b pos) (lE (dIf tt ta tb)) := PE.imp (pe_ifExp hc ha hb) fun σ H Q ⟨g, Qd, s, w, k⟩ =>
  ⟨g, _, s, w, fun kk H1 w1 x1 s1 => by
    cases kk with
    | true => exact ⟨g, _, s1, w1, fun d' v' H' q x s' r => k d' v' H' q (x1.trans x) s' r⟩
    | false => exact ⟨g, _, s1, w1, fun d' v' H' q x s' r => k d' v' H' q (x1.trans x) s' r⟩⟩
theorem Ext.none_of {z : Bz} {H H' : Hp} {a : Addr} (x : Ext z H H') (n : H' a = none) (m : ¬ isB z a) : H a = none := by
  cases e0 : H a with
  | none => rfl
  | some o => rw [x a o e0 m] at n; cases n
inductive PkL (g : Gh) (H : Hp) : List V → List D → Prop
  | nil : PkL g H [] []
  | cons {v : V} {vs : List V} {d : D} {ds : List D} : Pk g H v d → PkL g H vs ds → PkL g H (v :: vs) (d :: ds)
def lAP (t : TDA) : TA := fun σ H Q => ∃ (g : Gh) (Qd : List D → Prop), Stt g σ H ∧ t g.S Qd ∧ ∀ ds vs H', Qd ds → Ext g.z H H' → Stt g σ H' → PkL g H' vs ds → Q vs H'
def daNil : TDA := fun _ Q => Q []
def daCons (te : TDE) (t : TDA) : TDA := fun S Q => te S fun d => t S fun ds => Q (d :: ds)
variable {e : Expr} {te : TDE} {ts : TDA}
theorem da_nil : PA X [] (lA daNil) := PA.imp pa_nil fun σ H Q ⟨g, Qd, s, w, k⟩ => k [] [] H w .refl s .nil
theorem da_cons (he : PE X e (lE te)) (hr : PA X es (lA ts)) (hs : starEach (e :: es) X.env = (false, eval e X.env) :: starEach es X.env := by rfl) : PA X (e :: es) (lA (daCons te ts)) := PA.imp (pa_cons he hr hs) fun σ H Q ⟨g, Qd, s, w, k⟩ =>
  ⟨g, _, s, w, fun d v H1 w1 x1 s1 r1 => ⟨g, _, s1, w1, fun ds vs H2 w2 x2 s2 r2 => k _ _ H2 w2 (x1.trans x2) s2 (.cons (r1.ext x2) r2)⟩⟩
theorem dap_nil : PA X [] (lAP daNil) := PA.imp pa_nil fun σ H Q ⟨g, Qd, s, w, k⟩ => k [] [] H w .refl s .nil
theorem dap_cons (he : PE X e (lP te)) (hr : PA X es (lAP ts)) (hs : starEach (e :: es) X.env = (false, eval e X.env) :: starEach es X.env := by rfl) : PA X (e :: es) (lAP (daCons te ts)) := PA.imp (pa_cons he hr hs) fun σ H Q ⟨g, Qd, s, w, k⟩ =>
  ⟨g, _, s, w, fun d v H1 w1 x1 s1 r1 => ⟨g, _, s1, w1, fun ds vs H2 w2 x2 s2 r2 => k _ _ H2 w2 (x1.trans x2) s2 (.cons (r1.ext x2) r2)⟩⟩
def dLst (t : TDA) : TDE := fun S Q => t S fun ds => ds.length ≤ sizeLine ∧ Q (.lst ds)
def dTup (t : TDA) : TDE := fun S Q => t S fun ds => ds.length ≤ sizeLine ∧ Q (.tup ds)
theorem df_lst (h : PA X es (lA ts)) : PE X (.List es pos) (lF (dLst ts)) := PE.imp (pe_lst h) fun σ H Q ⟨g, Qd, s, w, k⟩ =>
  ⟨g, _, s, w, fun ds vs H1 w1 x1 s1 r1 => ⟨by rw [r1.length]; exact w1.1, fun p hp => k (.lst ds) p _ w1.2 (x1.trans (.new hp)) (s1.alloc hp) (x1.none_of hp fun h => s1.fresh hp (res_M h.res)) (s1.fresh hp) (.lst upd_same (r1.tr (.new hp)))⟩⟩
theorem de_tup {x1} (h : PA X es (lA ts)) : PE X (.Tuple es x1 pos) (lE (dTup ts)) := PE.imp (pe_tup h) fun σ H Q ⟨g, Qd, s, w, k⟩ =>
  ⟨g, _, s, w, fun ds vs H1 w1 x1 s1 r1 => ⟨by rw [r1.length]; exact w1.1, fun p hp => k (.tup ds) _ _ w1.2 (x1.trans (.new hp)) (s1.alloc hp) (.tup upd_same (s1.fresh hp) (r1.ext (.new hp)))⟩⟩
def rIxD : RD2
  | .lst xs, .int i, Q => ∃ d, atI xs i = some d ∧ Q d
  | .tup xs, .int i, Q => ∃ d, atI xs i = some d ∧ Q d
  | .str xs, .int i, Q => xs.length ≤ sizeLine ∧ ∃ c, atI xs i = some c ∧ Q (.str [c])
  | _, _, _ => False
def opIx (K : PySem.W.Frag) : R2 := fun x y H Q => rIxL K x y H Q ∨ (rIxT K x y H Q ∨ rIxS x y H Q)
theorem IxR.or {r r' : R2} (h : IxR X r) (h' : IxR X r') : IxR X (fun x y H Q => r x y H Q ∨ r' x y H Q) := by
  intro value slice pins s σ H x y v u Q I rx ry w hs
  rcases w with w | w
  · exact h value slice pins s σ H x y v u Q I rx ry w hs
  · exact h' value slice pins s σ H x y v u Q I rx ry w hs
theorem ix_all : IxR X (opIx X.K) := IxR.or ix_list (IxR.or ix_tup ix_str)
theorem real_ix {K : PySem.W.Frag} : Real2 (opIx K) rIxD := by
  intro g σ H x y d e Qd Q s hx hy w k
  cases d <;> cases e <;> try exact w.elim
  · cases hx.str; cases hy.int
    obtain ⟨w0, c, e1, q⟩ := w
    exact .inr (.inr ⟨_, _, c, rfl, rfl, by rw [S2_length]; exact w0, e1, k.here s q (.str [c])⟩)
  · obtain ⟨p, xs, rfl, h1, l1⟩ := hx.lst
    cases hy.int
    obtain ⟨d, e1, q⟩ := w
    obtain ⟨v, e2, r⟩ := l1.atI e1
    exact .inl ⟨p, xs, _, v, rfl, rfl, .of h1, e2, k.here s q r⟩
  · obtain ⟨p, xs, rfl, h1, l1⟩ := hx.tup
    cases hy.int
    obtain ⟨d, e1, q⟩ := w
    obtain ⟨v, e2, r⟩ := l1.atI e1
    exact .inr (.inl ⟨p, xs, _, v, rfl, rfl, .of h1, e2, k.here s q r⟩)
theorem de_item (ha : PE X a (lP ta)) (hb : PE X b (lP tb)) (hs : PlainIx b := by exact fun _ _ => rfl) : PE X (.Subscript a b pos) (lE (d2 rIxD ta tb)) := de_ix ix_all real_ix ha hb hs
abbrev TDO := SS → (Option Int → Prop) → Prop
def lO (t : TDO) : TO := fun σ H Q => ∃ (g : Gh) (Qd : Option Int → Prop), Stt g σ H ∧ t g.S Qd ∧ ∀ o H', Qd o → Ext g.z H H' → Stt g σ H' → Q o H'
theorem PO.imp {e : Option Expr} {t t' : TO} (h : PO X e t) (i : ∀ σ H Q, t' σ H Q → t σ H Q) : PO X e t' := ⟨fun pins s σ H Q I w => h.run pins s σ H Q I (i _ _ _ w)⟩
def doNone : TDO := fun _ Q => Q none
def doSome (t : TDE) : TDO := fun S Q => t S fun d => ∃ i, d = .int i ∧ Q (some i)
theorem do_none : PO X none (lO doNone) := PO.imp po_none fun σ H Q ⟨g, Qd, s, w, k⟩ => k none H w .refl s
theorem do_some (h : PE X e (lP te)) : PO X (some e) (lO (doSome te)) := PO.imp (po_some h) fun σ H Q ⟨g, Qd, s, w, k⟩ =>
  ⟨g, _, s, w, fun d v H1 w1 x1 s1 r1 => by
    obtain ⟨i, rfl, q⟩ := w1
    cases r1.int
    exact ⟨i, rfl, k _ H1 q x1 s1⟩⟩
def rSlD (d : D) (lo hi : Option Int) (Q : D → Prop) : Prop := match d with
  | .str x => x.length ≤ sizeLine ∧ Q (.str (cut x lo hi))
  | .lst x => Q (.lst (cut x lo hi))
  | .tup x => ¬ (HT.sIx x.length 0 lo = 0 ∧ HT.sIx x.length x.length hi = x.length) ∧ Q (.tup (cut x lo hi))
  | _ => False
def opSl (K : PySem.W.Frag) : V → Option Int → Option Int → Hp → VK → Prop := fun x lo hi H Q => rSlL K x lo hi H Q ∨ (rSlT K x lo hi H Q ∨ rSlS x lo hi H Q)
theorem sl_all : SlR X (opSl X.K) := SlR.or sl_list (SlR.or sl_tup sl_str)
theorem cutS_S2 (x : List Nat) (lo hi : Option Int) : cutS (S2 x) lo hi = S2 (cut x lo hi) := by
  unfold cutS cut
  rw [S2_length]
def dSl (te : TDE) (tl th : TDO) : TDE := fun S Q => te S fun x => tl S fun l => th S fun h => rSlD x l h Q
theorem real_sl {K : PySem.W.Frag} {g : Gh} {σ : St} {H : Hp} {x : V} {d : D} {lo hi : Option Int} {Qd : D → Prop} {Q : VK} (s : Stt g σ H) (hx : Pk g H x d) (w : rSlD d lo hi Qd) (k : RetE g σ H Qd Q) : opSl K x lo hi H Q := by
  cases d <;> try exact w.elim
  · cases hx.str
    exact .inr (.inr ⟨_, rfl, by rw [S2_length]; exact w.1, by rw [cutS_S2]; exact k.here s w.2 (.str _)⟩)
  · obtain ⟨p, xs, rfl, h1, l1⟩ := hx.lst
    exact .inl ⟨p, xs, rfl, .of h1, fun p hp => k.F.lst s hp w (l1.cut lo hi)⟩
  · obtain ⟨p, xs, rfl, h1, l1⟩ := hx.tup
    exact .inr (.inl ⟨p, xs, rfl, .of h1, by rw [l1.length]; exact w.1, fun p hp => k.tup s hp w.2 (l1.cut lo hi)⟩)
theorem de_slice {lo hi : Option Expr} {tl th : TDO} {p2 : Pos} (he : PE X e (lP te)) (hl : PO X lo (lO tl)) (hu : PO X hi (lO th)) : PE X (.Subscript e (.Slice lo hi none p2) pos) (lE (dSl te tl th)) := PE.imp (pe_slice sl_all he hl hu) fun σ H Q ⟨g, Qd, s, w, k⟩ =>
  ⟨g, _, s, w, fun d v H1 w1 x1 s1 r1 => ⟨g, _, s1, w1, fun l H2 w2 x2 s2 => ⟨g, _, s2, w2, fun u H3 w3 x3 s3 =>
    real_sl s3 ((r1.ext x2).ext x3) w3 fun d' v' H' q x s' r => k d' v' H' q (((x1.trans x2).trans x3).trans x) s' r⟩⟩⟩
def dSlF (te : TDE) (tl th : TDO) : TDE := fun S Q => te S fun x => tl S fun l => th S fun h => ∃ xs, x = .lst xs ∧ Q (.lst (cut xs l h))
abbrev RDC := List D → (D → Prop) → Prop
def RealC (r : List V → Hp → VK → Prop) (R : RDC) : Prop := ∀ (g : Gh) (σ : St) (H : Hp) (xs : List V) (ds : List D) (Qd : D → Prop) (Q : VK), Stt g σ H → PkL g H xs ds → R ds Qd → RetE g σ H Qd Q → r xs H Q
def RealCF (r : List V → Hp → VK → Prop) (R : RDC) : Prop := ∀ (g : Gh) (σ : St) (H : Hp) (xs : List V) (ds : List D) (Qd : D → Prop) (Q : VK), Stt g σ H → PkL g H xs ds → R ds Qd → RetF g σ H Qd Q → r xs H Q
def dCall (R : RDC) (ts : TDA) : TDE := fun S Q => ts S fun ds => R ds Q
theorem liftC {r : List V → Hp → VK → Prop} {R : RDC} (hr : RealC r R) (h : PE X e (tCB r (lAP ts))) : PE X e (lE (dCall R ts)) := PE.imp h fun σ H Q ⟨g, Qd, s, w, k⟩ =>
  ⟨g, _, s, w, fun ds vs H1 w1 x1 s1 r1 => hr g σ H1 vs ds Qd Q s1 r1 w1 fun d' v' H' q x s' r => k d' v' H' q (x1.trans x) s' r⟩
theorem liftCF {r : List V → Hp → VK → Prop} {R : RDC} (hr : RealCF r R) (h : PE X e (tCB r (lAP ts))) : PE X e (lF (dCall R ts)) := PE.imp h fun σ H Q ⟨g, Qd, s, w, k⟩ =>
  ⟨g, _, s, w, fun ds vs H1 w1 x1 s1 r1 => hr g σ H1 vs ds Qd Q s1 r1 w1 fun d' v' H' q x s' n m r => k d' v' H' q (x1.trans x) s' (x1.none_of n fun h => m (res_M h.res)) m r⟩
theorem CallR.or {f : Value} {r r' : List V → Hp → VK → Prop} (h : CallR X f r) (h' : CallR X f r') : CallR X f (fun x H Q => r x H Q ∨ r' x H Q) := by
  intro pins s σ H xs us Q I rv w
  rcases w with w | w
  · exact h pins s σ H xs us Q I rv w
  · exact h' pins s σ H xs us Q I rv w
end
end L2.DL
namespace L2.DL
open PySem PySem.Spec PyProof.Rows
section
variable {X : Cx} {pos p : Pos} {a b c : Expr} {ta tb tc : TDE} {es : List Expr} {e : Expr} {te : TDE} {ts : TDA} {x : Str}
theorem PkL.one {g : Gh} {H : Hp} {vs : List V} {d : D} (h : PkL g H vs [d]) : ∃ v, vs = [v] ∧ Pk g H v d := by
  cases h with | cons a b => cases b; exact ⟨_, rfl, a⟩
theorem PkL.two {g : Gh} {H : Hp} {vs : List V} {d d' : D} (h : PkL g H vs [d, d']) : ∃ v v', vs = [v, v'] ∧ Pk g H v d ∧ Pk g H v' d' := by
  cases h with | cons a b => cases b with | cons b c => cases c; exact ⟨_, _, rfl, a, b⟩
/-- a built-in function, a built-in class, called by its name -/
theorem de_callB {id : String} {r : List V → Hp → VK → Prop} {R : RDC} (hc : CallR X (.builtin id) r) (hr : RealC r R) (hg : Gl X x) (hm : X.mg x = none) (hv : bootBuiltins x = some (.builtin id)) (ha : PA X (e :: es) (lAP ts)) (hn : x ≠ "__name__" := by decide) (hdb : (x == ("__debug__" : Str)) = false := by decide)
    (he : starEach (e :: es) X.env = (false, eval e X.env) :: starEach es X.env := by rfl) (hpl : (backTo pos (starEach es X.env)).any (·.1) = false := by rfl) : PE X (.Call (.Name x p) (e :: es) [] pos) (lE (dCall R ts)) := liftC hr (pe_callB hc hg hm hv ha hn hdb he hpl)
theorem df_callTy {T : String} {r : List V → Hp → VK → Prop} {R : RDC} (hc : CallR X (.type T) r) (hr : RealCF r R) (hg : Gl X x) (hm : X.mg x = none) (hv : bootBuiltins x = some (.type T)) (ha : PA X (e :: es) (lAP ts)) (hn : x ≠ "__name__" := by decide) (hdb : (x == ("__debug__" : Str)) = false := by decide)
    (he : starEach (e :: es) X.env = (false, eval e X.env) :: starEach es X.env := by rfl) (hpl : (backTo pos (starEach es X.env)).any (·.1) = false := by rfl) : PE X (.Call (.Name x p) (e :: es) [] pos) (lF (dCall R ts)) := liftCF hr (pe_callTy hc hg hm hv ha hn hdb he hpl)
def rLenD : RDC
  | [.str x], Q => x.length ≤ sizeLine ∧ Q (.int x.length)
  | [.lst x], Q => Q (.int x.length)
  | [.tup x], Q => Q (.int x.length)
  | _, _ => False
theorem real_len {K : PySem.W.Frag} : RealC (fun xs H Q => ∃ x n, xs = [x] ∧ LenV K x H n ∧ Q (.int n) H) rLenD := by
  intro g σ H xs ds Qd Q s hx w k
  match ds, w, hx with
  | [.str x], w, hx =>
    obtain ⟨v, rfl, h⟩ := hx.one
    cases h.str
    refine ⟨_, (S2 x).length, rfl, ⟨by rw [S2_length]; exact w.1, rfl⟩, ?_⟩
    rw [S2_length]
    exact k.here s w.2 (.int _)
  | [.lst x], w, hx =>
    obtain ⟨v, rfl, h⟩ := hx.one
    obtain ⟨p, xs, rfl, h1, l1⟩ := h.lst
    exact ⟨_, _, rfl, .inl ⟨_, .of h1, rfl⟩, by rw [l1.length]; exact k.here s w (.int _)⟩
  | [.tup x], w, hx =>
    obtain ⟨v, rfl, h⟩ := hx.one
    obtain ⟨p, xs, rfl, h1, l1⟩ := h.tup
    exact ⟨_, _, rfl, .inr ⟨_, .of h1, rfl⟩, by rw [l1.length]; exact k.here s w (.int _)⟩
theorem de_len (hm : X.mg "len" = none) (ha : PA X [e] (lAP ts)) (hg : Gl X "len" := by rfl) (he : starEach [e] X.env = (false, eval e X.env) :: starEach [] X.env := by rfl) : PE X (.Call (.Name "len" p) [e] [] pos) (lE (dCall rLenD ts)) := de_callB call_len real_len hg hm PySem.boot_len ha (he := he) (hpl := by rfl)
def rIntD : RDC
  | [.int i], Q => Q (.int i)
  | [.bl b], Q => Q (.int (if b then 1 else 0))
  | [.str s], Q => ∃ n, PySem.intText? (S2 s) = some n ∧ s.length ≤ 640 ∧ Q (.int n)
  | _, _ => False
def rMM (f : Int → Int → Int) : RDC
  | [.int i, .int j], Q => Q (.int (f i j))
  | _, _ => False
theorem real_mm {f : Int → Int → Int} : RealC (fun xs H Q => ∃ i j, xs = [.int i, .int j] ∧ Q (.int (f i j)) H) (rMM f) := by
  intro g σ H xs ds Qd Q s hx w k
  match ds, w, hx with
  | [.int i, .int j], w, hx =>
    obtain ⟨v, v', rfl, h, h'⟩ := hx.two
    cases h.int; cases h'.int
    exact ⟨_, _, rfl, k.here s w (.int _)⟩
theorem de_min2 (hm : X.mg "min" = none) (ha : PA X [a, b] (lAP ts)) (hc : X.calm = true := by rfl) (hg : Gl X "min" := by rfl) (he : starEach [a, b] X.env = (false, eval a X.env) :: starEach [b] X.env := by rfl) (hpl : (backTo pos (starEach [b] X.env)).any (·.1) = false := by rfl) : PE X (.Call (.Name "min" p) [a, b] [] pos) (lE (dCall (rMM fun i j => if j < i then j else i) ts)) := de_callB (call_min2 hc) real_mm hg hm (by decide +kernel) ha (he := he) (hpl := hpl)
def bools : List D → Option (List Bool)
  | [] => some []
  | .bl b :: r => (bools r).map (b :: ·)
  | _ :: _ => none
theorem bools_eq : ∀ {ds : List D} {bs : List Bool}, bools ds = some bs → ds = bs.map D.bl
  | [], bs, h => by simp [bools] at h; subst h; rfl
  | .bl b :: r, bs, h => by
    simp [bools] at h
    obtain ⟨c, h1, h2⟩ := h
    subst h2
    rw [bools_eq h1]; rfl
theorem bools_map (bs : List Bool) : bools (bs.map D.bl) = some bs := by
  induction bs with
  | nil => rfl
  | cons b r ih => simp [bools, ih]
theorem RpL.bls {z : Bz} {M : MS} {H : Hp} : ∀ {vs : List V} {ns : List Bool}, RpL z M H vs (ns.map D.bl) → vs = ns.map V.bl
  | _, [], .nil => rfl
  | _, n :: ns, .cons a b => by cases a; rw [b.bls]; rfl
def rAllD (f : List Bool → Bool) : RDC
  | [.lst x], Q => ∃ bs, bools x = some bs ∧ Q (.bl (f bs))
  | _, _ => False
theorem real_allD {K : PySem.W.Frag} {f : List Bool → Bool} : RealC (fun vs H Q => ∃ (a : Addr) (bs : List Bool), vs = [V.ref a] ∧ SqL K H a (bs.map V.bl) ∧ Q (.bl (f bs)) H) (rAllD f) := by
  intro g σ H xs ds Qd Q s hx w k
  match ds, w, hx with
  | [.lst x], w, hx =>
    obtain ⟨v, rfl, h⟩ := hx.one
    obtain ⟨p, xs, rfl, h1, l1⟩ := h.lst
    obtain ⟨bs, e, q⟩ := w
    rw [bools_eq e] at l1
    rw [l1.bls] at h1
    exact ⟨p, bs, rfl, .of h1, k.here s q (.bl _)⟩
theorem de_all (hm : X.mg "all" = none) (ha : PA X [e] (lAP ts)) (hc : X.calm = true := by rfl) (hg : Gl X "all" := by rfl) (he : starEach [e] X.env = (false, eval e X.env) :: starEach [] X.env := by rfl) : PE X (.Call (.Name "all" p) [e] [] pos) (lE (dCall (rAllD fun bs => bs.all id) ts)) := de_callB (cr_all hc) real_allD hg hm (by decide +kernel) ha (he := he) (hpl := by rfl)
def rListD : RDC
  | [.lst x], Q => Q (.lst x)
  | [.tup x], Q => Q (.lst x)
  | _, _ => False
theorem real_list {K : PySem.W.Frag} : RealCF (fun xs H Q => ∃ p ys, xs = [.ref p] ∧ (SqL K H p ys ∨ SqT K H p ys) ∧ ∀ l, H l = none → Q (.ref l) (upd H l (.lst ys))) rListD := by
  intro g σ H xs ds Qd Q s hx w k
  match ds, w, hx with
  | [.lst x], w, hx =>
    obtain ⟨v, rfl, h⟩ := hx.one
    obtain ⟨p, xs, rfl, h1, l1⟩ := h.lst
    exact ⟨p, xs, rfl, .inl (.of h1), fun l hl => k.lst s hl w l1⟩
  | [.tup x], w, hx =>
    obtain ⟨v, rfl, h⟩ := hx.one
    obtain ⟨p, xs, rfl, h1, l1⟩ := h.tup
    exact ⟨p, xs, rfl, .inr (.of h1), fun l hl => k.lst s hl w l1⟩
theorem df_listc (hm : X.mg "list" = none) (ha : PA X [e] (lAP ts)) (hg : Gl X "list" := by rfl) (he : starEach [e] X.env = (false, eval e X.env) :: starEach [] X.env := by rfl) : PE X (.Call (.Name "list" p) [e] [] pos) (lF (dCall rListD ts)) := df_callTy call_list_of real_list hg hm (by decide +kernel) ha (he := he) (hpl := by rfl)
def rTupD : RDC
  | [.lst x], Q => Q (.tup x)
  | [.tup x], Q => Q (.tup x)
  | _, _ => False
/-- str(n) -/
def decOf (n : Int) : List Nat := (Str.ofString (toString n)).cps.toList
def rStrI : RDC
  | [.int i], Q => i.natAbs.log2 < 1920 ∧ Q (.str (decOf i))
  | _, _ => False
def tyN : D → Option String
  | .non => some "NoneType"
  | .bl _ => some "bool"
  | .int _ => some "int"
  | .str _ => some "str"
  | .lst _ => some "list"
  | .tup _ => some "tuple"
  | _ => none
theorem Pk.ty {g : Gh} {H : Hp} {v : V} {d : D} {n : String} {K : PySem.W.Frag} (h : Pk g H v d) (e : tyN d = some n) : TyX K H v (.type n) := by
  rcases h with h | ⟨a, rfl, _, _, o⟩
  · cases h <;> first | (simp [tyN] at e; done) | (simp [tyN] at e; subst e)
    · exact .base .non
    · exact .base (.bl _)
    · exact .base (.int _)
    · exact .base (.str _)
    · exact .base (.lst (by assumption))
    · exact .base (.tup (by assumption))
  · cases o <;> first | (simp [tyN] at e; done) | (simp [tyN] at e; subst e)
    exact .base (.lst (by assumption))
def isIntD : D → Bool
  | .int _ => true
  | .bl _ => true
  | _ => false
def isBoolD : D → Bool
  | .bl _ => true
  | _ => false
def isStrD : D → Bool
  | .str _ => true
  | _ => false
def isListD : D → Bool
  | .lst _ => true
  | _ => false
def isTupD : D → Bool
  | .tup _ => true
  | _ => false
def isSeqD : D → Bool
  | .lst _ => true
  | .tup _ => true
  | _ => false
/-- the answers for data that the built-in classes tell -/
def IsTab (T : String) (f : D → Bool) : Prop := ∀ d n, tyN d = some n → kitB n T = some (f d)
theorem tab_of {T : String} {f : D → Bool} (h0 : kitB "NoneType" T = some (f .non)) (h1 : ∀ b, kitB "bool" T = some (f (.bl b))) (h2 : ∀ b, kitB "int" T = some (f (.int b))) (h3 : ∀ b, kitB "str" T = some (f (.str b))) (h4 : ∀ b, kitB "list" T = some (f (.lst b))) (h5 : ∀ b, kitB "tuple" T = some (f (.tup b))) : IsTab T f := by
  intro d n e
  cases d <;> simp [tyN] at e <;> subst e
  · exact h0
  · exact h1 _
  · exact h2 _
  · exact h3 _
  · exact h4 _
  · exact h5 _
theorem tab_int : IsTab "int" isIntD := tab_of (by decide +kernel) (fun _ => by show _ = some true; decide +kernel) (fun _ => by show _ = some true; decide +kernel) (fun _ => by show _ = some false; decide +kernel) (fun _ => by show _ = some false; decide +kernel) (fun _ => by show _ = some false; decide +kernel)
theorem tab_bool : IsTab "bool" isBoolD := tab_of (by decide +kernel) (fun _ => by show _ = some true; decide +kernel) (fun _ => by show _ = some false; decide +kernel) (fun _ => by show _ = some false; decide +kernel) (fun _ => by show _ = some false; decide +kernel) (fun _ => by show _ = some false; decide +kernel)
theorem tab_str : IsTab "str" isStrD := tab_of (by decide +kernel) (fun _ => by show _ = some false; decide +kernel) (fun _ => by show _ = some false; decide +kernel) (fun _ => by show _ = some true; decide +kernel) (fun _ => by show _ = some false; decide +kernel) (fun _ => by show _ = some false; decide +kernel)
theorem tab_list : IsTab "list" isListD := tab_of (by decide +kernel) (fun _ => by show _ = some false; decide +kernel) (fun _ => by show _ = some false; decide +kernel) (fun _ => by show _ = some false; decide +kernel) (fun _ => by show _ = some true; decide +kernel) (fun _ => by show _ = some false; decide +kernel)
theorem tab_tup : IsTab "tuple" isTupD := tab_of (by decide +kernel) (fun _ => by show _ = some false; decide +kernel) (fun _ => by show _ = some false; decide +kernel) (fun _ => by show _ = some false; decide +kernel) (fun _ => by show _ = some false; decide +kernel) (fun _ => by show _ = some true; decide +kernel)
def rIsiD (T : String) (f : D → Bool) : RDC
  | [d, .raw (.ty T')], Q => T' = T ∧ (tyN d).isSome = true ∧ Q (.bl (f d))
  | _, _ => False
theorem real_isi {K : PySem.W.Frag} {T : String} {f : D → Bool} (t : IsTab T f) : RealC (rIsi K) (rIsiD T f) := by
  intro g σ H xs ds Qd Q s hx w k
  match ds, w, hx with
  | [d, .raw (.ty T')], w, hx =>
    obtain ⟨v, v', rfl, h, h'⟩ := hx.two
    cases h'.raw
    obtain ⟨rfl, e, q⟩ := w
    obtain ⟨n, e⟩ := Option.isSome_iff_exists.mp e
    exact ⟨v, _, _, _, f d, rfl, .ty _, h.ty e, kit_ty (t d n e), k.here s q (.bl _)⟩
theorem de_isi {T : String} {f : D → Bool} (t : IsTab T f) (hm : X.mg "isinstance" = none) (ha : PA X [a, b] (lAP ts)) (hg : Gl X "isinstance" := by rfl) (he : starEach [a, b] X.env = (false, eval a X.env) :: starEach [b] X.env := by rfl) (hpl : (backTo pos (starEach [b] X.env)).any (·.1) = false := by rfl) : PE X (.Call (.Name "isinstance" p) [a, b] [] pos) (lE (dCall (rIsiD T f) ts)) := de_callB call_isi (real_isi t) hg hm (by decide +kernel) ha (he := he) (hpl := hpl)
/-- isinstance(x, (list, tuple)) -/
def rIsiLT : RDC
  | [d, .tup [.raw (.ty T), .raw (.ty T')]], Q => T = "list" ∧ T' = "tuple" ∧ (tyN d).isSome = true ∧ Q (.bl (isSeqD d))
  | _, _ => False
theorem real_isiLT {K : PySem.W.Frag} : RealC (rIsiT K) rIsiLT := by
  intro g σ H xs ds Qd Q s hx w k
  match ds, w, hx with
  | [d, .tup [.raw (.ty T), .raw (.ty T')]], w, hx =>
    obtain ⟨v, v', rfl, h, h'⟩ := hx.two
    obtain ⟨p, xs, rfl, h1, l1⟩ := h'.tup
    rcases l1 with _ | ⟨r1, l1⟩
    rcases l1 with _ | ⟨r2, l1⟩
    cases l1
    cases r1
    cases r2
    obtain ⟨rfl, rfl, e, q⟩ := w
    obtain ⟨n, e⟩ := Option.isSome_iff_exists.mp e
    refine ⟨v, p, _, _, _, isSeqD d, rfl, h1, .cons (.ty _) (.cons (.ty _) .nil), h.ty e, ?_, k.here s q (.bl _)⟩
    refine kitAny_cons (kit_ty (tab_list d n e)) (fun e1 => kitAny_cons (kit_ty (tab_tup d n e)) (fun e2 => ?_) fun e2 => ?_) fun e1 => ?_
    · have : isSeqD d = false := by cases d <;> simp_all [isSeqD, isListD, isTupD]
      rw [this]; exact kitAny_nil
    · cases d <;> simp_all [isSeqD, isListD, isTupD]
    · cases d <;> simp_all [isSeqD, isListD, isTupD]
theorem de_isiLT (hm : X.mg "isinstance" = none) (ha : PA X [a, b] (lAP ts)) (hg : Gl X "isinstance" := by rfl) (he : starEach [a, b] X.env = (false, eval a X.env) :: starEach [b] X.env := by rfl) (hpl : (backTo pos (starEach [b] X.env)).any (·.1) = false := by rfl) : PE X (.Call (.Name "isinstance" p) [a, b] [] pos) (lE (dCall rIsiLT ts)) := de_callB call_isiT real_isiLT hg hm (by decide +kernel) ha (he := he) (hpl := hpl)
/-- a built-in class as a value -/
theorem de_ty {T : String} (hm : X.mg x = none) (hv : bootBuiltins x = some (.type T)) (hg : Gl X x := by rfl) (hn : x ≠ "__name__" := by decide) (hdb : (x == ("__debug__" : Str)) = false := by decide) : PE X (.Name x pos) (lE (dC (.raw (.ty T)))) := de_C (pe_bltn (v := .ty T) hg hm hv rfl hn hdb) fun _ _ _ => .raw _
theorem de_gint {i : Int} (hm : ∃ t, X.mg x = some (.int i t)) (hg : Gl X x := by rfl) (hdb : (x == ("__debug__" : Str)) = false := by decide) : PE X (.Name x pos) (lE (dC (.int i))) := by
  obtain ⟨t, hm⟩ := hm
  exact de_C (pe_glob (v := .int i) hg hm ⟨t, rfl⟩ hdb) fun _ _ _ => .int _
theorem de_gstr {i : Str} (hm : ∃ t, X.mg x = some (.str i t)) (hg : Gl X x := by rfl) (hdb : (x == ("__debug__" : Str)) = false := by decide) : PE X (.Name x pos) (lE (dC (.str i.cps.toList))) := by
  obtain ⟨t, hm⟩ := hm
  exact de_C (pe_glob (v := .str i) hg hm ⟨t, rfl⟩ hdb) fun _ _ _ => .str _
end
end L2.DL
namespace L2.DL
open PySem PySem.Spec PyProof.Rows
abbrev TDF := List D → (D → Prop) → Prop
structure Amb (z : Bz) (M : MS) (H : Hp) : Prop where
  bag : BagOk z H
  alive : ∀ a, M a → Nt H a
  res : ∀ a, resB z a → M a
theorem Stt.amb {g : Gh} {σ : St} {H : Hp} (s : Stt g σ H) : Amb g.z g.M H := ⟨s.bag, s.alive, fun _ h => res_M h⟩
def spE (n : Nat) (tf : TDF) : Sp := fun vs H Q _ => vs.length = n ∧ ∃ (z : Bz) (M : MS) (ds : List D) (Qd : D → Prop), Amb z M H ∧ RpL z M H vs ds ∧ tf ds Qd ∧ ∀ d v H', Qd d → Ext z H H' → BagOk z H' → Rp z M H' v d → Q v H'
def spF (n : Nat) (tf : TDF) : Sp := fun vs H Q _ => vs.length = n ∧ ∃ (z : Bz) (M : MS) (ds : List D) (Qd : D → Prop), Amb z M H ∧ RpL z M H vs ds ∧ tf ds Qd ∧ ∀ d a H', Qd d → Ext z H H' → BagOk z H' → H a = none → ¬ M a → OwF z M H' a d → Q (.ref a) H'
/-- the state at a def's start -/
def gh0 (z : Bz) (M : MS) (H : Hp) (N : List Str) (ds : List D) : Gh := ⟨z, M, H, H, M, fun _ => none, ds.map .val ++ List.replicate (N.length - ds.length) .no⟩
theorem mo_none {z : Bz} {M : MS} (h : ∀ a, resB z a → M a) : Mo M z (fun _ => none) = M := by
  funext a
  apply propext
  constructor
  · rintro (h1 | h1 | ⟨i, h1⟩)
    · exact h1
    · exact h a h1
    · cases h1
  · exact .inl
theorem start_eq (N : List Str) (vs : List V) : start N vs = vs.map some ++ List.replicate (N.length - vs.length) none := rfl
theorem stt0 {z : Bz} {M : MS} {H : Hp} {N : List Str} {vs : List V} {ds : List D} (A : Amb z M H) (r : RpL z M H vs ds) : Stt (gh0 z M H N ds) (start N vs) H := by
  have hM : (gh0 z M H N ds).M = M := mo_none A.res
  have hl := r.length
  refine ⟨fun i as φ e => ?_, ?_, fun i d e => ?_, fun i d e => ?_, (fun i j a e => nomatch e), (fun i a e => nomatch e), fun a h => ?_, Ext.refl, A.bag, Ext.refl, fun _ h => h, fun a h => (A.alive a h).ne, fun i E Ed e => ?_, fun i p e => ?_, fun _ h => .inl h⟩
  · have e' : (ds.map Sl.val ++ List.replicate (N.length - ds.length) .no)[i]? = some (.rs as φ) := e
    have := List.mem_of_getElem? e'
    simp at this
  · rw [start_eq]; simp [gh0, hl]
  · rw [hM]
    show ∃ v, (start N vs)[i]? = some (some v) ∧ Rp z M H v d
    have e' : (ds.map Sl.val ++ List.replicate (N.length - ds.length) .no)[i]? = some (.val d) := e
    by_cases hi : i < ds.length
    · rw [List.getElem?_append_left (by simpa using hi), List.getElem?_map] at e'
      cases q : ds[i]? with
      | none => rw [q] at e'; cases e'
      | some d' =>
        rw [q] at e'
        cases e'
        obtain ⟨v, h1, h2⟩ := r.get q
        refine ⟨v, ?_, h2⟩
        rw [start_eq, List.getElem?_append_left (by simp; omega), List.getElem?_map, h1]; rfl
    · rw [List.getElem?_append_right (by simp; omega)] at e'
      have := List.mem_of_getElem? e'
      simp at this
  · have e' : (ds.map Sl.val ++ List.replicate (N.length - ds.length) .no)[i]? = some (.own d) := e
    have := List.mem_of_getElem? e'
    simp at this
  · rw [hM] at h; exact A.alive a h
  · have e' : (ds.map Sl.val ++ List.replicate (N.length - ds.length) .no)[i]? = some (.ex E Ed) := e
    have := List.mem_of_getElem? e'
    simp at this
  · have e' : (ds.map Sl.val ++ List.replicate (N.length - ds.length) .no)[i]? = some (.zz p) := e
    have := List.mem_of_getElem? e'
    simp at this
/-- a def by its body, over data -/
theorem ok_E {P : Program} {w : World} {K : PySem.W.Frag} {mg : Str → Option Value} {base : Heap} {x qual : Str} {st : Stmt} {f : Addr} {fd : FuncData} {N ps : List Str} {k : Nat} {n : Nat} {tf : TDF} {dfv : List V} {kwv : List (Str × V)} (F : FunD K x qual (defArgs st) (defBody st) (defScope st) dfv kwv f fd) (S : FnScope N ps (defScope st)) (hn : ps.length = n := by rfl)
    (hb : ∀ (cdv : Value) (A : Around) (outer : List Env) (s : Shared) (H : Hp) (E : XK), Room k (A.deeper (envOfC qual (defScope st) s.heap.objs.size f cdv)) → ∃ t : TDS, PSs (cxOf CX0 P w K mg base N qual (defScope st) f cdv A outer s H E).nox (defBody st) (lS t) ∧
      ∀ ds Qd, ds.length = n → tf ds Qd → t { nx := fun _ => Qd .non, rt := Qd, rf := Qd } (ds.map .val ++ List.replicate (N.length - n) .no)) : FnOk P w K mg base CX0 (k + 1) f fd ps (spE n tf) := by
  refine F.ok S (fun vs H Q E h => ?_) (fun cdv A outer s H vs Q E hr h => ?_)
  · rw [hn]; exact h.1
  · obtain ⟨hl, z, M, ds, Qd, Am, r, t, k⟩ := h
    obtain ⟨tt, hp, hw⟩ := hb cdv A outer s H E hr
    have hM : Mo M z (fun _ => none) = M := mo_none Am.res
    have hd : ds.length = n := by rw [← r.length]; exact hl
    refine ⟨_, PSs.nox hp, gh0 z M H N ds, { nx := fun _ => Qd .non, rt := Qd, rf := Qd }, stt0 Am r, ?_, ?_⟩
    · have := hw ds Qd hd t
      show tt _ (ds.map .val ++ List.replicate (N.length - ds.length) .no)
      rw [hd]; exact this
    · refine ⟨fun ow S σ H' s' q => k .non .non H' q s'.keep s'.bag .non, fun _ _ _ _ _ q => q.elim, fun _ _ _ _ _ q => q.elim, fun d v H' q x b rp => k d v H' q x b ?_, fun d a H' q x b hn nm o => k d (.ref a) H' q x b ?_, fun _ _ _ _ q => q.elim⟩
      · have rp' : Rp z (Mo M z fun _ => none) H' v d := rp
        rw [hM] at rp'; exact rp'
      · have o' : OwF z (Mo M z fun _ => none) H' a d := o
        have nm' : ¬ Mo M z (fun _ => none) a := nm
        rw [hM] at o' nm'
        exact Ow.rp o' (Tr.of fun _ _ n e => ⟨e, fun q => n (.inl q)⟩) nm'
theorem ok_F {P : Program} {w : World} {K : PySem.W.Frag} {mg : Str → Option Value} {base : Heap} {x qual : Str} {st : Stmt} {f : Addr} {fd : FuncData} {N ps : List Str} {k : Nat} {n : Nat} {tf : TDF} {dfv : List V} {kwv : List (Str × V)} (F : FunD K x qual (defArgs st) (defBody st) (defScope st) dfv kwv f fd) (S : FnScope N ps (defScope st)) (hn : ps.length = n := by rfl)
    (hb : ∀ (cdv : Value) (A : Around) (outer : List Env) (s : Shared) (H : Hp) (E : XK), Room k (A.deeper (envOfC qual (defScope st) s.heap.objs.size f cdv)) → ∃ t : TDS, PSs (cxOf CX0 P w K mg base N qual (defScope st) f cdv A outer s H E).nox (defBody st) (lS t) ∧
      ∀ ds Qd, ds.length = n → tf ds Qd → t { nx := fun _ => False, rt := fun _ => False, rf := Qd } (ds.map .val ++ List.replicate (N.length - n) .no)) : FnOk P w K mg base CX0 (k + 1) f fd ps (spF n tf) := by
  refine F.ok S (fun vs H Q E h => ?_) (fun cdv A outer s H vs Q E hr h => ?_)
  · rw [hn]; exact h.1
  · obtain ⟨hl, z, M, ds, Qd, Am, r, t, k⟩ := h
    obtain ⟨tt, hp, hw⟩ := hb cdv A outer s H E hr
    have hM : Mo M z (fun _ => none) = M := mo_none Am.res
    have hd : ds.length = n := by rw [← r.length]; exact hl
    refine ⟨_, PSs.nox hp, gh0 z M H N ds, { nx := fun _ => False, rt := fun _ => False, rf := Qd }, stt0 Am r, ?_, ?_⟩
    · have := hw ds Qd hd t
      show tt _ (ds.map .val ++ List.replicate (N.length - ds.length) .no)
      rw [hd]; exact this
    · refine ⟨fun ow S σ H' s' q => q.elim, fun _ _ _ _ _ q => q.elim, fun _ _ _ _ _ q => q.elim, fun d v H' q x b rp => q.elim, fun d a H' q x b hn nm o => k d a H' q x b hn ?_ ?_, fun _ _ _ _ q => q.elim⟩
      · have nm' : ¬ Mo M z (fun _ => none) a := nm
        rw [hM] at nm'; exact nm'
      · have o' : OwF z (Mo M z fun _ => none) H' a d := o
        rw [hM] at o'; exact o'
section
variable {X : Cx} {pos p : Pos} {es : List Expr} {e : Expr} {te : TDE} {ts : TDA} {x : Str} {tf : TDF} {n k : Nat} {f : Addr} {fd : FuncData} {ps : List Str} {dvs : List V} {dds : List D}
/-- f(..): the written arguments, then the defaults -/
def dFn (tf : TDF) (dds : List D) (ts : TDA) : TDE := fun S Q => ts S fun ds => tf (ds ++ dds) Q
theorem de_fn (F : FnOk X.prog X.w X.K X.mg X.base CX0 k f fd ps (spE n tf)) (hr : Room k X.A) (hm : X.mg x = some (.ref f)) (hk : PySem.W.keepIn X.K (.ref f) = true) (hb : ∃ dsv, Vals dvs dsv ∧ Binds X.K fd ps dsv) (hdd : ∀ z M H, RpL z M H dvs dds) (ha : PA X (e :: es) (lA ts)) (hn : ∀ ds Q, tf ds Q → ds.length = n) (hg : Gl X x := by rfl)
    (hdb : (x == ("__debug__" : Str)) = false := by decide) (he : starEach (e :: es) X.env = (false, eval e X.env) :: starEach es X.env := by rfl) (hpl : (backTo pos (starEach es X.env)).any (·.1) = false := by rfl) : PE X (.Call (.Name x p) (e :: es) [] pos) (lE (dFn tf dds ts)) := by
  obtain ⟨dsv, hd, hb⟩ := hb
  exact PE.imp (pe_call F hr hg hm hk hb hd pass0 ha hdb he hpl) fun σ H Q ⟨g, Qd, s, w, kk⟩ =>
    ⟨g, _, s, w, fun ds vs H1 w1 x1 s1 r1 => by
      have r2 := r1.append (hdd g.z g.M H1)
      exact ⟨by rw [r2.length]; exact hn _ _ w1, g.z, g.M, _, Qd, s1.amb, r2, w1, fun d v H' q x b rp => kk d v H' q (x1.trans x) (s1.ext x b) rp⟩⟩
theorem df_fn (F : FnOk X.prog X.w X.K X.mg X.base CX0 k f fd ps (spF n tf)) (hr : Room k X.A) (hm : X.mg x = some (.ref f)) (hk : PySem.W.keepIn X.K (.ref f) = true) (hb : ∃ dsv, Vals dvs dsv ∧ Binds X.K fd ps dsv) (hdd : ∀ z M H, RpL z M H dvs dds) (ha : PA X (e :: es) (lA ts)) (hn : ∀ ds Q, tf ds Q → ds.length = n) (hg : Gl X x := by rfl)
    (hdb : (x == ("__debug__" : Str)) = false := by decide) (he : starEach (e :: es) X.env = (false, eval e X.env) :: starEach es X.env := by rfl) (hpl : (backTo pos (starEach es X.env)).any (·.1) = false := by rfl) : PE X (.Call (.Name x p) (e :: es) [] pos) (lF (dFn tf dds ts)) := by
  obtain ⟨dsv, hd, hb⟩ := hb
  exact PE.imp (pe_call F hr hg hm hk hb hd pass0 ha hdb he hpl) fun σ H Q ⟨g, Qd, s, w, kk⟩ =>
    ⟨g, _, s, w, fun ds vs H1 w1 x1 s1 r1 => by
      have r2 := r1.append (hdd g.z g.M H1)
      exact ⟨by rw [r2.length]; exact hn _ _ w1, g.z, g.M, _, Qd, s1.amb, r2, w1, fun d a H' q x b hn nm o => kk d a H' q (x1.trans x) (s1.ext x b) (x1.none_of hn fun h => nm (res_M h.res)) nm o⟩⟩
end
end L2.DL
namespace L2.DL
open PySem PySem.Spec PyProof.Rows
section
variable {g : Gh} {σ : St} {H H' : Hp} {i : Nat} {v : V} {d : D} {a : Addr}
theorem Stt.setVal (s : Stt g σ H) (r : Rp g.z g.M H v d) : Stt { g with S := g.S.set i (.val d) } (σ.set i (some v)) H where
  rs := fun j as φ e => (s.rs j as φ (rs_val e)).tr (Tr.of fun _ _ n e => ⟨e, n⟩) (fun _ _ _ q => q) rfl fun _ => rfl
  len := by simpa using s.len
  val := fun j d' e => by
    have e' : (g.S.set i (.val d))[j]? = some (.val d') := e
    rw [List.getElem?_set] at e'
    by_cases hij : i = j
    · subst hij
      rw [if_pos rfl] at e'
      split at e'
      · rename_i hlt
        cases e'
        exact ⟨v, by rw [List.getElem?_set_self (by rw [← s.len]; exact hlt)], r⟩
      · cases e'
    · rw [if_neg hij] at e'
      obtain ⟨u, e1, r1⟩ := s.val j d' e'
      exact ⟨u, by rw [List.getElem?_set_ne hij]; exact e1, r1⟩
  own := fun j d' e => by
    have e' : (g.S.set i (.val d))[j]? = some (.own d') := e
    rw [List.getElem?_set] at e'
    by_cases hij : i = j
    · subst hij
      rw [if_pos rfl] at e'
      split at e' <;> cases e'
    · rw [if_neg hij] at e'
      obtain ⟨u, e1, r1⟩ := s.own j d' e'
      exact ⟨u, by rw [List.getElem?_set_ne hij]; exact e1, r1⟩
  inj := s.inj
  new := s.new
  alive := s.alive
  keep := s.keep
  bag := s.bag
  ex := s.ex.val
def setOw (ow : Ix → Option Addr) (i : Nat) (a : Option Addr) : Ix → Option Addr := fun j => if j = .inl i then a else ow j
theorem setOw_r {ow : Ix → Option Addr} {i : Nat} {a : Option Addr} {p : Nat × Nat} : setOw ow i a (.inr p) = ow (.inr p) := by
  unfold setOw; rw [if_neg (fun h => nomatch h)]
theorem ix_ne {i j : Nat} (h : ¬ i = j) : ¬ (Sum.inl i : Ix) = .inl j := fun e => h (Sum.inl.inj e)
theorem mo_set {M0 : MS} {z : Bz} {ow : Ix → Option Addr} {b : Addr} (h : Mo M0 z (setOw ow i (some a)) b) : Mo M0 z ow b ∨ b = a := by
  rcases h with h | h | ⟨j, h⟩
  · exact .inl (.inl h)
  · exact .inl (.inr (.inl h))
  · unfold setOw at h
    split at h
    · cases h; exact .inr rfl
    · exact .inl (.inr (.inr ⟨j, h⟩))
/-- a new thing goes to a name that owns it -/
theorem Stt.setOwn (s : Stt g σ H) (x : Ext g.z H H') (b' : BagOk g.z H') (hn : H a = none) (hM : ¬ g.M a) (o : OwF g.z g.M H' a d) :
    Stt { g with ow := setOw g.ow i (some a), S := g.S.set i (.own d) } (σ.set i (some (.ref a))) H' := by
  have tr : Tr g.M H (Mo g.M0 g.z (setOw g.ow i (some a))) H' := Tr.of fun b u n e => ⟨x b u e fun q => n (res_M q.res), fun q => (mo_set q).elim n fun e' => by subst e'; rw [hn] at e; cases e⟩
  have tro : Tr (fun b => g.M b ∨ b = a) H' (Mo g.M0 g.z (setOw g.ow i (some a))) H' := Tr.of fun b u n e => ⟨e, fun q => n (mo_set q)⟩
  have na : ∀ j : Ix, g.ow j = some a → False := fun j e => hM (.inr (.inr ⟨j, e⟩))
  have hH0 : g.H0 a = none := s.keep.none_of hn fun h => hM (res_M h.res)
  refine ⟨fun j as φ e => (s.rs j as φ (rs_own e)).tr tr (fun c hc o q => x c o q fun z => (s.rsNew (rs_own e) hc).2.2 z.res) rfl fun _ => setOw_r (ow := g.ow) (i := i) (a := some a), by simpa using s.len, fun j d' e => ?_, fun j d' e => ?_, fun j k c e1 e2 => ?_, fun j c e => ?_, fun c h => ?_, s.keep.trans x, b', s.ex.own⟩
  · have e' : (g.S.set i (.own d))[j]? = some (.val d') := e
    rw [List.getElem?_set] at e'
    by_cases hij : i = j
    · subst hij
      rw [if_pos rfl] at e'
      split at e' <;> cases e'
    · rw [if_neg hij] at e'
      obtain ⟨u, e1, r1⟩ := s.val j d' e'
      exact ⟨u, by rw [List.getElem?_set_ne hij]; exact e1, r1.tr tr⟩
  · have e' : (g.S.set i (.own d))[j]? = some (.own d') := e
    rw [List.getElem?_set] at e'
    by_cases hij : i = j
    · subst hij
      rw [if_pos rfl] at e'
      split at e'
      · rename_i hlt
        cases e'
        exact ⟨a, by rw [List.getElem?_set_self (by rw [← s.len]; exact hlt)], by show setOw g.ow i (some a) i = some a; unfold setOw; rw [if_pos rfl], Ow.tr o tro fun u q => q⟩
      · cases e'
    · rw [if_neg hij] at e'
      obtain ⟨u, e1, e2, r1⟩ := s.own j d' e'
      refine ⟨u, by rw [List.getElem?_set_ne hij]; exact e1, ?_, r1.tr tr fun w q => x u w q fun z => (s.new j u e2).2.2 z.res⟩
      show setOw g.ow i (some a) j = some u
      unfold setOw; rw [if_neg (ix_ne (Ne.symm hij))]; exact e2
  · have e1' : setOw g.ow i (some a) j = some c := e1
    have e2' : setOw g.ow i (some a) k = some c := e2
    unfold setOw at e1' e2'
    split at e1' <;> split at e2'
    · rename_i h1 h2; rw [h1, h2]
    · cases e1'; exact (na k e2').elim
    · cases e2'; exact (na j e1').elim
    · exact s.inj j k c e1' e2'
  · have e' : setOw g.ow i (some a) j = some c := e
    unfold setOw at e'
    split at e'
    · cases e'
      exact ⟨hH0, fun h => hM (.inl h), fun h => hM (res_M h)⟩
    · exact s.new j c e'
  · have s' := s.ext x b'
    rcases mo_set h with h | rfl
    · exact s'.alive c h
    · exact Ow.alive o
/-- what was owned is owned no more -/
theorem Stt.freeze (s : Stt g σ H) (e : g.S[i]? = some (.own d)) : Stt { g with ow := setOw g.ow i none, S := g.S.set i (.val d) } σ H := by
  obtain ⟨a, ea, eo, o⟩ := s.own i d e
  have sub : ∀ b, Mo g.M0 g.z (setOw g.ow i none) b → g.M b := fun b h => by
    rcases h with h | h | ⟨j, h⟩
    · exact .inl h
    · exact .inr (.inl h)
    · unfold setOw at h
      split at h
      · cases h
      · exact .inr (.inr ⟨j, h⟩)
  have tr : Tr g.M H (Mo g.M0 g.z (setOw g.ow i none)) H := Tr.of fun b u n e => ⟨e, fun q => n (sub b q)⟩
  have na : ¬ Mo g.M0 g.z (setOw g.ow i none) a := fun h => by
    rcases h with h | h | ⟨j, h⟩
    · exact (s.new i a eo).2.1 h
    · exact (s.new i a eo).2.2 h
    · unfold setOw at h
      split at h
      · cases h
      · rename_i hj
        exact hj (s.inj j i a h eo)
  refine ⟨fun j as φ e => (s.rs j as φ (rs_val e)).tr tr (fun _ _ _ q => q) rfl fun _ => setOw_r (ow := g.ow) (i := i) (a := none), by simpa using s.len, fun j d' e' => ?_, fun j d' e' => ?_, fun j k c e1 e2 => ?_, fun j c e1 => ?_, fun c h => s.alive c (sub c h), s.keep, s.bag, s.ex.val⟩ -- (S := g.S) (x := .val d) e' fun _ _ q => by cases q)⟩
  · have e1 : (g.S.set i (.val d))[j]? = some (.val d') := e'
    rw [List.getElem?_set] at e1
    by_cases hij : i = j
    · subst hij
      rw [if_pos rfl] at e1
      split at e1
      · cases e1
        exact ⟨.ref a, ea, o.rp tr na⟩
      · cases e1
    · rw [if_neg hij] at e1
      obtain ⟨u, e2, r1⟩ := s.val j d' e1
      exact ⟨u, e2, r1.tr tr⟩
  · have e1 : (g.S.set i (.val d))[j]? = some (.own d') := e'
    rw [List.getElem?_set] at e1
    by_cases hij : i = j
    · subst hij
      rw [if_pos rfl] at e1
      split at e1 <;> cases e1
    · rw [if_neg hij] at e1
      obtain ⟨u, e2, e3, r1⟩ := s.own j d' e1
      refine ⟨u, e2, ?_, r1.tr tr fun _ q => q⟩
      show setOw g.ow i none j = some u
      unfold setOw; rw [if_neg (ix_ne (Ne.symm hij))]; exact e3
  · have e1' : setOw g.ow i none j = some c := e1
    have e2' : setOw g.ow i none k = some c := e2
    unfold setOw at e1' e2'
    split at e1' <;> split at e2' <;> try cases e1'
    · cases e2'
    · exact s.inj j k c e1' e2'
  · have e' : setOw g.ow i none j = some c := e1
    unfold setOw at e'
    split at e'
    · cases e'
    · exact s.new j c e'
theorem tr_mut (hM : g.M a) (o' : HO) : Tr g.M H g.M (upd H a o') := Tr.of fun b u n e => ⟨by rw [upd_ne (show b ≠ a by rintro rfl; exact n hM)]; exact e, n⟩
/-- an owned thing is changed -/
theorem Stt.mutate {o' : HO} {d' : D} (s : Stt g σ H) (e : g.S[i]? = some (.own d)) (ea : σ[i]? = some (some (.ref a))) (hd : isDic o' = true ∨ isDic o' = false) (o : Ow g.z g.M (upd H a o') a d') :
    Stt { g with S := g.S.set i (.own d') } σ (upd H a o') := by
  obtain ⟨a', ea', eo, ow0⟩ := s.own i d e
  rw [ea] at ea'
  cases ea'
  have hM : g.M a := .inr (.inr ⟨i, eo⟩)
  have tr : Tr g.M H g.M (upd H a o') := Tr.of fun b u n e => ⟨by rw [upd_ne (show b ≠ a by rintro rfl; exact n hM)]; exact e, n⟩
  refine ⟨fun j as φ e => (s.rs j as φ (rs_own e)).tr tr (fun c hc o q => by rw [upd_ne (show c ≠ a by rintro rfl; exact s.rsNe (rs_own e) eo hc)]; exact q) rfl fun _ => rfl, by simpa using s.len, fun j d' e' => ?_, fun j d'' e' => ?_, s.inj, s.new, fun c h => ?_, fun b u e1 n => ?_, s.bag.mut (fun h => (s.new i a eo).2.2 h) (Ow.code ow0), s.ex.own⟩ -- (S := g.S) (x := .own d') e' fun _ _ q => by cases q)⟩
  · have e1 : (g.S.set i (.own _))[j]? = some (.val d') := e'
    rw [List.getElem?_set] at e1
    by_cases hij : i = j
    · subst hij
      rw [if_pos rfl] at e1
      split at e1 <;> cases e1
    · rw [if_neg hij] at e1
      obtain ⟨u, e2, r1⟩ := s.val j d' e1
      exact ⟨u, e2, r1.tr tr⟩
  · have e1 : (g.S.set i (.own d'))[j]? = some (.own d'') := e'
    rw [List.getElem?_set] at e1
    by_cases hij : i = j
    · subst hij
      rw [if_pos rfl] at e1
      split at e1
      · cases e1
        exact ⟨a, ea, eo, o⟩
      · cases e1
    · rw [if_neg hij] at e1
      obtain ⟨u, e2, e3, r1⟩ := s.own j d'' e1
      refine ⟨u, e2, e3, r1.tr tr fun w q => ?_⟩
      rw [upd_ne (show u ≠ a by rintro rfl; exact hij (Sum.inl.inj (s.inj i j u eo e3)))]; exact q
  · by_cases hc : c = a
    · subst hc; exact Ow.alive o
    · obtain ⟨u, e, n⟩ := s.alive c h
      exact ⟨u, by rw [upd_ne hc]; exact e, n⟩
  · rw [upd_ne (show b ≠ a by rintro rfl; rw [(s.new i b eo).1] at e1; cases e1)]
    exact s.keep b u e1 n
end
section
variable {X : Cx} {pos pos' : Pos} {st : Stmt} {rest : List Stmt} {t u : TDS} {e : Expr} {te : TDE} {ta : TDA} {x y : Str} {i j : Nat} {c a b : Expr} {tt : TDT}
theorem LE.back {g : Gh} {De : EndsD} {D : Ends} {ow : Ix → Option Addr} {S : SS} (l : LE g De D) : LE { g with ow := ow, S := S } De D := ⟨fun ow' S' => l.nx ow' S', fun ow' S' => l.bk ow' S', fun ow' S' => l.ct ow' S', l.rt, l.rf, l.rg⟩
def dsNil : TDS := fun De S => De.nx S
def dsSeq (t u : TDS) : TDS := fun De S => t { De with nx := u De } S
theorem ds_nil : PSs X [] (lS dsNil) := PSs.imp pss_nil fun D σ H ⟨g, De, s, w, l⟩ => l.nx g.ow g.S σ H s w
theorem ds_cons (h1 : PS X st (lS t)) (h2 : PSs X rest (lS u)) : PSs X (st :: rest) (lS (dsSeq t u)) := PSs.imp (pss_cons h1 h2) fun D σ H ⟨g, De, s, w, l⟩ =>
  ⟨g, { De with nx := u De }, s, w, ⟨fun ow S σ' H' s' q => ⟨{ g with ow := ow, S := S }, De, s', q, l.back⟩, l.bk, l.ct, l.rt, l.rf, l.rg⟩⟩
theorem ds_one (h1 : PS X st (lS t)) : PSs X [st] (lS t) := pss_one h1
def dsBreak : TDS := fun De S => De.bk S
def dsCont : TDS := fun De S => De.ct S
theorem ds_break : PS X (.Break pos) (lS dsBreak) := PS.imp ps_break fun D σ H ⟨g, De, s, w, l⟩ => l.bk g.ow g.S σ H s w
theorem ds_cont : PS X (.Continue pos) (lS dsCont) := PS.imp ps_continue fun D σ H ⟨g, De, s, w, l⟩ => l.ct g.ow g.S σ H s w
def dsNever : TDS := fun _ _ => False
theorem ds_never : PS X st (lS dsNever) := PS.imp ps_never fun D σ H ⟨g, De, s, w, l⟩ => w
theorem ds_nevers {sts : List Stmt} : PSs X sts (lS dsNever) := PSs.imp pss_never fun D σ H ⟨g, De, s, w, l⟩ => w
def dsDrop (te : TDE) : TDS := fun De S => te S fun _ => De.nx S
theorem ds_expr (he : PE X e (lP te)) (hs : swapsWith e none pos.line X.env = pure false := by rfl) : PS X (.Expr e pos) (lS (dsDrop te)) := PS.imp (ps_expr he hs) fun D σ H ⟨g, De, s, w, l⟩ =>
  ⟨g, _, s, w, fun d v H' q x s' r => l.nx g.ow g.S σ H' s' q⟩
def dsRet (te : TDE) : TDS := fun De S => te S De.rt
def dsRetF (te : TDE) : TDS := fun De S => te S De.rf
theorem Mo.sub {M0 : MS} {z : Bz} {ow : Ix → Option Addr} {a : Addr} (h : Mo M0 z (fun _ => none) a) : Mo M0 z ow a := by
  rcases h with h | h | ⟨_, h⟩
  · exact .inl h
  · exact .inr (.inl h)
  · cases h
theorem ds_ret (he : PE X e (lE te)) : PS X (.Return (some e) pos) (lS (dsRet te)) := PS.imp (ps_ret he) fun D σ H ⟨g, De, s, w, l⟩ =>
  ⟨g, _, s, w, fun d v H' q x s' r => l.rt d v H' q s'.keep s'.bag (r.tr (Tr.of fun _ _ n e => ⟨e, fun h => n h.sub⟩))⟩
theorem ds_retF (he : PE X e (lF te)) : PS X (.Return (some e) pos) (lS (dsRetF te)) := PS.imp (ps_ret he) fun D σ H ⟨g, De, s, w, l⟩ =>
  ⟨g, _, s, w, fun d a H' q x s' hn nm o => l.rf d a H' q s'.keep s'.bag (s.keep.none_of hn fun h => nm (res_M h.res)) (fun h => nm h.sub) (Ow.tr o (Tr.of fun _ _ n e => ⟨e, fun h => n (h.imp Mo.sub id)⟩) fun _ q => q)⟩
def dsRetN : TDS := fun De S => De.rt .non
/-- return of a name that owns -/
def dsRetO (i : Nat) : TDS := fun De S => ∃ d, S[i]? = some (.own d) ∧ De.rf d
theorem ds_retO (he : PE X e (tVar i)) : PS X (.Return (some e) pos) (lS (dsRetO i)) := PS.imp (ps_ret he) fun D σ H ⟨g, De, s, ⟨d, e1, w⟩, l⟩ => by
  obtain ⟨a, ea, eo, o⟩ := s.own i d e1
  refine ⟨.ref a, ea, l.rf d a H w s.keep s.bag (s.new i a eo).1 (fun h => ?_) (o.tr (Tr.of fun b u n e => ⟨e, fun h => ?_⟩) fun _ q => q)⟩
  · rcases h with h | h | ⟨_, h⟩
    · exact (s.new i a eo).2.1 h
    · exact (s.new i a eo).2.2 h
    · cases h
  · rcases h with h | h
    · exact n h.sub
    · subst h; exact n (.inr (.inr ⟨i, eo⟩))
def dsIf (c : TDT) (t u : TDS) : TDS := fun De S => c S fun k => if k = true then t De S else u De S
theorem ds_if {bs cs : List Stmt} (hc : PT X c (lT tt)) (ha : PSs X bs (lS t)) (hb : PSs X cs (lS u)) : PS X (.If c bs cs pos) (lS (dsIf tt t u)) := PS.imp (ps_if hc ha hb) fun D σ H ⟨g, De, s, w, l⟩ =>
  ⟨g, _, s, w, fun k H1 w1 x1 s1 => by
    cases k with
    | true => exact ⟨g, De, s1, w1, l⟩
    | false => exact ⟨g, De, s1, w1, l⟩⟩
/-- x = e -/
def dsSet (i : Nat) (te : TDE) : TDS := fun De S => te S fun d => De.nx (S.set i (.val d))
def dsOwn (i : Nat) (te : TDE) : TDS := fun De S => te S fun d => De.nx (S.set i (.own d))
theorem ds_set (hN : X.N.Nodup) (hi : X.N[i]? = some x) (hx : Loc X.env.scope x) (he : PE X e (lE te)) (hs : swapsWith e (some (.Name x pos')) pos.line X.env = pure false := by rfl) (hf : X.fn x = true ∨ X.env.scope.names.lookup x = some .local := by first | exact .inl rfl | exact .inr rfl | assumption) :
    PS X (.Assign [.Name x pos'] e pos) (lS (dsSet i te)) := PS.imp (ps_set hN hi hx he hs hf) fun D σ H ⟨g, De, s, w, l⟩ =>
  ⟨g, _, s, w, fun d v H1 w1 x1 s1 r1 => l.nx g.ow _ _ H1 (s1.setVal r1) w1⟩
theorem ds_own (hN : X.N.Nodup) (hi : X.N[i]? = some x) (hx : Loc X.env.scope x) (he : PE X e (lF te)) (hs : swapsWith e (some (.Name x pos')) pos.line X.env = pure false := by rfl) (hf : X.fn x = true ∨ X.env.scope.names.lookup x = some .local := by first | exact .inl rfl | exact .inr rfl | assumption) :
    PS X (.Assign [.Name x pos'] e pos) (lS (dsOwn i te)) := PS.imp (ps_set hN hi hx he hs hf) fun D σ H ⟨g, De, s, w, l⟩ =>
  ⟨g, _, s, w, fun d a H1 w1 x1 s1 hn nm o => l.nx _ _ _ H1 (s.setOwn x1 s1.bag hn nm o) w1⟩
/-- a statement behind: what name i owns is kept from here on -/
def dsFrz (i : Nat) (t : TDS) : TDS := fun De S => ∃ d, S[i]? = some (.own d) ∧ t De (S.set i (.val d))
theorem ds_frz {sts : List Stmt} (i : Nat) (h : PSs X sts (lS t)) : PSs X sts (lS (dsFrz i t)) := PSs.imp h fun D σ H ⟨g, De, s, ⟨d, e, w⟩, l⟩ => ⟨_, De, s.freeze e, w, l.back⟩
/-- a, b = e1, e2 -/
def dsPar (i j : Nat) (ta : TDA) : TDS := fun De S => ta S fun ds => ∃ d d', ds = [d, d'] ∧ De.nx ((S.set i (.val d)).set j (.val d'))
/-- x op= e -/
def dsAug (i : Nat) (te : TDE) (R : RD2) : TDS := fun De S => ∃ d, S[i]? = some (.val d) ∧ te S fun e => R d e fun d' => De.nx (S.set i (.val d'))
def augD : RD2
  | .int i, .int j, Q => Q (.int (i + j))
  | .str x, .str y, Q => x.length + y.length ≤ sizeLine ∧ Q (.str (x ++ y))
  | _, _, _ => False
def ipAdd : TIp := fun x y H Q => (∃ i j, x = .int i ∧ y = .int j ∧ Q (.int (i + j)) H) ∨ (∃ i j, x = .str i ∧ y = .str j ∧ i.length + j.length ≤ sizeLine ∧ Q (.str (i ++ j)) H)
theorem ip_addA : PIp X .Add ipAdd := by
  intro pins s σ H x y v u Q I r1 r2 h
  rcases h with h | h
  · exact ip_add pins s σ H x y v u Q I r1 r2 h
  · exact iop_add_str pins s σ H x y v u Q I r1 r2 h
theorem ds_aug (hN : X.N.Nodup) (hi : X.N[i]? = some x) (hx : Loc X.env.scope x) (he : PE X e (lP te)) (hf : X.fn x = true ∨ X.env.scope.names.lookup x = some .local := by first | exact .inl rfl | exact .inr rfl | assumption) :
    PS X (.AugAssign (.Name x pos') .Add e pos) (lS (dsAug i te augD)) := PS.imp (ps_aug hN hi hx he ip_addA hf) fun D σ H ⟨g, De, s, ⟨d, e1, w⟩, l⟩ => by
  obtain ⟨v, e2, r⟩ := s.val i d e1
  refine ⟨v, e2, g, _, s, w, fun d1 v1 H1 w1 x1 s1 r1 => ?_⟩
  have r' := r.ext x1
  cases d <;> cases d1 <;> try exact w1.elim
  · cases r'; cases r1.int
    exact .inl ⟨_, _, rfl, rfl, l.nx _ _ _ H1 (s1.setVal (.int _)) w1⟩
  · cases r'; cases r1.str
    refine .inr ⟨_, _, rfl, rfl, by rw [S2_length, S2_length]; exact w1.1, ?_⟩
    rw [S2_append]
    exact l.nx _ _ _ H1 (s1.setVal (.str _)) w1.2
/-- xs.append(e), xs a name that owns -/
def dsApp (i : Nat) (te : TDE) : TDS := fun De S => ∃ ds, S[i]? = some (.own (.lst ds)) ∧ te S fun d => ds.length < sizeLine ∧ De.nx (S.set i (.own (.lst (ds ++ [d]))))
theorem ds_app {o : Expr} {ap cp : Pos} (ho : PE X o (tVar i)) (he : PE X e (lE te))
    (hbase : attributeBase o "append" X.env (eval o X.env) = eval o X.env := by rfl)
    (hfew : ((backTo cp (starEach [e] X.env)).all (fun x => !x.1) && (backToKw cp (keywordEach [] X.env)).all (fun x => x.1.isSome)
      && decide ([e].length + ([] : List Keyword).length + (if ([] : List Keyword).isEmpty then 0 else 1) < 30)) = true := by rfl)
    (hline : (ap.endLine == cp.line) = true := by rfl) (hs : starEach [e] X.env = (false, eval e X.env) :: starEach [] X.env := by rfl)
    (hsw : swapsWith (.Call (.Attribute o "append" ap) [e] [] cp) none pos.line X.env = pure false := by rfl) :
    PS X (.Expr (.Call (.Attribute o "append" ap) [e] [] cp) pos) (lS (dsApp i te)) :=
  PS.imp (ps_expr (pe_bm PySem.F.plainAttrs_list PySem.F.slot_list_append PySem.F.type_list_append mt_append ho (pa_cons he pa_nil hs) hbase hfew hline hs (by rfl)) hsw) fun D σ H ⟨g, De, s, ⟨ds, e1, w⟩, l⟩ => by
    obtain ⟨a, ea, eo, o⟩ := s.own i _ e1
    cases o with
    | lst h1 l1 =>
      refine ⟨.ref a, ea, .inl ⟨rfl, _, .of h1⟩, g, _, s, w, fun d v H1 w1 x1 s1 r1 => ?_⟩
      obtain ⟨a', ea', eo', o'⟩ := s1.own i _ e1
      rw [ea] at ea'
      cases ea'
      cases o' with
      | lst h2 l2 =>
        refine ⟨a, _, v, rfl, rfl, h2, by rw [l2.length]; exact w1.1, ?_⟩
        exact l.nx g.ow _ σ _ (s1.mutate e1 ea (.inr rfl) (.lst upd_same ((l2.append (.one r1)).tr (tr_mut (.inr (.inr ⟨i, eo⟩)) _)))) w1.2
end
end L2.DL
namespace L2.DL
open PySem PySem.Spec PyProof.Rows
def Lat (g : Gh) (H1 H' : Hp) : Prop := ∀ b o, ¬ g.M b → H1 b = some o → H' b = some o
def Grow (H H' : Hp) : Prop := ∀ b o, H b = some o → H' b = some o
structure Wk (g : Gh) (H1 : Hp) (J : It) (ds : List D) : Prop where
  go : ∀ i H', Lat g H1 H' → i < ds.length → J.go i H'
  stop : ∀ H', Lat g H1 H' → J.stop ds.length H'
  yld : ∀ (i : Nat) H' x H'' d, Lat g H1 H' → J.yld i H' x H'' → ds[i]? = some d → Grow H' H'' ∧ ∀ M', Tr g.M H1 M' H' → (∀ p, M' p → Nt H' p) → Rp g.z M' H'' x d
abbrev TDI := SS → (List D → Prop) → Prop
def DI (X : Cx) (tg iter : Expr) (ti : TDI) : Prop := ∃ wi : TI, PI X tg iter wi ∧ ∀ (g : Gh) (σ : St) (H : Hp) (Qd : List D → Prop) (R : It → Hp → Prop), Stt g σ H → ti g.S Qd → (∀ ds J H1, Qd ds → Ext g.z H H1 → Stt g σ H1 → Wk g H1 J ds → R J H1) → wi σ H R
theorem Wk.list {g : Gh} {H1 : Hp} {K : PySem.W.Frag} {a : Addr} {xs : List V} {ds : List D} (e : H1 a = some (.lst xs)) (n : ¬ g.M a) (l : RpL g.z g.M H1 xs ds) : Wk g H1 (Itl K a) ds where
  go := fun i H' h hi => by
    obtain ⟨v, hv, _⟩ := l.get (List.getElem?_eq_getElem hi)
    exact ⟨xs, v, .of (h a _ n e), hv⟩
  stop := fun H' h => ⟨xs, .of (h a _ n e), by rw [l.length]; exact Nat.le_refl _⟩
  yld := fun i H' x H'' d h y hd => by
    obtain ⟨rfl, y⟩ := y
    obtain ⟨v, hv, r⟩ := l.get hd
    have := (y xs (.of (h a _ n e))).symm.trans hv
    cases this
    exact ⟨fun _ _ e => e, fun M' t _ => r.tr t⟩
theorem Wk.tup {g : Gh} {H1 : Hp} {K : PySem.W.Frag} {a : Addr} {xs : List V} {ds : List D} (e : H1 a = some (.tup xs)) (n : ¬ g.M a) (l : RpL g.z g.M H1 xs ds) : Wk g H1 (Itt K a) ds where
  go := fun i H' h hi => by
    obtain ⟨v, hv, _⟩ := l.get (List.getElem?_eq_getElem hi)
    exact ⟨xs, v, .of (h a _ n e), hv⟩
  stop := fun H' h => ⟨xs, .of (h a _ n e), by rw [l.length]; exact Nat.le_refl _⟩
  yld := fun i H' x H'' d h y hd => by
    obtain ⟨rfl, y⟩ := y
    obtain ⟨v, hv, r⟩ := l.get hd
    have := (y xs (.of (h a _ n e))).symm.trans hv
    cases this
    exact ⟨fun _ _ e => e, fun M' t _ => r.tr t⟩
theorem Wk.str {g : Gh} {H1 : Hp} (x : List Nat) : Wk g H1 (Its (S2 x)) (x.map fun c => .str [c]) where
  go := fun i H' h hi => by
    show i < (S2 x).cps.size
    simpa using hi
  stop := fun H' h => by
    show (S2 x).cps.size ≤ _
    simp
  yld := fun i H' v H'' d h y hd => by
    obtain ⟨rfl, c, e, rfl⟩ := y
    have e' : x[i]? = some c := by simpa using e
    rw [List.getElem?_map, e'] at hd
    cases hd
    exact ⟨fun _ _ e => e, fun M' t _ => .str [c]⟩
theorem Wk.range {g : Gh} {H1 : Hp} (lo : Int) (n : Nat) : Wk g H1 (Itr lo n) ((List.range n).map fun i : Nat => .int (lo + (i : Int))) where
  go := fun i H' h hi => by
    show i < n
    simpa using hi
  stop := fun H' h => by
    show n ≤ _
    simp
  yld := fun i H' v H'' d h y hd => by
    obtain ⟨rfl, rfl⟩ := y
    rw [List.getElem?_map] at hd
    cases q : (List.range n)[i]? with
    | none => rw [q] at hd; cases hd
    | some j =>
      rw [q] at hd
      cases hd
      have hj : j = i := by
        rw [List.getElem?_range] at q
        · cases q; rfl
        · cases Nat.lt_or_ge i n with
          | inl h => exact h
          | inr h => rw [List.getElem?_eq_none (by simpa using h)] at q; cases q
      subst hj
      exact ⟨fun _ _ e => e, fun M' t _ => .int _⟩
def itemsD : D → Option (List D)
  | .lst xs => some xs
  | .tup xs => some xs
  | .str xs => some (xs.map fun c => .str [c])
  | _ => none
section
variable {X : Cx} {tg e : Expr} {te : TDE} {p pos tpos : Pos} {ts : TDA} {elts : List Expr} {kk : Nat}
/-- any sequence -/
def iAny (K : PySem.W.Frag) (tl : TE) : TI := fun σ H R => tl σ H fun x H1 =>
  (∃ a xs, x = .ref a ∧ H1 a = some (.lst xs) ∧ R (Itl K a) H1) ∨ (∃ a xs, x = .ref a ∧ H1 a = some (.tup xs) ∧ R (Itt K a) H1) ∨ ∃ z, x = .str z ∧ R (Its z) H1
theorem pi_any {tl : TE} (hl : PE X e tl) : PI X tg e (iAny X.K tl) := by
  constructor
  intro pins s σ H R I h
  apply thn (hl.run pins s σ H _ I h)
  rintro v s1 ⟨x, H1, I1, r1, ⟨a, xs, rfl, hq, q⟩ | ⟨a, xs, rfl, hq, q⟩ | ⟨z, rfl, q⟩⟩
  · cases r1
    obtain ⟨its, rv, pl, hz⟩ := I1.list (.of hq)
    exact wpAny_pyIter_list pl.isList (pi_one (tk := s1.toks) I1 _ (turn_list a _) ⟨_, Heap.get?_push_size _ rfl, rfl, rfl⟩ q)
  · cases r1
    obtain ⟨its, rv, pl, hz⟩ := I1.tuple (.of hq)
    have pl' : s1.heap.IsTuple a its.toArray := pl
    exact wpAny_pyIter_tuple pl' (pi_one (tk := s1.toks) I1 _ (turn_tuple a _) ⟨_, Heap.get?_push_size _ rfl, rfl, rfl⟩ q)
  · obtain ⟨t, rfl⟩ := r1
    by_cases ha : z.cps.all (· < 128) = true
    · exact wpAny_pyIter_ascii ha (pi_one (tk := s1.toks) I1 _ (turn_str _ z t _ (.inl rfl)) ⟨_, Heap.get?_push_size _ rfl, rfl, rfl⟩ q)
    · exact wpAny_pyIter_wide (by simpa using ha) (pi_one (tk := s1.toks) I1 _ (turn_str _ z t _ (.inr rfl)) ⟨_, Heap.get?_push_size _ rfl, rfl, rfl⟩ q)
def diSeq (te : TDE) : TDI := fun S Q => te S fun d => ∃ ds, itemsD d = some ds ∧ Q ds
theorem di_seq (he : PE X e (lE te)) : DI X tg e (diSeq te) := ⟨_, pi_any he, fun g σ H Qd R s w k => ⟨g, _, s, w, fun d v H1 w1 x1 s1 r1 => by
  obtain ⟨ds, e1, q⟩ := w1
  cases r1 <;> simp [itemsD] at e1
  · rename_i z
    subst e1
    exact .inr (.inr ⟨_, rfl, k _ _ H1 q x1 s1 (Wk.str z)⟩)
  · rename_i h n l
    subst e1
    exact .inl ⟨_, _, rfl, h, k _ _ H1 q x1 s1 (Wk.list h n l)⟩
  · rename_i h n l
    subst e1
    exact .inr (.inl ⟨_, _, rfl, h, k _ _ H1 q x1 s1 (Wk.tup h n l)⟩)⟩⟩
/-- range(n), range(a, b) -/
def diRng1 (ts : TDA) : TDI := fun S Q => ts S fun ds => ∃ n : Int, ds = [.int n] ∧ n < 2 ^ 62 ∧ -(2 ^ 62) ≤ n ∧ Q ((List.range n.toNat).map fun i : Nat => .int (0 + (i : Int)))
theorem di_range1 (hm : X.mg "range" = none) (ha : PA X [e] (lAP ts)) (hg : Gl X "range" := by rfl) (hs : starEach [e] X.env = [(false, eval e X.env)] := by rfl) : DI X tg (.Call (.Name "range" p) [e] [] pos) (diRng1 ts) :=
  ⟨_, pi_range1 hg hm ha hs, fun g σ H Qd R s w k => ⟨g, _, s, w, fun ds vs H1 w1 x1 s1 r1 => by
    obtain ⟨n, rfl, h1, h2, q⟩ := w1
    obtain ⟨v, rfl, h⟩ := r1.one
    cases h.int
    exact ⟨n, rfl, h2, h1, k _ _ H1 q x1 s1 (Wk.range 0 _)⟩⟩⟩
def diRng2 (ts : TDA) : TDI := fun S Q => ts S fun ds => ∃ m n : Int, ds = [.int m, .int n] ∧ (-(2 ^ 62) ≤ m ∧ m < 2 ^ 62 ∧ -(2 ^ 62) ≤ n ∧ n < 2 ^ 62) ∧ Q ((List.range (n - m).toNat).map fun i : Nat => .int (m + (i : Int)))
theorem di_range2 {e2 : Expr} (hm : X.mg "range" = none) (ha : PA X [e, e2] (lAP ts)) (hg : Gl X "range" := by rfl) (hs : starEach [e, e2] X.env = [(false, eval e X.env), (false, eval e2 X.env)] := by rfl) (hs2 : starEach [e2] X.env = [(false, eval e2 X.env)] := by rfl) : DI X tg (.Call (.Name "range" p) [e, e2] [] pos) (diRng2 ts) :=
  ⟨_, pi_range2 hg hm ha hs hs2, fun g σ H Qd R s w k => ⟨g, _, s, w, fun ds vs H1 w1 x1 s1 r1 => by
    obtain ⟨m, n, rfl, h1, q⟩ := w1
    obtain ⟨v, v', rfl, h, h'⟩ := r1.two
    cases h.int; cases h'.int
    exact ⟨m, n, rfl, h1, k _ _ H1 q x1 s1 (Wk.range m _)⟩⟩⟩
/-- enumerate(xs), xs a list -/
def enumD : Nat → List D → List D
  | _, [] => []
  | i, d :: ds => .tup [.int (i : Int), d] :: enumD (i + 1) ds
theorem enumD_length : ∀ (i : Nat) (ds : List D), (enumD i ds).length = ds.length
  | _, [] => rfl
  | i, d :: ds => by simp [enumD, enumD_length (i + 1) ds]
theorem enumD_get : ∀ (i j : Nat) (ds : List D), (enumD i ds)[j]? = (ds[j]?).map fun d => .tup [.int ((i + j : Nat) : Int), d]
  | i, j, [] => by simp [enumD]
  | i, 0, d :: ds => by simp [enumD]
  | i, j + 1, d :: ds => by
    simp only [enumD, List.getElem?_cons_succ]
    rw [enumD_get (i + 1) j ds]
    congr 1
    funext d
    rw [show i + 1 + j = i + (j + 1) by omega]
theorem Rp.pair {z : Bz} {M : MS} {H : Hp} {T : Addr} {xs : List V} {ds : List D} (l : RpL z M H xs ds) (hT : H T = none) (n : ¬ M T) : Rp z M (upd H T (.tup xs)) (.ref T) (.tup ds) :=
  .tup upd_same n (l.tr (Tr.of fun b o m e => ⟨by rw [upd_ne (ne_of_none e hT)]; exact e, m⟩))
theorem Wk.enum {g : Gh} {H1 : Hp} {K : PySem.W.Frag} {a : Addr} {xs : List V} {ds : List D} (e : H1 a = some (.lst xs)) (n : ¬ g.M a) (l : RpL g.z g.M H1 xs ds) : Wk g H1 (Ite K a) (enumD 0 ds) where
  go := fun i H' h hi => by
    rw [enumD_length] at hi
    obtain ⟨v, hv, _⟩ := l.get (List.getElem?_eq_getElem hi)
    exact ⟨xs, v, .of (h a _ n e), hv⟩
  stop := fun H' h => ⟨xs, .of (h a _ n e), by rw [l.length, enumD_length]; exact Nat.le_refl _⟩
  yld := fun i H' x H'' d h y hd => by
    obtain ⟨T, v, rfl, hT, rfl, y⟩ := y
    rw [enumD_get] at hd
    cases q : ds[i]? with
    | none => rw [q] at hd; cases hd
    | some d0 =>
      rw [q] at hd
      cases hd
      obtain ⟨v', hv, r⟩ := l.get q
      have := (y xs (.of (h a _ n e))).symm.trans hv
      cases this
      refine ⟨fun b o e => by rw [upd_ne (ne_of_none e hT)]; exact e, fun M' t fr => Rp.pair (.cons ?_ (.cons (r.tr t) .nil)) hT (fun h => (fr T h).ne hT)⟩
      rw [Nat.zero_add]
      exact .int _
def diEnum (ts : TDA) : TDI := fun S Q => ts S fun ds => ∃ xs, ds = [.lst xs] ∧ Q (enumD 0 xs)
theorem di_enum (hm : X.mg "enumerate" = none) (ha : PA X [e] (lA ts)) (hg : Gl X "enumerate" := by rfl) (hs : starEach [e] X.env = [(false, eval e X.env)] := by rfl) : DI X (.Tuple elts kk tpos) (.Call (.Name "enumerate" p) [e] [] pos) (diEnum ts) :=
  ⟨_, pi_enum hg hm ha hs, fun g σ H Qd R s w k => ⟨g, _, s, w, fun ds vs H1 w1 x1 s1 r1 => by
    obtain ⟨xs, rfl, q⟩ := w1
    rcases r1 with _ | ⟨r1, r2⟩
    cases r2
    cases r1 with
    | lst h n l => exact ⟨_, _, rfl, .of h, k _ _ H1 q x1 s1 (Wk.enum h n l)⟩⟩⟩
/-- zip(xs, ys), two lists or two tuples -/
def zipD : List D → List D → List D
  | x :: xs, y :: ys => .tup [x, y] :: zipD xs ys
  | _, _ => []
theorem zipD_length : ∀ xs ys : List D, (zipD xs ys).length = min xs.length ys.length
  | [], ys => by simp [zipD]
  | _ :: _, [] => by simp [zipD]
  | x :: xs, y :: ys => by simp [zipD, zipD_length xs ys, Nat.succ_min_succ]
theorem zipD_get : ∀ (j : Nat) (xs ys : List D) {d : D}, (zipD xs ys)[j]? = some d → ∃ x y, xs[j]? = some x ∧ ys[j]? = some y ∧ d = .tup [x, y]
  | j, [], ys, d, h => by simp [zipD] at h
  | j, _ :: _, [], d, h => by simp [zipD] at h
  | 0, x :: xs, y :: ys, d, h => by simp [zipD] at h; exact ⟨x, y, rfl, rfl, h.symm⟩
  | j + 1, x :: xs, y :: ys, d, h => by
    simp only [zipD, List.getElem?_cons_succ] at h
    simpa using zipD_get j xs ys h
theorem Wk.zip {g : Gh} {H1 : Hp} {K : PySem.W.Frag} {a b : Addr} {xs ys : List V} {ds es : List D} (e : H1 a = some (.lst xs)) (n : ¬ g.M a) (l : RpL g.z g.M H1 xs ds) (e' : H1 b = some (.lst ys)) (n' : ¬ g.M b) (l' : RpL g.z g.M H1 ys es) : Wk g H1 (Itz K a b) (zipD ds es) where
  go := fun i H' h hi => by
    rw [zipD_length] at hi
    obtain ⟨v, hv, _⟩ := l.get (List.getElem?_eq_getElem (show i < ds.length by omega))
    obtain ⟨v', hv', _⟩ := l'.get (List.getElem?_eq_getElem (show i < es.length by omega))
    exact ⟨xs, ys, v, v', .of (h a _ n e), .of (h b _ n' e'), hv, hv'⟩
  stop := fun H' h => ⟨xs, ys, .of (h a _ n e), .of (h b _ n' e'), by rw [l.length, l'.length, zipD_length]; omega⟩
  yld := fun i H' x H'' d h y hd => by
    obtain ⟨T, v, v', rfl, hT, rfl, y, y'⟩ := y
    obtain ⟨x, y0, e1, e2, rfl⟩ := zipD_get i _ _ hd
    obtain ⟨w, hv, r⟩ := l.get e1
    obtain ⟨w', hv', r'⟩ := l'.get e2
    have := (y xs (.of (h a _ n e))).symm.trans hv
    cases this
    have := (y' ys (.of (h b _ n' e'))).symm.trans hv'
    cases this
    exact ⟨fun b o e => by rw [upd_ne (ne_of_none e hT)]; exact e, fun M' t fr => Rp.pair (.cons (r.tr t) (.cons (r'.tr t) .nil)) hT (fun h => (fr T h).ne hT)⟩
theorem Wk.zipT {g : Gh} {H1 : Hp} {K : PySem.W.Frag} {a b : Addr} {xs ys : List V} {ds es : List D} (e : H1 a = some (.tup xs)) (n : ¬ g.M a) (l : RpL g.z g.M H1 xs ds) (e' : H1 b = some (.tup ys)) (n' : ¬ g.M b) (l' : RpL g.z g.M H1 ys es) : Wk g H1 (RZ.ItzT K a b) (zipD ds es) where
  go := fun i H' h hi => by
    rw [zipD_length] at hi
    obtain ⟨v, hv, _⟩ := l.get (List.getElem?_eq_getElem (show i < ds.length by omega))
    obtain ⟨v', hv', _⟩ := l'.get (List.getElem?_eq_getElem (show i < es.length by omega))
    exact ⟨xs, ys, v, v', .of (h a _ n e), .of (h b _ n' e'), hv, hv'⟩
  stop := fun H' h => ⟨xs, ys, .of (h a _ n e), .of (h b _ n' e'), by rw [l.length, l'.length, zipD_length]; omega⟩
  yld := fun i H' x H'' d h y hd => by
    obtain ⟨T, v, v', rfl, hT, rfl, y, y'⟩ := y
    obtain ⟨x, y0, e1, e2, rfl⟩ := zipD_get i _ _ hd
    obtain ⟨w, hv, r⟩ := l.get e1
    obtain ⟨w', hv', r'⟩ := l'.get e2
    have := (y xs (.of (h a _ n e))).symm.trans hv
    cases this
    have := (y' ys (.of (h b _ n' e'))).symm.trans hv'
    cases this
    exact ⟨fun b o e => by rw [upd_ne (ne_of_none e hT)]; exact e, fun M' t fr => Rp.pair (.cons (r.tr t) (.cons (r'.tr t) .nil)) hT (fun h => (fr T h).ne hT)⟩
def diZip (ts : TDA) : TDI := fun S Q => ts S fun ds => ∃ xs ys, (ds = [.lst xs, .lst ys] ∨ ds = [.tup xs, .tup ys]) ∧ Q (zipD xs ys)
theorem di_zip {e2 : Expr} (hm : X.mg "zip" = none) (ha : PA X [e, e2] (lA ts)) (hg : Gl X "zip" := by rfl) (hs : starEach [e, e2] X.env = (false, eval e X.env) :: starEach [e2] X.env := by rfl) (hpl : (backTo pos (starEach [e2] X.env)).any (·.1) = false := by rfl) :
    DI X (.Tuple elts kk tpos) (.Call (.Name "zip" p) [e, e2] [] pos) (diZip ts) :=
  ⟨_, RZ.pi_zipA hg hm ha hs hpl, fun g σ H Qd R s w k => ⟨g, _, s, w, fun ds vs H1 w1 x1 s1 r1 => by
    obtain ⟨xs, ys, hh, q⟩ := w1
    rcases hh with rfl | rfl
    · rcases r1 with _ | ⟨r1, r2⟩
      rcases r2 with _ | ⟨r2, r3⟩
      cases r3
      cases r1 with
      | lst h n l =>
        cases r2 with
        | lst h' n' l' => exact ⟨_, _, _, _, rfl, .inl ⟨.of h, .of h', k _ _ H1 q x1 s1 (Wk.zip h n l h' n' l')⟩⟩
    · rcases r1 with _ | ⟨r1, r2⟩
      rcases r2 with _ | ⟨r2, r3⟩
      cases r3
      cases r1 with
      | tup h n l =>
        cases r2 with
        | tup h' n' l' => exact ⟨_, _, _, _, rfl, .inr ⟨.of h, .of h', k _ _ H1 q x1 s1 (Wk.zipT h n l h' n' l')⟩⟩⟩⟩
end
end L2.DL
namespace L2.DL
open PySem PySem.Spec PyProof.Rows
abbrev TDG := D → SS → (SS → Prop) → Prop
abbrev TDGs := List D → SS → (SS → Prop) → Prop
def lG (is : List Nat) (t : TDG) : TG := fun v σ H Q => ∃ (g : Gh) (d : D) (Qd : SS → Prop), Stt g σ H ∧ Rp g.z g.M H v d ∧ t d g.S Qd ∧ ∀ S' σ', Stt { g with S := S' } σ' H → (∀ j, j ∉ is → σ'[j]? = σ[j]?) → σ'.length = σ.length → Qd S' → Q σ' H
def lGs (is : List Nat) (t : TDGs) : TGs := fun vs σ H Q => ∃ (g : Gh) (ds : List D) (Qd : SS → Prop), Stt g σ H ∧ RpL g.z g.M H vs ds ∧ t ds g.S Qd ∧ ∀ S' σ', Stt { g with S := S' } σ' H → (∀ j, j ∉ is → σ'[j]? = σ[j]?) → σ'.length = σ.length → Qd S' → Q σ' H
section
variable {X : Cx} {tg : Expr} {pos : Pos} {x : Str} {i : Nat} {es : List Expr} {e : Expr} {is js : List Nat}
theorem PG.imp {t t' : TG} (h : PG X tg t) (k : ∀ v σ H Q, t' v σ H Q → t v σ H Q) : PG X tg t' := ⟨fun pins s σ H v u Q I r w => h.run pins s σ H v u Q I r (k _ _ _ _ w)⟩
theorem PGs.imp {t t' : TGs} (h : PGs X es t) (k : ∀ v σ H Q, t' v σ H Q → t v σ H Q) : PGs X es t' := ⟨fun pins s σ H v u Q I r w => h.run pins s σ H v u Q I r (k _ _ _ _ w)⟩
def dgName (i : Nat) : TDG := fun d S Q => Q (S.set i (.val d))
theorem dg_name (hN : X.N.Nodup) (hi : X.N[i]? = some x) (hx : Loc X.env.scope x) (hf : X.fn x = true ∨ X.env.scope.names.lookup x = some .local := by first | exact .inl rfl | exact .inr rfl | assumption) : PG X (.Name x pos) (lG [i] (dgName i)) :=
  PG.imp (pg_name hN hi hx hf) fun v σ H Q ⟨g, d, Qd, s, r, w, k⟩ => k _ _ (s.setVal r) (fun j hj => List.getElem?_set_ne (by simpa using Ne.symm (by simpa using hj))) (List.length_set ..) w
def dgNil : TDGs := fun ds S Q => ds = [] ∧ Q S
def dgCons (t : TDG) (u : TDGs) : TDGs := fun ds S Q => ∃ d r, ds = d :: r ∧ t d S fun S' => u r S' Q
theorem dgs_nil : PGs X [] (lGs [] dgNil) := PGs.imp pgs_nil fun vs σ H Q ⟨g, ds, Qd, s, r, w, k⟩ => by
  obtain ⟨rfl, w⟩ := w
  cases r
  exact ⟨rfl, k g.S σ s (fun _ _ => rfl) rfl w⟩
theorem dgs_cons {t : TDG} {u : TDGs} (h1 : PG X e (lG is t)) (h2 : PGs X es (lGs js u)) (hs : (assignEach (e :: es) X.env).map (·.2) = assign e X.env :: (assignEach es X.env).map (·.2) := by rfl) : PGs X (e :: es) (lGs (is ++ js) (dgCons t u)) :=
  PGs.imp (pgs_cons h1 h2 hs) fun vs σ H Q ⟨g, ds, Qd, s, r, w, k⟩ => by
    obtain ⟨d, ds', rfl, w⟩ := w
    rcases r with _ | ⟨r1, r2⟩
    refine ⟨_, _, rfl, g, d, _, s, r1, w, fun S' σ' s' hs' hl' q => ?_⟩
    refine ⟨{ g with S := S' }, ds', Qd, s', r2, q, fun S2 σ2 s2 hs2 hl2 q2 => k S2 σ2 s2 (fun j hj => ?_) (hl2.trans hl') q2⟩
    simp only [List.mem_append, not_or] at hj
    rw [hs2 j hj.2, hs' j hj.1]
def dgTup (n : Nat) (t : TDGs) : TDG := fun d S Q => ∃ ds, d = .tup ds ∧ ds.length = n ∧ t ds S Q
theorem dg_tup {k n : Nat} {t : TDGs} (h : PGs X es (lGs is t)) (hc : X.calm = true := by rfl) (hn : (assignEach es X.env).length = n := by rfl) (hst : (assignEach es X.env).findIdx? (·.1) = none := by rfl) : PG X (.Tuple es k pos) (lG is (dgTup n t)) :=
  PG.imp (pg_tup hc h hn hst) fun v σ H Q ⟨g, d, Qd, s, r, w, k⟩ => by
    obtain ⟨ds, rfl, hl, w⟩ := w
    cases r with
    | tup h n l => exact ⟨_, _, rfl, .of h, by rw [l.length]; exact hl, g, ds, Qd, s, l, w, k⟩
/-- target = value -/
def dsAsg (te : TDE) (t : TDG) : TDS := fun De S => te S fun d => t d S De.nx
theorem ds_asg {te : TDE} {t : TDG} {pos : Pos} (he : PE X e (lE te)) (hg : PG X tg (lG is t)) (hs : swapsWithSole [tg] e pos.line X.env = pure false := by rfl) (hw : swappedStores [tg] e X.env = pure none := by rfl)
    (h1 : (assignEach [tg] X.env).map (·.2) = [assign tg X.env] := by rfl) : PS X (.Assign [tg] e pos) (lS (dsAsg te t)) := PS.imp (ps_asg he hg hs hw h1) fun D σ H ⟨g, De, s, w, l⟩ =>
  ⟨g, _, s, w, fun d v H1 w1 x1 s1 r1 => ⟨g, d, _, s1, r1, w1, fun S' σ' s' _ _ q => l.nx g.ow S' σ' H1 s' q⟩⟩
end
open Classical in
noncomputable def reb (g : Gh) (H : Hp) : Gh := { g with H0 := fun b => if ∃ i, g.ow i = some b then none else H b }
theorem reb_at {g : Gh} {H : Hp} {b : Addr} (h : ¬ ∃ i, g.ow i = some b) : (reb g H).H0 b = H b := if_neg h
theorem reb_own {g : Gh} {H : Hp} {b : Addr} (h : ∃ i, g.ow i = some b) : (reb g H).H0 b = none := if_pos h
theorem Stt.reb {g : Gh} {σ : St} {H : Hp} (s : Stt g σ H) : Stt (reb g H) σ H where
  rs := fun i as φ e => (s.rs i as φ e).tr (Tr.of fun _ _ n e => ⟨e, n⟩) (fun _ _ _ q => q) rfl fun _ => rfl
  len := s.len
  val := s.val
  own := s.own
  inj := s.inj
  new := fun i a e => ⟨reb_own ⟨i, e⟩, (s.new i a e).2⟩
  alive := s.alive
  keep := fun a o e n => by
    by_cases h : ∃ i, g.ow i = some a
    · rw [reb_own h] at e; cases e
    · rw [reb_at h] at e; exact e
  bag := s.bag
  ex := ⟨fun a o ha na => by
    have h1 := s.ex.e0 a o ha na
    rw [reb_at fun ⟨j, h⟩ => by rw [(s.new j a h).1] at h1; cases h1]
    exact s.keep a o h1 na, s.ex.em, s.ex.ea, s.ex.el, s.ex.ez, s.ex.en⟩
theorem Stt.unreb {g : Gh} {σ σ' : St} {H H' : Hp} {ow : Ix → Option Addr} {S : SS} (s0 : Stt g σ H) (s : Stt { DL.reb g H with ow := ow, S := S } σ' H') : Stt { g with ow := ow, S := S } σ' H' := by
  have key : ∀ a o, g.H0 a = some o → ¬ isB g.z a → (DL.reb g H).H0 a = some o := fun a o e n => by
    rw [reb_at (fun ⟨i, h⟩ => by rw [(s0.new i a h).1] at e; cases e)]
    exact s0.keep a o e n
  refine ⟨fun i as φ e => (s.rs i as φ e).tr (Tr.of fun _ _ n e => ⟨e, n⟩) (fun _ _ _ q => q) rfl fun _ => rfl, s.len, s.val, s.own, s.inj, fun i a e => ⟨?_, (s.new i a e).2⟩, s.alive, fun a o e n => s.keep a o (key a o e n) n, s.bag, s0.ex.e0, s.ex.em, s.ex.ea, s.ex.el, s.ex.ez, s.ex.en⟩
  cases q : g.H0 a with
  | none => rfl
  | some o =>
    have h1 := key a o q fun h => (s.new i a e).2.2 h.res
    have h2 : (DL.reb g H).H0 a = none := (s.new i a e).1
    rw [h1] at h2; cases h2
/-- at a later state of the loop -/
theorem lat_of {g : Gh} {σ σ' : St} {H H' : Hp} {ow : Ix → Option Addr} {S : SS} (s : Stt { reb g H with ow := ow, S := S } σ' H') : Lat g H H' := fun b o n e => by
  refine s.keep b o ?_ fun h => n (res_M h.res)
  show (reb g H).H0 b = some o
  rw [reb_at fun h => n (.inr (.inr h))]; exact e
theorem tr_of {g : Gh} {σ σ' : St} {H H' : Hp} {ow : Ix → Option Addr} {S : SS} (s : Stt { reb g H with ow := ow, S := S } σ' H') : Tr g.M H (Mo g.M0 g.z ow) H' := Tr.of fun b o n e => by
  refine ⟨lat_of (σ := σ') s b o n e, fun h => ?_⟩
  rcases h with h | h | ⟨i, h⟩
  · exact n (.inl h)
  · exact n (.inr (.inl h))
  · have h2 : (reb g H).H0 b = none := (s.new i b h).1
    rw [reb_at fun h => n (.inr (.inr h)), e] at h2; cases h2
theorem BagOk.grow {z : Bz} {H H' : Hp} (b : BagOk z H) (g : Grow H H') : BagOk z H' where
  bg := fun a l e => by
    obtain ⟨ne, ns, at_, big, seed, cnt, e1, e2, r⟩ := b.bg a l e
    exact ⟨ne, ns, at_, big, seed, cnt, g _ _ e1, g _ _ e2, r⟩
  tb := fun P e => (b.tb P e).keeps g
  ap := b.ap
def wpFor (body : D → TDS) : List D → TDS
  | [] => fun De S => De.nx S
  | d :: ds => fun De S => body d { De with nx := wpFor body ds De, ct := wpFor body ds De, bk := De.nx } S
def dsFor (ti : TDI) (tg : TDG) (tb : TDS) : TDS := fun De S => ti S fun ds => wpFor (fun d De' S' => tg d S' fun S2 => tb De' S2) ds De S
section
variable {X : Cx} {tg iter c : Expr} {pos : Pos} {is : List Nat} {body : List Stmt} {ti : TDI} {tgd : TDG} {tb : TDS} {tt : TDT}
theorem ds_for (hi : DI X tg iter ti) (hg : PG X tg (lG is tgd)) (hb : PSs X body (lS tb)) (hp : PassesOwn (model X.prog X.w) X.A X.env X.xe := by exact PassesOwn.never) (hc : X.calm = true := by rfl)
    (hs : ∀ x, foldedSetIterable iter X.env x = pure x := by intro _; rfl) : PS X (.For tg iter body [] pos) (lS (dsFor ti tgd tb)) := by
  obtain ⟨wi, hpi, hw⟩ := hi
  refine PS.imp (ps_for hp hc hpi hg hb hs) fun D σ H ⟨g, De, s, w, l⟩ => ?_
  refine hw g σ H _ _ s w fun ds J H1 w1 x1 s1 wk => ?_
  refine ⟨fun i m σ' H' => m = ds.length - i ∧ i ≤ ds.length ∧ ∃ (ow : Ix → Option Addr) (S : SS), Stt { reb g H1 with ow := ow, S := S } σ' H' ∧ wpFor (fun d De' S' => tgd d S' fun S2 => tb De' S2) (ds.drop i) De S,
    ⟨ds.length, by simp, Nat.zero_le _, g.ow, g.S, s1.reb, w1⟩, ?_⟩
  rintro i m σ' H' ⟨rfl, hi, ow, S, s', w'⟩
  by_cases hlt : i < ds.length
  · have ed : ds.drop i = ds[i] :: ds.drop (i + 1) := List.drop_eq_getElem_cons hlt
    rw [ed] at w'
    refine .inr ⟨wk.go i H' (lat_of (σ := σ') s') hlt, fun σ2 H2 => ∃ (ow : Ix → Option Addr) (S : SS), Stt { reb g H1 with ow := ow, S := S } σ2 H2 ∧ wpFor (fun d De' S' => tgd d S' fun S2 => tb De' S2) (ds.drop (i + 1)) De S,
      fun σ2 H2 ⟨ow2, S2, s2, w2⟩ => ⟨ds.length - (i + 1), by omega, rfl, hlt, ow2, S2, s2, w2⟩, fun x H'' y => ?_⟩
    obtain ⟨gr, rp⟩ := wk.yld i H' x H'' ds[i] (lat_of (σ := σ') s') y (List.getElem?_eq_getElem hlt)
    have r := rp _ (tr_of (σ := σ') s') s'.alive
    have s'' : Stt { reb g H1 with ow := ow, S := S } σ' H'' := s'.ext (fun a o e _ => gr a o e) (s'.bag.grow gr)
    refine ⟨_, ds[i], _, s'', r, w', fun S3 σ3 s3 _ _ w3 => ?_⟩
    refine ⟨{ reb g H1 with ow := ow, S := S3 }, _, s3, w3, ⟨fun ow4 S4 σ4 H4 s4 w4 => ⟨ow4, S4, s4, w4⟩, fun ow4 S4 σ4 H4 s4 w4 => l.nx ow4 S4 σ4 H4 (s1.unreb s4) w4, fun ow4 S4 σ4 H4 s4 w4 => ⟨ow4, S4, s4, w4⟩, fun d v H4 q x b r => ?_, fun d a H4 q x b hn nm o => ?_, fun ds' p as H4 q x b fr => ?_⟩⟩
    · refine l.rt d v H4 q (fun a o e n => ?_) b r
      refine x a o ?_ n
      show (reb g H1).H0 a = some o
      rw [reb_at fun ⟨j, h⟩ => by rw [(s1.new j a h).1] at e; cases e]
      exact s1.keep a o e n
    · have kk : ∀ a o, g.H0 a = some o → ¬ isB g.z a → (reb g H1).H0 a = some o := fun a o e n => by
        rw [reb_at fun ⟨j, h⟩ => by rw [(s1.new j a h).1] at e; cases e]
        exact s1.keep a o e n
      refine l.rf d a H4 q (fun a o e n => x a o (kk a o e n) n) b ?_ nm o
      cases q0 : g.H0 a with
      | none => rfl
      | some u =>
        have h1 := kk a u q0 fun h => nm (.inr (.inl h.res))
        have h2 : (reb g H1).H0 a = none := hn
        rw [h1] at h2; cases h2
    · have kk : ∀ a o, g.H0 a = some o → ¬ isB g.z a → (reb g H1).H0 a = some o := fun a o e n => by
        rw [reb_at fun ⟨j, h⟩ => by rw [(s1.new j a h).1] at e; cases e]
        exact s1.keep a o e n
      refine l.rg ds' p as H4 q (fun a o e n => x a o (kk a o e n) n) b ⟨fr.at_, fr.nd, fun a ha => ⟨?_, (fr.fr a ha).2⟩, fr.len, fr.ow⟩
      cases q0 : g.H0 a with
      | none => rfl
      | some u =>
        have h1 := kk a u q0 fun h => (fr.fr a ha).2 (.inr (.inl h.res))
        have h2 : (reb g H1).H0 a = none := (fr.fr a ha).1
        rw [h1] at h2; cases h2
  · have e : i = ds.length := by omega
    subst e
    rw [List.drop_length] at w'
    exact .inl ⟨wk.stop H' (lat_of (σ := σ') s'), l.nx ow S σ' H' (s1.unreb s') w'⟩
def wpWhile (c : TDT) (tb : TDS) : Nat → TDS
  | 0 => fun _ _ => False
  | n + 1 => fun De S => c S fun k => if k = true then tb { De with nx := wpWhile c tb n De, ct := wpWhile c tb n De, bk := De.nx } S else De.nx S
def dsWhile (c : TDT) (tb : TDS) : TDS := fun De S => ∃ n, wpWhile c tb n De S
theorem ds_while (hc : PT X c (lT tt)) (hb : PSs X body (lS tb)) (hp : PassesOwn (model X.prog X.w) X.A X.env X.xe := by exact PassesOwn.never) : PS X (.While c body [] pos) (lS (dsWhile tt tb)) := by
  refine PS.imp (ps_while hp hc hb) fun D σ H ⟨g, De, s, ⟨n, w⟩, l⟩ => ?_
  refine ⟨fun m σ' H' => ∃ (ow : Ix → Option Addr) (S : SS), Stt { g with ow := ow, S := S } σ' H' ∧ wpWhile tt tb m De S, ⟨n, g.ow, g.S, s, w⟩, ?_⟩
  rintro m σ' H' ⟨ow, S, s', w'⟩
  cases m with
  | zero => exact w'.elim
  | succ m =>
    refine ⟨{ g with ow := ow, S := S }, _, s', w', fun k H1 w1 x1 s1 => ?_⟩
    cases k with
    | false => exact l.nx ow S σ' H1 s1 w1
    | true =>
      refine ⟨fun σ2 H2 => ∃ (ow : Ix → Option Addr) (S : SS), Stt { g with ow := ow, S := S } σ2 H2 ∧ wpWhile tt tb m De S, fun σ2 H2 h => ⟨m, Nat.lt_succ_self _, h⟩, ?_⟩
      exact ⟨{ g with ow := ow, S := S }, _, s1, w1, ⟨fun ow4 S4 σ4 H4 s4 w4 => ⟨ow4, S4, s4, w4⟩, fun ow4 S4 σ4 H4 s4 w4 => l.nx ow4 S4 σ4 H4 s4 w4, fun ow4 S4 σ4 H4 s4 w4 => ⟨ow4, S4, s4, w4⟩, l.rt, l.rf, l.rg⟩⟩
end
end L2.DL
namespace L2.DL
open PySem PySem.Spec PyProof.Rows
def wipeS (S : SS) : List Nat → SS
  | [] => S
  | v :: vs => (wipeS S vs).set v .no
theorem wipeS_length (S : SS) : ∀ vs : List Nat, (wipeS S vs).length = S.length
  | [] => rfl
  | v :: vs => by unfold wipeS; rw [List.length_set, wipeS_length S vs]
theorem wipeS_some {S : SS} {i : Nat} {x : Sl} : ∀ {vs : List Nat}, (wipeS S vs)[i]? = some x → x ≠ .no → S[i]? = some x ∧ i ∉ vs
  | [], h, _ => ⟨h, by simp⟩
  | v :: vs, h, hx => by
    unfold wipeS at h
    rw [List.getElem?_set] at h
    by_cases hi : v = i
    · subst hi
      rw [if_pos rfl] at h
      split at h
      · cases h; exact (hx rfl).elim
      · cases h
    · rw [if_neg hi] at h
      obtain ⟨h1, h2⟩ := wipeS_some h hx
      exact ⟨h1, by simp only [List.mem_cons, not_or]; exact ⟨fun e => hi e.symm, h2⟩⟩
theorem wipe_at {σ : St} {i : Nat} : ∀ {vs : List Nat}, i ∈ vs → (wipe σ vs)[i]? = if i < σ.length then some none else none
  | v :: vs, h => by
    unfold wipe
    rw [List.getElem?_set]
    by_cases hi : v = i
    · subst hi
      rw [if_pos rfl, wipe_length]
    · rw [if_neg hi]
      exact wipe_at ((List.mem_cons.mp h).resolve_left fun e => hi e.symm)
theorem wipe_eq {σ σ' : St} {vs is : List Nat} (h : ∀ j, j ∉ is → σ'[j]? = (wipe σ vs)[j]?) (hl : σ'.length = σ.length) (hs : ∀ j ∈ is, j ∈ vs) : wipe σ' vs = wipe σ vs := by
  apply List.ext_getElem?
  intro j
  by_cases hj : j ∈ vs
  · rw [wipe_at hj, wipe_at hj, hl]
  · rw [wipe_out hj]
    exact h j fun e => hj (hs j e)
theorem Stt.wipe {g : Gh} {σ : St} {H : Hp} (s : Stt g σ H) (vs : List Nat) : Stt { g with S := wipeS g.S vs } (wipe σ vs) H where
  rs := fun i as φ e => (s.rs i as φ (wipeS_some e (by intro h; cases h)).1).tr (Tr.of fun _ _ n e => ⟨e, n⟩) (fun _ _ _ q => q) rfl fun _ => rfl
  len := by show (wipeS g.S vs).length = _; rw [wipeS_length, wipe_length]; exact s.len
  val := fun i d e => by
    obtain ⟨e1, hi⟩ := wipeS_some e (by intro h; cases h)
    obtain ⟨v, e2, r⟩ := s.val i d e1
    exact ⟨v, by rw [wipe_out hi]; exact e2, r⟩
  own := fun i d e => by
    obtain ⟨e1, hi⟩ := wipeS_some e (by intro h; cases h)
    obtain ⟨v, e2, r⟩ := s.own i d e1
    exact ⟨v, by rw [wipe_out hi]; exact e2, r⟩
  inj := s.inj
  new := s.new
  alive := s.alive
  keep := s.keep
  bag := s.bag
  ex := ⟨s.ex.e0, s.ex.em, s.ex.ea, fun i E Ed e => s.ex.el i E Ed (wipeS_some e (by intro h; cases h)).1, fun i p e => s.ex.ez i p (wipeS_some e (by intro h; cases h)).1, s.ex.en⟩
/-- with one more address that is apart -/
def withD (g : Gh) (a : Addr) : Gh := { g with M0 := fun b => g.M0 b ∨ b = a }
theorem withD_M {g : Gh} {a b : Addr} : (withD g a).M b ↔ g.M b ∨ b = a := by
  constructor
  · rintro ((h | h) | h | h)
    · exact .inl (.inl h)
    · exact .inr h
    · exact .inl (.inr (.inl h))
    · exact .inl (.inr (.inr h))
  · rintro ((h | h | h) | h)
    · exact .inl (.inl h)
    · exact .inr (.inl h)
    · exact .inr (.inr h)
    · exact .inl (.inr h)
theorem Stt.withD {g : Gh} {σ : St} {H : Hp} {a : Addr} {o : HO} (s : Stt g σ H) (ha : H a = none) (no : NtO o := by exact trivial) : Stt (withD g a) σ (upd H a o) := by
  have tr : Tr g.M H (DL.withD g a).M (upd H a o) := Tr.of fun b u n e => by
    have ne := ne_of_none e ha
    exact ⟨by rw [upd_ne ne]; exact e, fun h => (withD_M.mp h).elim n ne⟩
  have s' := s.alloc (o := o) ha
  refine ⟨fun j as φ e => (s.rs j as φ e).tr tr (fun c hc o q => by rw [upd_ne (ne_of_none q ha)]; exact q) rfl fun _ => rfl, s.len, fun i d e => ?_, fun i d e => ?_, s.inj, fun i b e => ⟨(s.new i b e).1, fun h => ?_, (s.new i b e).2.2⟩, fun b h => ?_, s'.keep, s'.bag, s.ex.more (fun _ h => .inl h) fun b h => h.elim .inl fun h => .inr (by rw [h]; exact s.x0 ha)⟩
  · obtain ⟨v, e1, r⟩ := s.val i d e
    exact ⟨v, e1, r.tr tr⟩
  · obtain ⟨v, e1, e2, r⟩ := s.own i d e
    refine ⟨v, e1, e2, r.tr tr fun u q => ?_⟩
    rw [upd_ne (ne_of_none q ha)]; exact q
  · rcases h with h | h
    · exact (s.new i b e).2.1 h
    · subst h
      exact (s.alive b (.inr (.inr ⟨i, e⟩))).ne ha
  · rcases withD_M.mp h with h | rfl
    · exact s'.alive b h
    · exact Nt.upd no
def wpMap (f : D → (List D → Prop) → Prop) : List D → (List D → Prop) → Prop
  | [], Q => Q []
  | d :: ds, Q => f d fun r => wpMap f ds fun rs => Q (r ++ rs)
def dtsNil : TDT := fun _ Q => Q true
def ExtA (z : Bz) (A : Addr) (H H' : Hp) : Prop := ∀ b o, H b = some o → ¬ isB z b → b ≠ A → H' b = some o
theorem ExtA.trans {z : Bz} {A : Addr} {H H1 H2 : Hp} (a : ExtA z A H H1) (b : ExtA z A H1 H2) : ExtA z A H H2 := fun c o e n m => b c o (a c o e n m) n m
theorem Ext.A {z : Bz} {A : Addr} {H H' : Hp} (x : Ext z H H') : ExtA z A H H' := fun b o e n _ => x b o e n
theorem ExtA.upd {z : Bz} {A : Addr} {H H' : Hp} {o : HO} (x : ExtA z A H H') : ExtA z A H (upd H' A o) := fun b u e n m => by rw [upd_ne m]; exact x b u e n m
theorem ExtA.tr {g : Gh} {A : Addr} {H H' : Hp} (x : ExtA g.z A H H') (hm : g.M A) : Tr g.M H g.M H' := Tr.of fun b o n e => ⟨x b o e (fun h => n (res_M h.res)) fun h => by subst h; exact n hm, n⟩
theorem Stt.extA {g : Gh} {σ : St} {A : Addr} {H H' : Hp} (s : Stt g σ H) (hm : g.M0 A) (h0 : g.H0 A = none) (x : ExtA g.z A H H') (b : BagOk g.z H') (hA : Nt H' A) : Stt g σ H' := by
  have tr := x.tr (.inl hm)
  have nA : ∀ (i : Ix) a, g.ow i = some a → a ≠ A := fun i a e h => by subst h; exact (s.new i a e).2.1 hm
  refine ⟨fun j as φ e => (s.rs j as φ e).tr tr (fun c hc o q => x c o q (fun h => (s.rsNew e hc).2.2 h.res) (by rintro rfl; exact (s.rsNew e hc).2.1 hm)) rfl fun _ => rfl, s.len, fun i d e => ?_, fun i d e => ?_, s.inj, s.new, fun a h => ?_, fun a o e n => x a o (s.keep a o e n) n (fun h => by subst h; rw [h0] at e; cases e), b, s.ex⟩
  · obtain ⟨v, e1, r⟩ := s.val i d e
    exact ⟨v, e1, r.tr tr⟩
  · obtain ⟨v, e1, e2, r⟩ := s.own i d e
    exact ⟨v, e1, e2, r.tr tr fun o q => x v o q (fun h => (s.new i v e2).2.2 h.res) (nA i v e2)⟩
  · by_cases ha : a = A
    · subst ha; exact hA
    · by_cases hb : resB g.z a
      · exact b.alive hb
      · obtain ⟨o, e, n⟩ := s.alive a h
        exact ⟨o, x a o e (fun h => hb h.res) ha, n⟩
structure WkA (g : Gh) (A : Addr) (H1 : Hp) (J : It) (ds : List D) : Prop where
  go : ∀ i H', ExtA g.z A H1 H' → i < ds.length → J.go i H'
  stop : ∀ H', ExtA g.z A H1 H' → J.stop ds.length H'
  yld : ∀ (i : Nat) H' x H'' d, ExtA g.z A H1 H' → (∀ p, g.M p → Nt H' p) → J.yld i H' x H'' → ds[i]? = some d → Grow H' H'' ∧ Rp g.z g.M H'' x d
theorem lc_gen {g : Gh} {A : Addr} {σ : St} {H1 : Hp} {vs is : List Nat} {J : It} {ds : List D} {tgd : TDG} {B : St → Hp → (Hp → Prop) → Prop} {fB : SS → (List D → Prop) → Prop} {N : Hp → Prop} {xs0 : List V} {rs0 : List D} {Qr : List D → Prop}
    (s1 : Stt g σ H1) (hm : g.M0 A) (h0 : g.H0 A = none) (hr : ¬ resB g.z A) (wk : WkA g A H1 J ds) (hv : ∀ j ∈ is, j ∈ vs) (c : Nat)
    (hB : ∀ (S' : SS) (σ' : St) (H' : Hp) (xs : List V) (rs : List D) (Qr : List D → Prop) (Nx : Hp → Prop), Stt { g with S := S' } σ' H' → H' A = some (.lst xs) → RpL g.z g.M H' xs rs → rs.length + c ≤ sizeLine → fB S' Qr →
      (∀ H2 xs2 r, ExtA g.z A H' H2 → BagOk g.z H2 → H2 A = some (.lst xs2) → RpL g.z g.M H2 xs2 (rs ++ r) → r.length ≤ c → Qr r → Nx H2) → B σ' H' Nx)
    (e0 : H1 A = some (.lst xs0)) (l0 : RpL g.z g.M H1 xs0 rs0) (hb : rs0.length + ds.length * c ≤ sizeLine) (w : wpMap (fun d k => tgd d (wipeS g.S vs) fun S2 => fB S2 k) ds Qr)
    (hN : ∀ H2 xs2 r, ExtA g.z A H1 H2 → BagOk g.z H2 → H2 A = some (.lst xs2) → RpL g.z g.M H2 xs2 (rs0 ++ r) → r.length ≤ ds.length * c → Qr r → N H2) :
    ∃ W : Nat → Nat → Hp → Prop, (∃ m, W 0 m H1) ∧ ∀ i m H, W i m H → (J.stop i H ∧ N H) ∨ (J.go i H ∧ ∃ Nx : Hp → Prop, (∀ H', Nx H' → ∃ m', m' < m ∧ W (i + 1) m' H') ∧
      ∀ x H', J.yld i H x H' → lG is tgd x (L2.wipe σ vs) H' fun σ2 H2 => L2.wipe σ2 vs = L2.wipe σ vs ∧ B σ2 H2 Nx) := by
  refine ⟨fun i m H' => m = ds.length - i ∧ i ≤ ds.length ∧ ∃ xs r, ExtA g.z A H1 H' ∧ BagOk g.z H' ∧ H' A = some (.lst xs) ∧ RpL g.z g.M H' xs (rs0 ++ r) ∧ r.length ≤ i * c ∧ wpMap (fun d k => tgd d (wipeS g.S vs) fun S2 => fB S2 k) (ds.drop i) fun rest => Qr (r ++ rest),
    ⟨ds.length, by simp, Nat.zero_le _, xs0, [], fun b o e _ _ => e, s1.bag, e0, by simpa using l0, Nat.zero_le _, w⟩, ?_⟩
  rintro i m H' ⟨rfl, hi, xs, r, x, b, ea, l, hrl, w'⟩
  have s' : Stt g σ H' := s1.extA hm h0 x b ⟨_, ea, trivial⟩
  by_cases hlt : i < ds.length
  · have ed : ds.drop i = ds[i] :: ds.drop (i + 1) := List.drop_eq_getElem_cons hlt
    rw [ed] at w'
    have hmul : (i + 1) * c ≤ ds.length * c := Nat.mul_le_mul_right c hlt
    have hmul2 : (i + 1) * c = i * c + c := by rw [Nat.add_mul, Nat.one_mul]
    refine .inr ⟨wk.go i H' x hlt, fun H2 => ∃ xs r, ExtA g.z A H1 H2 ∧ BagOk g.z H2 ∧ H2 A = some (.lst xs) ∧ RpL g.z g.M H2 xs (rs0 ++ r) ∧ r.length ≤ (i + 1) * c ∧ wpMap (fun d k => tgd d (wipeS g.S vs) fun S2 => fB S2 k) (ds.drop (i + 1)) fun rest => Qr (r ++ rest),
      fun H2 h => ⟨ds.length - (i + 1), by omega, rfl, hlt, h⟩, fun v H'' y => ?_⟩
    obtain ⟨gr, rp⟩ := wk.yld i H' v H'' ds[i] x s'.alive y (List.getElem?_eq_getElem hlt)
    have x'' : Ext g.z H' H'' := fun a o e _ => gr a o e
    have s'' := (s'.ext x'' (b.grow gr)).wipe vs
    refine ⟨{ g with S := wipeS g.S vs }, ds[i], _, s'', rp, w', fun S3 σ3 s3 hs3 hl3 w3 => ⟨wipe_eq hs3 (by rw [hl3, wipe_length]) hv, ?_⟩⟩
    refine hB S3 σ3 H'' xs (rs0 ++ r) _ _ s3 (gr _ _ ea) (l.ext x'') (by rw [List.length_append]; omega) w3 fun H2 xs2 r2 x2 b2 ea2 l2 hr2 q2 => ?_
    refine ⟨xs2, r ++ r2, (x.trans x''.A).trans x2, b2, ea2, by rw [← List.append_assoc]; exact l2, by rw [List.length_append]; omega, ?_⟩
    simpa [List.append_assoc] using q2
  · have e : i = ds.length := by omega
    subst e
    rw [List.drop_length] at w'
    exact .inl ⟨wk.stop H' x, hN H' xs r x b ea l hrl (by simpa [wpMap] using w')⟩
def lcF (tt : TDT) (te : TDE) : SS → (List D → Prop) → Prop := fun S2 k => tt S2 fun b => if b = true then te S2 fun r => k [r] else k []
def lcB (A : Addr) (tt : TT) (te : TE) : St → Hp → (Hp → Prop) → Prop := fun σ2 H2 Nx => tt σ2 H2 fun b H3 => if b = true then te σ2 H3 fun y H4 => ∃ acc, H4 A = some (.lst acc) ∧ acc.length < sizeLine ∧ Nx (upd H4 A (.lst (acc ++ [y]))) else Nx H3
theorem lcB_ok {g : Gh} {A : Addr} {tt : TDT} {te : TDE} (hm : g.M0 A) (hr : ¬ resB g.z A) (S' : SS) (σ' : St) (H' : Hp) (xs : List V) (rs : List D) (Qr : List D → Prop) (Nx : Hp → Prop) (s : Stt { g with S := S' } σ' H') (ea : H' A = some (.lst xs)) (l : RpL g.z g.M H' xs rs) (hz : rs.length + 1 ≤ sizeLine) (w : lcF tt te S' Qr)
      (k : ∀ H2 xs2 r, ExtA g.z A H' H2 → BagOk g.z H2 → H2 A = some (.lst xs2) → RpL g.z g.M H2 xs2 (rs ++ r) → r.length ≤ 1 → Qr r → Nx H2) : lcB A (lT tt) (lE te) σ' H' Nx := by
  refine ⟨_, _, s, w, fun b H3 w3 x3 s3 => ?_⟩
  have ea3 := x3 A _ ea fun h => hr h.res
  cases b with
  | false => exact k H3 xs [] x3.A s3.bag ea3 (by simpa using l.ext x3) (by simp) w3
  | true =>
    refine ⟨_, _, s3, w3, fun d v H4 w4 x4 s4 r4 => ?_⟩
    have ea4 := x4 A _ ea3 fun h => hr h.res
    have hA : g.M A := .inl hm
    refine ⟨xs, ea4, by rw [l.length]; omega, k _ _ [d] (ExtA.upd (x3.trans x4).A) ?_ upd_same ?_ (by simp) w4⟩
    · exact s4.bag.mut hr fun c q e => by rw [ea4] at e; cases e
    · exact (((l.ext x3).ext x4).append (.one r4)).tr (tr_mut hA _)
/-- [e for t in it if c] -/
def dLc (ti : TDI) (tgd : TDG) (tt : TDT) (te : TDE) (vs : List Nat) : TDE := fun S Q => ti S fun ds => ds.length ≤ sizeLine ∧ wpMap (fun d k => tgd d (wipeS S vs) fun S2 => lcF tt te S2 k) ds fun rs => Q (.lst rs)
theorem Wk.A {g : Gh} {A : Addr} {H1 : Hp} {J : It} {ds : List D} {o : HO} (wk : Wk g H1 J ds) (hA : H1 A = none) : WkA (withD g A) A (upd H1 A o) J ds := by
  have lat : ∀ {H'}, ExtA g.z A (upd H1 A o) H' → Lat g H1 H' := fun {H'} x b u n e => x b u (by rw [upd_ne (ne_of_none e hA)]; exact e) (fun h => n (res_M h.res)) (ne_of_none e hA)
  refine ⟨fun i H' x hi => wk.go i H' (lat x) hi, fun H' x => wk.stop H' (lat x), fun i H' v H'' d x fr y hd => ?_⟩
  obtain ⟨gr, rp⟩ := wk.yld i H' v H'' d (lat x) y hd
  exact ⟨gr, rp _ (Tr.of fun b u n e => ⟨lat x b u n e, fun h => (withD_M.mp h).elim n (ne_of_none e hA)⟩) fr⟩
theorem Wk.A2 {g : Gh} {A : Addr} {H1 : Hp} {J : It} {ds : List D} (wk : Wk g H1 J ds) (hm : g.M A) : WkA g A H1 J ds := by
  have lat : ∀ {H'}, ExtA g.z A H1 H' → Lat g H1 H' := fun {H'} x b u n e => x b u e (fun h => n (res_M h.res)) fun h => by subst h; exact n hm
  refine ⟨fun i H' x hi => wk.go i H' (lat x) hi, fun H' x => wk.stop H' (lat x), fun i H' v H'' d x fr y hd => ?_⟩
  obtain ⟨gr, rp⟩ := wk.yld i H' v H'' d (lat x) y hd
  exact ⟨gr, rp _ (x.tr hm) fr⟩
section
variable {X : Cx} {elt tg iter tg1 iter1 : Expr} {ifs ifs1 : List Expr} {scope : Scope} {own : List (Str × Nat)} {pos : Pos} {is is1 vs1 : List Nat} {ti ti1 : TDI} {tgd tgd1 : TDG} {tt tt1 : TDT} {te : TDE}
theorem dts_nil : PTs X [] (lT dtsNil) := ⟨fun pins s σ H Q I h => by
  obtain ⟨g, Qd, s', w, k⟩ := h
  exact pts_nil.run pins s σ H Q I (k true H w .refl s')⟩
theorem dts_one {c : Expr} (h : PT X c (lT tt)) : PTs X [c] (lT tt) := pts_one h
theorem lc_end {g : Gh} {σ : St} {H H1 H2 : Hp} {A : Addr} {xs : List V} {rs : List D} {Qd : D → Prop} {Q : VK} {o : HO} (s1 : Stt g σ H1) (x1 : Ext g.z H H1) (hA : H1 A = none) (x : ExtA g.z A (upd H1 A o) H2) (b : BagOk g.z H2) (ea : H2 A = some (.lst xs)) (l : RpL g.z (withD g A).M H2 xs rs) (q : Qd (.lst rs))
    (k : ∀ d a H', Qd d → Ext g.z H H' → Stt g σ H' → H a = none → ¬ g.M a → OwF g.z g.M H' a d → Q (.ref a) H') : Q (.ref A) H2 := by
  have hr : ¬ resB g.z A := fun h => s1.fresh hA (res_M h)
  have x2 : Ext g.z H1 H2 := fun c u e n => x c u (by rw [upd_ne (ne_of_none e hA)]; exact e) n (ne_of_none e hA)
  exact k (.lst rs) A H2 q (x1.trans x2) (s1.ext x2 b) (x1.none_of hA fun h => hr h.res) (s1.fresh hA) (.lst ea (l.tr (M' := fun b => g.M b ∨ b = A) (Tr.of fun b o n e => ⟨e, fun h => n (withD_M.mpr h)⟩)))
def WalkOk (ti : TDI) (wi : TI) : Prop := ∀ (g : Gh) (σ : St) (H : Hp) (Qd : List D → Prop) (R : It → Hp → Prop), Stt g σ H → ti g.S Qd → (∀ ds J H1, Qd ds → Ext g.z H H1 → Stt g σ H1 → Wk g H1 J ds → R J H1) → wi σ H R
theorem lc_imp {wi : TI} {vs : List Nat} (hw : WalkOk ti wi) (hv : ∀ j ∈ is, j ∈ vs) {σ : St} {H : Hp} {Q : VK} (h : lF (dLc ti tgd tt te vs) σ H Q) : tLc wi (lG is tgd) (lT tt) (lE te) vs σ H Q := by
  obtain ⟨g, Qd, s, w, k⟩ := h
  refine hw g σ H _ _ s w fun ds J H1 w1 x1 s1 wk A hA => ?_
  have hr : ¬ resB g.z A := fun h => s1.fresh hA (res_M h)
  have h0 : g.H0 A = none := s1.keep.none_of hA fun h => hr h.res
  exact lc_gen (g := withD g A) (B := lcB A (lT tt) (lE te)) (fB := lcF tt te) (rs0 := []) (s1.withD hA) (.inr rfl) h0 hr (wk.A hA) hv 1 (lcB_ok (g := withD g A) (.inr rfl) hr) upd_same .nil (by simpa using w1.1) w1.2
    fun H2 xs2 r x b ea l _ q => lc_end s1 x1 hA x b ea l q k
abbrev BlkA (X : Cx) (scope : Scope) (P : Cx → Prop) : Prop := ∀ (s : Shared) (H : Hp) (C : Addr) (cl : List (Str × Addr)) (fp : List Addr), P (X.blk s H scope (compEnvC scope cl C X.env) fp)
theorem df_lc (hi : DI X tg iter ti) (hN : X.N.Nodup) (ok : BlkOk X.N X.env.scope scope own) (hg : BlkA X scope fun Y => PG Y tg (lG is tgd)) (ht : BlkA X scope fun Y => PTs Y ifs (lT tt)) (he : BlkA X scope fun Y => PE Y elt (lE te))
    (hv : ∀ j ∈ is, j ∈ own.map (·.2) := by decide) (hc : X.calm = true := by rfl) (hs : ∀ x, foldedSetIterable iter X.env x = pure x := by intro _; rfl) : PE X (.ListComp elt [⟨tg, iter, ifs, 0⟩] scope pos) (lF (dLc ti tgd tt te (own.map (·.2)))) := by
  obtain ⟨wi, hpi, hw⟩ := hi
  exact PE.imp (pe_lc hc hN hpi ok hg ht he hs) fun σ H Q h => lc_imp hw hv h
/-- y = [..] -/
theorem ds_setLc {i : Nat} {y : Str} {py spos : Pos} (hi : DI X tg iter ti) (hN : X.N.Nodup) (hy : X.N[i]? = some y) (hyl : X.env.scope.names.lookup y = some .local) (hsw : swapsWith (.ListComp elt [⟨tg, iter, ifs, 0⟩] scope pos) (some (.Name y py)) spos.line X.env = pure true) (ok : BlkOk X.N X.env.scope scope own) (hg : BlkA X scope fun Y => PG Y tg (lG is tgd)) (ht : BlkA X scope fun Y => PTs Y ifs (lT tt)) (he : BlkA X scope fun Y => PE Y elt (lE te))
    (hv : ∀ j ∈ is, j ∈ own.map (·.2) := by decide) (hc : X.calm = true := by rfl) (hs : ∀ x, foldedSetIterable iter X.env x = pure x := by intro _; rfl) : PS X (.Assign [.Name y py] (.ListComp elt [⟨tg, iter, ifs, 0⟩] scope pos) spos) (lS (dsSet i (dLc ti tgd tt te (own.map (·.2))))) := by
  obtain ⟨wi, hpi, hw⟩ := hi
  exact PS.imp (ps_setLc hc hN hy hyl hsw hpi ok hg ht he hs) fun D σ H ⟨g, De, s, w, l⟩ => lc_imp hw hv ⟨g, _, s, w, fun d a H1 w1 x1 s1 hn nm o => l.nx g.ow _ _ H1 (s1.setVal (o.keepE nm)) w1⟩
/-- [e for t in it if c for t1 in it1 if c1] -/
def lcF2 (B : Nat) (tt : TDT) (ti1 : TDI) (tgd1 : TDG) (tt1 : TDT) (te : TDE) (vs1 : List Nat) : SS → (List D → Prop) → Prop := fun S2 k => tt S2 fun b => if b = true then ti1 S2 fun es => es.length ≤ B ∧ wpMap (fun d k => tgd1 d (wipeS S2 vs1) fun S3 => lcF tt1 te S3 k) es k else k []
def dLc2 (ti : TDI) (tgd : TDG) (tt : TDT) (ti1 : TDI) (tgd1 : TDG) (tt1 : TDT) (te : TDE) (vs vs1 : List Nat) : TDE := fun S Q => ti S fun ds => ∃ B, ds.length * B ≤ sizeLine ∧ wpMap (fun d k => tgd d (wipeS S vs) fun S2 => lcF2 B tt ti1 tgd1 tt1 te vs1 S2 k) ds fun rs => Q (.lst rs)
theorem lc2_imp {wi wi1 : TI} {vs : List Nat} (hw : WalkOk ti wi) (hw1 : WalkOk ti1 wi1) (hv : ∀ j ∈ is, j ∈ vs) (hv1 : ∀ j ∈ is1, j ∈ vs1) {σ : St} {H : Hp} {Q : VK} (h : lF (dLc2 ti tgd tt ti1 tgd1 tt1 te vs vs1) σ H Q) : tLc2 wi (lG is tgd) (lT tt) wi1 (lG is1 tgd1) (lT tt1) (lE te) vs vs1 σ H Q := by
  obtain ⟨g, Qd, s, w, k⟩ := h
  refine hw g σ H _ _ s w fun ds J H1 ⟨c, w1, w2⟩ x1 s1 wk A hA => ?_
  have hr : ¬ resB g.z A := fun h => s1.fresh hA (res_M h)
  have h0 : g.H0 A = none := s1.keep.none_of hA fun h => hr h.res
  refine lc_gen (g := withD g A) (B := fun σ2 H3 Nx => lT tt σ2 H3 fun b H3 => if b = true then wi1 σ2 H3 fun J1 H4 => ∃ W1 : Nat → Nat → Hp → Prop, (∃ m, W1 0 m H4) ∧ ∀ j k H, W1 j k H →
      (J1.stop j H ∧ Nx H) ∨ (J1.go j H ∧ ∃ Nx1 : Hp → Prop, (∀ H', Nx1 H' → ∃ k', k' < k ∧ W1 (j + 1) k' H') ∧ ∀ x H', J1.yld j H x H' → lG is1 tgd1 x (L2.wipe σ2 vs1) H' fun σ3 H5 => L2.wipe σ3 vs1 = L2.wipe σ2 vs1 ∧ lcB A (lT tt1) (lE te) σ3 H5 Nx1)
    else Nx H3) (fB := lcF2 c tt ti1 tgd1 tt1 te vs1) (rs0 := []) (s1.withD hA) (.inr rfl) h0 hr (wk.A hA) hv c ?_ upd_same .nil (by simpa using w1) w2
    fun H2 xs2 r x b ea l _ q => lc_end s1 x1 hA x b ea l q k
  intro S' σ' H' xs rs Qr Nx s' ea l hz w' kk
  refine ⟨_, _, s', w', fun b H3 w3 x3 s3 => ?_⟩
  have ea3 := x3 A _ ea fun h => hr h.res
  cases b with
  | false => exact kk H3 xs [] x3.A s3.bag ea3 (by simpa using l.ext x3) (by simp) w3
  | true =>
    refine hw1 _ σ' H3 _ _ s3 w3 fun es J1 H4 w4 x4 s4 wk4 => ?_
    have ea4 := x4 A _ ea3 fun h => hr h.res
    have l4 := (l.ext x3).ext x4
    refine lc_gen (g := { withD g A with S := S' }) (B := lcB A (lT tt1) (lE te)) (fB := lcF tt1 te) s4 (.inr rfl) h0 hr (wk4.A2 (.inl (.inr rfl))) hv1 1 (lcB_ok (g := { withD g A with S := S' }) (.inr rfl) hr) ea4 l4 (by omega) w4.2
      fun H5 xs5 r x5 b5 ea5 l5 hr5 q5 => kk H5 xs5 r ((x3.trans x4).A.trans x5) b5 ea5 l5 (by omega) q5
theorem df_lc2 (hi : DI X tg iter ti) (hN : X.N.Nodup) (ok : BlkOk X.N X.env.scope scope own) (hvs1 : ∀ i ∈ vs1, i ∈ own.map (·.2)) (hg : BlkA X scope fun Y => PG Y tg (lG is tgd)) (ht : BlkA X scope fun Y => PTs Y ifs (lT tt)) (hi1 : ∃ wi1 : TI, (BlkA X scope fun Y => PI Y tg1 iter1 wi1) ∧ WalkOk ti1 wi1)
    (hg1 : BlkA X scope fun Y => PG Y tg1 (lG is1 tgd1)) (ht1 : BlkA X scope fun Y => PTs Y ifs1 (lT tt1)) (he : BlkA X scope fun Y => PE Y elt (lE te))
    (hv : ∀ j ∈ is, j ∈ own.map (·.2) := by decide) (hv1 : ∀ j ∈ is1, j ∈ vs1 := by decide) (hc : X.calm = true := by rfl) (hs : ∀ x, foldedSetIterable iter X.env x = pure x := by intro _; rfl) (hs1 : ∀ env x, foldedSetIterable iter1 env x = pure x := by intro _ _; rfl) :
    PE X (.ListComp elt [⟨tg, iter, ifs, 0⟩, ⟨tg1, iter1, ifs1, 0⟩] scope pos) (lF (dLc2 ti tgd tt ti1 tgd1 tt1 te (own.map (·.2)) vs1)) := by
  obtain ⟨wi, hpi, hw⟩ := hi
  obtain ⟨wi1, hpi1, hw1⟩ := hi1
  exact PE.imp (pe_lc2 hc hN hpi ok hvs1 hg ht hpi1 hg1 ht1 he hs hs1) fun σ H Q h => lc2_imp hw hw1 hv hv1 h
end
end L2.DL
namespace L2.DL
open PySem PySem.Spec PyProof.Rows
theorem u65 {k : Nat} {A : Around} (hr : Room k A) : A.units + 65 < cLine := by have := hr.un; omega
section
variable {X : Cx} {pos p : Pos} {a b c e o : Expr} {ta tb tc te to : TDE} {ts : TDA} {tg : Expr}
def dTestB (t : TDE) : TDT := fun S Q => t S fun d => ∃ k, d = .bl k ∧ Q k
theorem dt_cmp1 {op : CmpOp} {r : R2} {R : RD2} (ho : OpR X (compareOp op) r) (hr : Real2 r R) (ha : PE X a (lP ta)) (hb : PE X b (lP tb)) (hm : behindInMarks op b = false := by first | exact nomark _ | rfl) : PT X (.Compare a [op] [b] pos) (lT (dTestB (d2 R ta tb))) :=
  PT.imp (pt_cmpR ho ha hb hm) fun σ H Q ⟨g, Qd, s, w, k⟩ => ⟨g, _, s, w, fun d v H1 w1 x1 s1 r1 => ⟨g, _, s1, w1, fun d2 v2 H2 w2 x2 s2 r2 =>
    hr g σ H2 v v2 d d2 _ _ s2 (r1.ext x2) r2 w2 fun d' v' H' q x s' r => by
      obtain ⟨kk, rfl, q⟩ := q
      cases r
      exact ⟨kk, rfl, k kk H' q ((x1.trans x2).trans x) s'⟩⟩⟩
theorem dt_eq (hu : X.A.units + 64 < cLine) (ha : PE X a (lP ta)) (hb : PE X b (lP tb)) : PT X (.Compare a [.Eq] [b] pos) (lT (dTestB (d2 rEqDD ta tb))) := dt_cmp1 (op_eqD hu) real_eq ha hb
theorem dt_ne (hu : X.A.units + 64 < cLine) (ha : PE X a (lP ta)) (hb : PE X b (lP tb)) : PT X (.Compare a [.NotEq] [b] pos) (lT (dTestB (d2 rNeDD ta tb))) := dt_cmp1 (op_neD hu) real_ne ha hb
theorem dt_lt (ha : PE X a (lP ta)) (hb : PE X b (lP tb)) : PT X (.Compare a [.Lt] [b] pos) (lT (dTestB (d2 rLt ta tb))) := dt_cmp1 op_ltA real_ord ha hb
theorem dt_ge (ha : PE X a (lP ta)) (hb : PE X b (lP tb)) : PT X (.Compare a [.GtE] [b] pos) (lT (dTestB (d2 rGe ta tb))) := dt_cmp1 op_geA real_ord ha hb
theorem dt_in (hu : X.A.units + 65 < cLine) (ha : PE X a (lP ta)) (hb : PE X b (lP tb)) (hm : behindInMarks .In b = false := by rfl) : PT X (.Compare a [.In] [b] pos) (lT (dTestB (d2 (rInDD id) ta tb))) := dt_cmp1 (op_inA hu) real_in ha hb hm
theorem dt_notIn (hu : X.A.units + 65 < cLine) (ha : PE X a (lP ta)) (hb : PE X b (lP tb)) (hm : behindInMarks .NotIn b = false := by rfl) : PT X (.Compare a [.NotIn] [b] pos) (lT (dTestB (d2 (rInDD not) ta tb))) := dt_cmp1 (op_notInA hu) real_in ha hb hm
theorem dt_isN {j pos'} (ha : PE X a (lP ta)) : PT X (.Compare a [.Is] [.Constant .none j pos'] pos) (lT (fun S Q => ta S fun d => knownD d = true ∧ Q (isNon d))) := PT.imp (pt_cmp (pc_isN ha)) fun σ H Q ⟨g, Qd, s, w, k⟩ =>
  ⟨g, _, s, w, fun d v H1 w1 x1 s1 r1 => ⟨isNon d, by rw [r1.nonIff w1.1], k _ H1 w1.2 x1 s1⟩⟩
theorem dt_chain {op op' : CmpOp} {r r' : R2} {R R' : RD2} (ho : OpR X (compareOp op) r) (ho' : OpR X (compareOp op') r') (hr : Real2 r R) (hr' : Real2 r' R') (ha : PE X a (lP ta)) (hb : PE X b (lP tb)) (hc : PE X c (lP tc))
    (hm : lastMarks [op, op'] [b, c] = false := by with_unfolding_all rfl) : PT X (.Compare a [op, op'] [b, c] pos) (lT (dTestB (d3 R R' ta tb tc))) := PT.imp (pt_chain ho ho' ha hb hc hm) fun σ H Q ⟨g, Qd, s, w, k⟩ =>
  ⟨g, _, s, w, fun d v H1 w1 x1 s1 r1 => ⟨g, _, s1, w1, fun d2 v2 H2 w2 x2 s2 r2 =>
    hr g σ H2 v v2 d d2 _ _ s2 (r1.ext x2) r2 w2 fun d' v' H3 q x3 s3 r3 => by
      obtain ⟨kk, e, q⟩ := q
      subst e
      cases r3
      refine ⟨kk, rfl, ?_⟩
      cases kk with
      | false =>
        obtain ⟨k', e', q⟩ := q
        cases e'
        exact ⟨false, rfl, k false H3 q ((x1.trans x2).trans x3) s3⟩
      | true =>
        exact ⟨g, _, s3, q, fun d4 v4 H4 w4 x4 s4 r4 => hr' g σ H4 v2 v4 d2 d4 _ _ s4 ((r2.ext x3).ext x4) r4 w4 fun d' v' H' q x s' r => by
          obtain ⟨k2, rfl, q⟩ := q
          cases r
          exact ⟨k2, rfl, k k2 H' q ((((x1.trans x2).trans x3).trans x4).trans x) s'⟩⟩⟩⟩
theorem dt_lele (ha : PE X a (lP ta)) (hb : PE X b (lP tb)) (hc : PE X c (lP tc)) (hm : lastMarks [.LtE, .LtE] [b, c] = false := by with_unfolding_all rfl) : PT X (.Compare a [.LtE, .LtE] [b, c] pos) (lT (dTestB (d3 rLe rLe ta tb tc))) := dt_chain op_leA op_leA real_ord real_ord ha hb hc hm
def rNegD : D → (D → Prop) → Prop
  | .int i, Q => Q (.int (-i))
  | _, _ => False
theorem de_neg (ha : PE X a (lP ta)) : PE X (.UnaryOp .USub a pos) (lE (d1 rNegD ta)) := PE.imp (pe_un un_neg ha) fun σ H Q ⟨g, Qd, s, w, k⟩ =>
  ⟨g, _, s, w, fun d v H1 w1 x1 s1 r1 => by
    cases d <;> try exact w1.elim
    cases r1.int
    exact ⟨_, rfl, k _ _ H1 w1 x1 s1 (.int _)⟩⟩
theorem walk_seq {K : PySem.W.Frag} : WalkOk (diSeq te) (iAny K (lE te)) := fun g σ H Qd R s w k => ⟨g, _, s, w, fun d v H1 w1 x1 s1 r1 => by
  obtain ⟨ds, e1, q⟩ := w1
  cases r1 <;> simp [itemsD] at e1
  · rename_i z
    subst e1
    exact .inr (.inr ⟨_, rfl, k _ _ H1 q x1 s1 (Wk.str z)⟩)
  · rename_i h n l
    subst e1
    exact .inl ⟨_, _, rfl, h, k _ _ H1 q x1 s1 (Wk.list h n l)⟩
  · rename_i h n l
    subst e1
    exact .inr (.inl ⟨_, _, rfl, h, k _ _ H1 q x1 s1 (Wk.tup h n l)⟩)⟩
theorem di1_seq {scope : Scope} (he : BlkA X scope fun Y => PE Y e (lE te)) : ∃ wi1 : TI, (BlkA X scope fun Y => PI Y tg e wi1) ∧ WalkOk (diSeq te) wi1 := ⟨_, fun s H C cl fp => pi_any (he s H C cl fp), walk_seq⟩
def joinL (sep : List Nat) : List (List Nat) → List Nat
  | [] => []
  | [x] => x
  | x :: y :: r => x ++ sep ++ joinL sep (y :: r)
def strsD : List D → Option (List (List Nat))
  | [] => some []
  | .str s :: r => (strsD r).map (s :: ·)
  | _ :: _ => none
theorem strsD_eq : ∀ {ds : List D} {ss : List (List Nat)}, strsD ds = some ss → ds = ss.map D.str
  | [], ss, h => by simp [strsD] at h; subst h; rfl
  | .str b :: r, ss, h => by
    simp [strsD] at h
    obtain ⟨c, h1, h2⟩ := h
    subst h2
    rw [strsD_eq h1]; rfl
theorem glue_foldl (sep : Array Nat) : ∀ (l : List Str) (a : Array Nat), (l.foldl (fun acc q => acc ++ sep ++ q.cps) a).toList = a.toList ++ (l.map fun q => sep.toList ++ q.cps.toList).flatten
  | [], a => by simp
  | x :: r, a => by
    rw [List.foldl_cons, glue_foldl sep r]
    simp
theorem joinL_cons (sep x : List Nat) : ∀ r : List (List Nat), joinL sep (x :: r) = x ++ (r.map fun q => sep ++ q).flatten
  | [] => by simp [joinL]
  | y :: r => by
    rw [joinL, joinL_cons sep y r]
    simp
theorem txt_join (sep : List Nat) (ys : List (List Nat)) : Txt.join (S2 sep) (ys.map S2) = S2 (joinL sep ys) := by
  cases ys with
  | nil => rfl
  | cons x r =>
    have e : (Txt.join (S2 sep) ((x :: r).map S2)).cps.toList = joinL sep (x :: r) := by
      show ((r.map S2).foldl (fun acc q => acc ++ sep.toArray ++ q.cps) x.toArray).toList = _
      rw [glue_foldl, joinL_cons]
      simp [List.map_map, Function.comp_def]
    rw [← e]
def rJoinD (a : List Nat) : D → (D → Prop) → Prop
  | .lst xs, Q => ∃ ys, strsD xs = some ys ∧ (ys.map (·.length)).sum + ys.length * a.length ≤ 16777216 ∧ Q (.str (joinL a ys))
  | .tup xs, Q => ∃ ys, strsD xs = some ys ∧ (ys.map (·.length)).sum + ys.length * a.length ≤ 16777216 ∧ Q (.str (joinL a ys))
  | _, _ => False
def dJoin (to te : TDE) : TDE := fun S Q => to S fun x => ∃ a, x = .str a ∧ te S fun y => rJoinD a y Q
theorem len_S2 (ys : List (List Nat)) : (ys.map S2).map (·.length) = ys.map (·.length) := by
  rw [List.map_map]
  apply List.map_congr_left
  intro x _
  exact S2_length x
theorem de_join {apos : Pos} (ho : PE X o (lP to)) (he : PE X e (lP te)) (hs : starEach [e] X.env = [(false, eval e X.env)] := by rfl) (hbase : attributeBase o "join" X.env (eval o X.env) = eval o X.env := by rfl) (hline : (apos.endLine == pos.line) = true := by rfl) :
    PE X (.Call (.Attribute o "join" apos) [e] [] pos) (lE (dJoin to te)) := PE.imp (pe_join ho he hs hbase hline) fun σ H Q ⟨g, Qd, s, w, k⟩ =>
  ⟨g, _, s, w, fun d v H1 w1 x1 s1 r1 => by
    obtain ⟨a, rfl, w1⟩ := w1
    cases r1.str
    refine ⟨⟨_, rfl⟩, g, _, s1, w1, fun d2 v2 H2 w2 x2 s2 r2 => ?_⟩
    cases d2 <;> try exact w2.elim
    · obtain ⟨q, xs, rfl, h1, l1⟩ := r2.lst
      obtain ⟨ys, e1, hz, q2⟩ := w2
      rw [strsD_eq e1] at l1
      rw [l1.strs] at h1
      refine ⟨_, _, ys.map S2, rfl, rfl, .inl (.of h1), by rw [len_S2, S2_length, List.length_map]; exact hz, ?_⟩
      rw [txt_join]
      exact k _ _ H2 q2 (x1.trans x2) s2 (.str _)
    · obtain ⟨q, xs, rfl, h1, l1⟩ := r2.tup
      obtain ⟨ys, e1, hz, q2⟩ := w2
      rw [strsD_eq e1] at l1
      rw [l1.strs] at h1
      refine ⟨_, _, ys.map S2, rfl, rfl, .inr (.of h1), by rw [len_S2, S2_length, List.length_map]; exact hz, ?_⟩
      rw [txt_join]
      exact k _ _ H2 q2 (x1.trans x2) s2 (.str _)⟩
end
end L2.DL
namespace L2.DL
open PySem PySem.Spec PyProof.Rows
/-- with more addresses that are apart -/
def apD (g : Gh) (as : List Addr) : Gh := { g with M0 := fun b => g.M0 b ∨ b ∈ as }
theorem apD_M {g : Gh} {as : List Addr} {b : Addr} : (apD g as).M b ↔ g.M b ∨ b ∈ as := by
  constructor
  · rintro ((h | h) | h | h)
    · exact .inl (.inl h)
    · exact .inr h
    · exact .inl (.inr (.inl h))
    · exact .inl (.inr (.inr h))
  · rintro ((h | h | h) | h)
    · exact .inl (.inl h)
    · exact .inr (.inl h)
    · exact .inr (.inr h)
    · exact .inl (.inr h)
theorem Stt.apart {g : Gh} {σ : St} {H H' : Hp} {as : List Addr} (s : Stt g σ H) (x : Ext g.z H H') (b : BagOk g.z H') (hn : ∀ a ∈ as, H a = none) (ha : ∀ a ∈ as, Nt H' a) : Stt (apD g as) σ H' := by
  have tr : Tr g.M H (apD g as).M H' := Tr.of fun c u n e => ⟨x c u e fun h => n (res_M h.res), fun h => (apD_M.mp h).elim n fun h => by rw [hn c h] at e; cases e⟩
  have s' := s.ext x b
  refine ⟨fun j bs φ e => (s.rs j bs φ e).tr tr (fun c hc o q => x c o q fun h => (s.rsNew e hc).2.2 h.res) rfl fun _ => rfl, s.len, fun i d e => ?_, fun i d e => ?_, s.inj, fun i c e => ⟨(s.new i c e).1, fun h => ?_, (s.new i c e).2.2⟩, fun c h => ?_, s'.keep, b, s.ex.more (fun _ h => .inl h) fun b h => h.elim .inl fun h => .inr (s.x0 (hn b h))⟩
  · obtain ⟨v, e1, r⟩ := s.val i d e
    exact ⟨v, e1, r.tr tr⟩
  · obtain ⟨v, e1, e2, r⟩ := s.own i d e
    exact ⟨v, e1, e2, r.tr tr fun u q => x v u q fun h => (s.new i v e2).2.2 h.res⟩
  · rcases h with h | h
    · exact (s.new i c e).2.1 h
    · exact (s.alive c (.inr (.inr ⟨i, e⟩))).ne (hn c h)
  · rcases apD_M.mp h with h | h
    · exact s'.alive c h
    · exact ha c h
theorem apD_nil (g : Gh) : apD g [] = g := by
  unfold apD
  have : (fun b => g.M0 b ∨ b ∈ ([] : List Addr)) = g.M0 := by
    funext b
    simp
  rw [this]
theorem apD_cons (g : Gh) (a : Addr) (as : List Addr) : apD (apD g [a]) as = apD g (a :: as) := by
  unfold apD
  congr 1
  funext b
  simp [or_assoc]
/-- a kept value, a new thing -/
inductive KdL (z : Bz) (M : MS) (H : Hp) : List V → List (Bool × D) → Prop
  | nil : KdL z M H [] []
  | kept {v : V} {vs : List V} {d : D} {ks : List (Bool × D)} : Rp z M H v d → KdL z M H vs ks → KdL z M H (v :: vs) ((false, d) :: ks)
  | new {a : Addr} {vs : List V} {d : D} {ks : List (Bool × D)} : Ow z M H a d → KdL z M H vs ks → KdL z M H (.ref a :: vs) ((true, d) :: ks)
def newA : List V → List (Bool × D) → List Addr
  | .ref a :: vs, (true, _) :: ks => a :: newA vs ks
  | _ :: vs, (false, _) :: ks => newA vs ks
  | _, _ => []
theorem newA_kept (v : V) (vs : List V) (d : D) (ks : List (Bool × D)) : newA (v :: vs) ((false, d) :: ks) = newA vs ks := by cases v <;> rfl
theorem KdL.tr {z : Bz} {M M' : MS} {H H' : Hp} (t : Tr M H M' H') : ∀ {vs : List V} {ks : List (Bool × D)}, KdL z M H vs ks → (∀ a ∈ newA vs ks, ∀ o, H a = some o → H' a = some o) → KdL z M' H' vs ks
  | _, _, .nil, _ => .nil
  | _, _, .kept r l, h => .kept (r.tr t) (l.tr t (by rw [newA_kept] at h; exact h))
  | _, _, .new o l, h => .new (o.tr t (h _ (by simp [newA]))) (l.tr t fun a ha => h a (by simp [newA, ha]))
abbrev TDK := SS → (List (Bool × D) → Prop) → Prop
def lK (t : TDK) : TA := fun σ H Q => ∃ (g : Gh) (Qd : List (Bool × D) → Prop), Stt g σ H ∧ t g.S Qd ∧ ∀ ks vs H', Qd ks → Ext g.z H H' → Stt (apD g (newA vs ks)) σ H' → (newA vs ks).Nodup → (∀ a ∈ newA vs ks, H a = none) → KdL g.z (apD g (newA vs ks)).M H' vs ks → Q vs H'
def dkNil : TDK := fun _ Q => Q []
def dkE (te : TDE) (t : TDK) : TDK := fun S Q => te S fun d => t S fun ks => Q ((false, d) :: ks)
def dkF (te : TDE) (t : TDK) : TDK := fun S Q => te S fun d => t S fun ks => Q ((true, d) :: ks)
section
variable {X : Cx} {e : Expr} {es : List Expr} {te : TDE} {ts : TDK} {pos : Pos}
theorem dk_nil : PA X [] (lK dkNil) := PA.imp pa_nil fun σ H Q ⟨g, Qd, s, w, k⟩ => k [] [] H w .refl (by rw [show newA [] [] = [] from rfl, apD_nil]; exact s) List.nodup_nil (fun _ h => nomatch h) .nil
theorem dk_E (he : PE X e (lE te)) (hr : PA X es (lK ts)) (hs : starEach (e :: es) X.env = (false, eval e X.env) :: starEach es X.env := by rfl) : PA X (e :: es) (lK (dkE te ts)) := PA.imp (pa_cons he hr hs) fun σ H Q ⟨g, Qd, s, w, k⟩ =>
  ⟨g, _, s, w, fun d v H1 w1 x1 s1 r1 => ⟨g, _, s1, w1, fun ks vs H2 w2 x2 s2 nd hn l => by
    refine k ((false, d) :: ks) (v :: vs) H2 w2 (x1.trans x2) (by rw [newA_kept]; exact s2) (by rw [newA_kept]; exact nd) (by rw [newA_kept]; exact fun a ha => x1.none_of (hn a ha) fun h => s1.fresh (hn a ha) (res_M h.res)) ?_
    rw [newA_kept]
    refine .kept (r1.tr (Tr.of fun b o n e => ⟨x2 b o e fun h => n (res_M h.res), fun h => (apD_M.mp h).elim n fun h => by rw [hn b h] at e; cases e⟩)) l⟩⟩
theorem dk_F (he : PE X e (lF te)) (hr : PA X es (lK ts)) (hs : starEach (e :: es) X.env = (false, eval e X.env) :: starEach es X.env := by rfl) : PA X (e :: es) (lK (dkF te ts)) := PA.imp (pa_cons he hr hs) fun σ H Q ⟨g, Qd, s, w, k⟩ =>
  ⟨g, _, s, w, fun d p H1 w1 x1 s1 hp nm o => by
    have sp : Stt (apD g [p]) σ H1 := s.apart x1 s1.bag (fun a ha => by rw [List.mem_singleton.mp ha]; exact hp) (fun a ha => by rw [List.mem_singleton.mp ha]; exact Ow.alive o)
    refine ⟨apD g [p], _, sp, w1, fun ks vs H2 w2 x2 s2 nd hn l => ?_⟩
    have hpn : p ∉ newA vs ks := fun h => (Ow.alive o).ne (hn p h)
    rw [apD_cons] at s2 l
    have nb : ¬ isB g.z p := fun h => nm (res_M h.res)
    refine k ((true, d) :: ks) (.ref p :: vs) H2 w2 (x1.trans x2) s2 (List.nodup_cons.mpr ⟨hpn, nd⟩) (fun a ha => ?_) (.new (Ow.tr o (Tr.of fun b u n e => ⟨?_, fun h => ?_⟩) fun u q => x2 p u q nb) l)
    · rcases List.mem_cons.mp ha with rfl | ha
      · exact hp
      · exact x1.none_of (hn a ha) fun h => sp.fresh (hn a ha) (res_M (g := apD g [p]) h.res)
    · exact x2 b u e fun h => n (.inl (res_M h.res))
    · rcases apD_M.mp h with h | h
      · exact n (.inl h)
      · rcases List.mem_cons.mp h with h | h
        · exact n (.inr h)
        · rw [hn b h] at e; cases e⟩
end
/-- a name takes a new thing that was apart -/
theorem Stt.claim {g : Gh} {σ : St} {H : Hp} {a : Addr} {as : List Addr} {i : Nat} {d : D} (s : Stt (apD g (a :: as)) σ H) (na : a ∉ as) (nm : ¬ g.M a) (h0 : g.H0 a = none) (o : Ow g.z (apD g (a :: as)).M H a d) :
    Stt (apD { g with ow := setOw g.ow i (some a), S := g.S.set i (.own d) } as) (σ.set i (some (.ref a))) H := by
  have sub : ∀ b, (apD { g with ow := setOw g.ow i (some a), S := g.S.set i (.own d) } as).M b → (apD g (a :: as)).M b := fun b h => by
    rcases apD_M.mp h with h | h
    · rcases mo_set h with h | h
      · exact apD_M.mpr (.inl h)
      · exact apD_M.mpr (.inr (by simp [h]))
    · exact apD_M.mpr (.inr (by simp [h]))
  have tr : Tr (apD g (a :: as)).M H (apD { g with ow := setOw g.ow i (some a), S := g.S.set i (.own d) } as).M H := Tr.of fun b u n e => ⟨e, fun h => n (sub b h)⟩
  have nown : ∀ j : Ix, g.ow j = some a → False := fun j e => nm (.inr (.inr ⟨j, e⟩))
  refine ⟨fun j bs φ e => (s.rs j bs φ (rs_own e)).tr tr (fun _ _ _ q => q) rfl fun _ => setOw_r (ow := g.ow) (i := i) (a := some a), by show (g.S.set i _).length = _; have := s.len; simpa [apD] using this, fun j d' e => ?_, fun j d' e => ?_, fun j k c e1 e2 => ?_, fun j c e => ?_, fun c h => s.alive c (sub c h), s.keep, s.bag, s.ex.e0, fun b q => ?_, s.ex.ea, (s.ex.own (ow := setOw g.ow i (some a)) (i := i) (d := d)).el, (s.ex.own (ow := setOw g.ow i (some a)) (i := i) (d := d)).ez, fun b h => s.ex.en b (h.imp id fun h => List.mem_cons_of_mem _ h)⟩
  · have e' : (g.S.set i (.own d))[j]? = some (.val d') := e
    rw [List.getElem?_set] at e'
    by_cases hij : i = j
    · subst hij
      rw [if_pos rfl] at e'
      split at e' <;> cases e'
    · rw [if_neg hij] at e'
      obtain ⟨u, e1, r1⟩ := s.val j d' e'
      exact ⟨u, by rw [List.getElem?_set_ne hij]; exact e1, r1.tr tr⟩
  · have e' : (g.S.set i (.own d))[j]? = some (.own d') := e
    rw [List.getElem?_set] at e'
    by_cases hij : i = j
    · subst hij
      rw [if_pos rfl] at e'
      split at e'
      · rename_i hlt
        cases e'
        have hl : g.S.length = σ.length := s.len
        exact ⟨a, by rw [List.getElem?_set_self (by rw [← hl]; exact hlt)], by show setOw g.ow i (some a) i = some a; unfold setOw; rw [if_pos rfl], Ow.tr o tr fun u q => q⟩
      · cases e'
    · rw [if_neg hij] at e'
      obtain ⟨u, e1, e2, r1⟩ := s.own j d' e'
      refine ⟨u, by rw [List.getElem?_set_ne hij]; exact e1, ?_, r1.tr tr fun w q => q⟩
      show setOw g.ow i (some a) j = some u
      unfold setOw; rw [if_neg (ix_ne (Ne.symm hij))]; exact e2
  · have e1' : setOw g.ow i (some a) j = some c := e1
    have e2' : setOw g.ow i (some a) k = some c := e2
    unfold setOw at e1' e2'
    split at e1' <;> split at e2'
    · rename_i h1 h2; rw [h1, h2]
    · cases e1'; exact (nown k e2').elim
    · cases e2'; exact (nown j e1').elim
    · exact s.inj j k c e1' e2'
  · have e' : setOw g.ow i (some a) j = some c := e
    unfold setOw at e'
    split at e'
    · cases e'
      exact ⟨h0, fun h => h.elim (fun h => nm (.inl h)) na, fun h => nm (res_M h)⟩
    · obtain ⟨q1, q2, q3⟩ := s.new j c e'
      exact ⟨q1, fun h => q2 (h.imp id fun h => List.mem_cons_of_mem _ h), q3⟩
  · rcases s.ex.em b q with hm | hm
    · exact .inl hm
    · rcases List.mem_cons.mp hm with e | hm
      · subst e
        exfalso
        have h2 : g.X0 b ≠ none := s.ex.ea b q
        cases e0 : g.X0 b with
        | none => exact h2 e0
        | some o =>
          have h1 : g.H0 b = some o := s.ex.e0 b o e0 fun hb => nm (res_M hb.res)
          rw [h0] at h1
          cases h1
      · exact .inr hm
def setV : St → List Nat → List V → St
  | σ, i :: is, v :: vs => setV (σ.set i (some v)) is vs
  | σ, _, _ => σ
def setK : SS → List Nat → List (Bool × D) → SS
  | S, i :: is, (false, d) :: ks => setK (S.set i (.val d)) is ks
  | S, i :: is, (true, d) :: ks => setK (S.set i (.own d)) is ks
  | S, _, _ => S
theorem stt_setK : ∀ (is : List Nat) {g : Gh} {σ : St} {H : Hp} {vs : List V} {ks : List (Bool × D)} {as : List Addr}, as = newA vs ks → Stt (apD g as) σ H → as.Nodup → (∀ a ∈ as, ¬ g.M a ∧ g.H0 a = none) → KdL g.z (apD g as).M H vs ks → ks.length = is.length →
    ∃ ow, Stt { g with ow := ow, S := setK g.S is ks } (setV σ is vs) H := by
  intro is
  induction is with
  | nil =>
    intro g σ H vs ks as ea s nd hn l hl
    cases l with
    | nil =>
      have ea' : as = [] := ea
      rw [ea', apD_nil] at s
      exact ⟨g.ow, s⟩
    | kept _ _ => cases hl
    | new _ _ => cases hl
  | cons i is ih =>
    intro g σ H vs ks as ea s nd hn l hl
    cases l with
    | nil => cases hl
    | @kept v vs d ks r l =>
      rw [newA_kept] at ea
      have s2 : Stt (apD { g with S := g.S.set i (.val d) } as) (σ.set i (some v)) H := s.setVal (g := apD g as) r
      obtain ⟨ow, s3⟩ := ih (g := { g with S := g.S.set i (.val d) }) ea s2 nd hn l (by simpa using hl)
      exact ⟨ow, s3⟩
    | @new a vs d ks o l =>
      have ea' : as = a :: newA vs ks := ea
      subst ea'
      obtain ⟨n1, n2⟩ := List.nodup_cons.mp nd
      have s2 := s.claim (i := i) n1 (hn a (by simp)).1 (hn a (by simp)).2 o
      have sub : ∀ b, (apD { g with ow := setOw g.ow i (some a), S := g.S.set i (.own d) } (newA vs ks)).M b → (apD g (a :: newA vs ks)).M b := fun b h => by
        rcases apD_M.mp h with h | h
        · rcases mo_set h with h | h
          · exact apD_M.mpr (.inl h)
          · exact apD_M.mpr (.inr (by simp [h]))
        · exact apD_M.mpr (.inr (by simp [h]))
      obtain ⟨ow, s3⟩ := ih (g := { g with ow := setOw g.ow i (some a), S := g.S.set i (.own d) }) rfl s2 n2 (fun b hb => ⟨fun h => by
        rcases mo_set h with h | h
        · exact (hn b (by simp [hb])).1 h
        · subst h; exact n1 hb, (hn b (by simp [hb])).2⟩) (l.tr (Tr.of fun b u n e => ⟨e, fun h => n (sub b h)⟩) fun _ _ _ q => q) (by simpa using hl)
      exact ⟨ow, s3⟩
/-- names = display -/
def dsMul (is : List Nat) (ts : TDK) : TDS := fun De S => ts S fun ks => ks.length = is.length ∧ De.nx (setK S is ks)
theorem KdL.length {z : Bz} {M : MS} {H : Hp} : ∀ {vs : List V} {ks : List (Bool × D)}, KdL z M H vs ks → vs.length = ks.length
  | _, _, .nil => rfl
  | _, _, .kept _ l => by simp [l.length]
  | _, _, .new _ l => by simp [l.length]
theorem mul_imp {is : List Nat} {ts : TDK} {D : Ends} {σ : St} {H : Hp} (h : lS (dsMul is ts) D σ H) : lK ts σ H fun vs H1 => vs.length = is.length ∧ D.nx (setV σ is vs) H1 := by
  obtain ⟨g, De, s, w, l⟩ := h
  refine ⟨g, _, s, w, fun ks vs H' q x s' nd hn kl => ⟨by rw [kl.length]; exact q.1, ?_⟩⟩
  obtain ⟨ow, s3⟩ := stt_setK is rfl s' nd (fun a ha => ⟨s.fresh (hn a ha), s.keep.none_of (hn a ha) fun h => s.fresh (hn a ha) (res_M h.res)⟩) kl q.1
  exact l.nx ow _ _ H' s3 q.2
section
variable {X : Cx} {pos : Pos} {x y z : Str} {i j k : Nat} {a b c : Expr} {ts : TDK}
theorem ds_mul2 {px py pt : Pos} {kt k2 pt2} (hN : X.N.Nodup) (hi : X.N[i]? = some x) (hj : X.N[j]? = some y) (hij : i ≠ j) (hx : X.env.scope.names.lookup x = some .local) (hy : X.env.scope.names.lookup y = some .local) (ha : PA X [a, b] (lK ts))
    (hw : swappedStores [.Tuple [.Name x px, .Name y py] kt pt] (.Tuple [a, b] k2 pt2) X.env = pure (some [x, y]) := by rfl) (hc : X.calm = true := by rfl)
    (hs : swapsWithSole [.Tuple [.Name x px, .Name y py] kt pt] (.Tuple [a, b] k2 pt2) pos.line X.env = pure false := by rfl) :
    PS X (.Assign [.Tuple [.Name x px, .Name y py] kt pt] (.Tuple [a, b] k2 pt2) pos) (lS (dsMul [i, j] ts)) := PS.imp (ps_par hc hN hi hj hij hx hy ha hw hs) fun D σ H h => by
  obtain ⟨g, Qd, s, w, kk⟩ := mul_imp h
  refine ⟨g, Qd, s, w, fun ks vs H' q x s' nd hn kl => ?_⟩
  obtain ⟨hl, q⟩ := kk ks vs H' q x s' nd hn kl
  match vs, hl, q with
  | [v, v'], _, q => exact ⟨v, v', rfl, q⟩
end
end L2.DL
namespace L2.DL
open PySem PySem.Spec PyProof.Rows
def hasK {κ : Type} [DecidableEq κ] (l : List κ) (k : κ) : Bool := l.any fun x => decide (x = k)
def dedup {κ : Type} [DecidableEq κ] : List κ → List κ → List κ
  | acc, [] => acc
  | acc, x :: r => if hasK acc x = true then dedup acc r else dedup (acc ++ [x]) r
def keyD : D → Option Key
  | .int i => some (.inl i)
  | .str s => some (.inr (S2 s))
  | _ => none
def keysD : List D → Option (List Key)
  | [] => some []
  | d :: ds => match keyD d, keysD ds with
    | some k, some ks => some (k :: ks)
    | _, _ => none
section
variable {X : Cx} {a : Expr} {ta : TDE} {p p2 q pos : Pos}
/-- len(set(xs)) -/
def rLenSet : D → (D → Prop) → Prop
  | .lst xs, Q => ∃ ks, keysD xs = some ks ∧ ks.length + 1 < scanBound ∧ Q (.int (dedup [] ks).length)
  | _, _ => False
end
end L2.DL
namespace L2.DL
open PySem PySem.Spec PyProof.Rows
abbrev dle : D → D → Bool := PySem.W.dataLe false toPy
def sortD (ds : List D) : List D := ds.mergeSort dle
structure CanSort (ds : List D) : Prop where
  plain : ∀ d ∈ ds, plainD d = true
  dep : ∀ d ∈ ds, dep d ≤ 64
  alike : PySem.W.AllAlike (ds.map toPy)
  kind : PySem.W.Sortable (ds.map toPy)
  len : ds.length ≤ sizeLine
section
variable {X : Cx}
theorem zip_back : ∀ {z : Bz} {M : MS} {H : Hp} {vs : List V} {ds : List D}, RpL z M H vs ds → (vs.zip ds).map Prod.fst = vs ∧ (vs.zip ds).map Prod.snd = ds ∧ ∀ q ∈ vs.zip ds, Rp z M H q.1 q.2 ∧ q.2 ∈ ds
  | _, _, _, _, _, .nil => ⟨rfl, rfl, fun _ h => nomatch h⟩
  | _, _, _, _, _, .cons (v := v) (d := d) a b => by
    obtain ⟨h1, h2, h3⟩ := zip_back b
    refine ⟨by simp [h1], by simp [h2], fun q hq => ?_⟩
    rcases List.mem_cons.mp (by simpa using hq) with rfl | hq
    · exact ⟨a, by simp⟩
    · exact ⟨(h3 q hq).1, by simp [(h3 q hq).2]⟩
theorem rpl_of : ∀ {z : Bz} {M : MS} {H : Hp} {ps : List (V × D)}, (∀ q ∈ ps, Rp z M H q.1 q.2) → RpL z M H (ps.map Prod.fst) (ps.map Prod.snd)
  | _, _, _, [], _ => .nil
  | _, _, _, q :: ps, h => .cons (h q (by simp)) (rpl_of fun r hr => h r (by simp [hr]))
theorem each_vals {ps : List (V × D)} : ∀ {out : List Value}, PySem.W.EachIs (fun (u : Value) (b : V × D) => RelV b.1 u) out ps → Vals (ps.map Prod.fst) out := by
  induction ps with
  | nil => intro out h; cases h; exact .nil
  | cons q ps ih => intro out h; cases h with | cons a b => exact .cons a (ih b)
def rSortV (z : Bz) (M : MS) : List V → Hp → VK → Prop := fun xs H Q => ∃ (a : Addr) (vs : List V) (ds : List D), xs = [.ref a] ∧ H a = some (.lst vs) ∧ RpL z M H vs ds ∧ CanSort ds ∧ ∀ ws p, RpL z M H ws (sortD ds) → H p = none → Q (.ref p) (upd H p (.lst ws))
theorem cr_sortV {z : Bz} {M : MS} (hu : X.A.units + 70 < cLine) : CallR X (.builtin "sorted") (rSortV z M) := by
  intro pins s σ H xs us Q I r h
  obtain ⟨a, vs, ds, rfl, ha, rl, cs, q⟩ := h
  obtain ⟨u, rfl, ru⟩ := vals1 r
  obtain rfl : u = Value.ref a := ru
  obtain ⟨its, rv, pl, hz⟩ := I.list (.of ha)
  obtain ⟨z1, z2, z3⟩ := zip_back rl
  have hlen : (vs.zip ds).length = its.length := by
    have := congrArg List.length z1
    rw [List.length_map] at this
    rw [this]; exact rv.length
  have each : ∀ (vs : List V) (ds : List D) (its : List Value), RpL z M H vs ds → Vals vs its → PySem.W.EachIs (fun (u : Value) (b : V × D) => RelV b.1 u) its (vs.zip ds) := by
    intro vs
    induction vs with
    | nil => intro ds its l r; cases l; cases r; exact .nil
    | cons v vs ih => intro ds its l r; cases l with | cons a b => cases r with | cons c d => exact .cons c (ih _ _ b d)
  have reads : ∀ (vs : List V) (ds : List D) (its : List Value), RpL z M H vs ds → Vals vs its → (∀ d ∈ ds, plainD d = true) → PySem.W.EachIs (fun (u : Value) (b : V × D) => ∃ as, Reads s.heap u (toPy b.2) as) its (vs.zip ds) := by
    intro vs
    induction vs with
    | nil => intro ds its l r _; cases l; cases r; exact .nil
    | cons v vs ih =>
      intro ds its l r hp
      cases l with
      | cons a b =>
        cases r with
        | cons c d => exact .cons (Dp.reads I _ _ _ (a.dp (hp _ (by simp))) c) (ih _ _ b d fun d hd => hp d (by simp [hd]))
  have em : (vs.zip ds).map (fun b => toPy b.2) = ds.map toPy := by
    show (vs.zip ds).map (toPy ∘ Prod.snd) = _
    rw [← List.map_map, z2]
  refine PySem.W.sorted_data (R := fun (u : Value) (b : V × D) => RelV b.1 u) (enc := fun b : V × D => toPy b.2) (bs := vs.zip ds) (vs := its) pl.isList (each vs ds its rl rv) (reads vs ds its rl rv cs.plain) (by rw [em]; exact cs.alike) (by rw [em]; exact cs.kind) ?_ (fun b hb => ?_) fun out hl eo => ?_
  · have := congrArg List.length z2
    rw [List.length_map] at this
    rw [this]; exact cs.len
  · have := cs.dep b.2 (z3 b hb).2
    rw [toPy_dep]
    omega
  · have ev := each_vals eo
    obtain ⟨e, he⟩ := sortedAll_at s.heap its out.toArray
    have es : ((vs.zip ds).mergeSort (PySem.W.dataLe false fun b : V × D => toPy b.2)).map Prod.snd = sortD ds := by
      refine (PySem.W.sort_maps (r := PySem.W.dataLe false fun b : V × D => toPy b.2) (s := dle) Prod.snd fun _ _ _ _ => rfl).trans ?_
      rw [z2]
      rfl
    have rs : RpL z M H (((vs.zip ds).mergeSort (PySem.W.dataLe false fun b : V × D => toPy b.2)).map Prod.fst) (sortD ds) := by
      rw [← es]
      exact rpl_of fun q hq => (z3 q (List.mem_mergeSort.mp hq)).1
    have hf : H (s.heap.objs.size + 1) = none := I.hok.fresh (Nat.le_succ _)
    refine ⟨.ref (s.heap.objs.size + 1), upd H (s.heap.objs.size + 1) (.lst _), I.laid (t' := s.toks) (fun b o e => sortedAll_old e) (Nat.le_succ _) ⟨?_, out, e, ev, he⟩, rfl, q _ _ rs hf⟩
    rw [rs.length]
    unfold sortD
    rw [List.length_mergeSort]
    exact cs.len
def rSortD : RDC
  | [.lst xs], Q => CanSort xs ∧ Q (.lst (sortD xs))
  | _, _ => False
variable {e : Expr} {ts : TDA} {p pos : Pos}
theorem df_sorted (hu : X.A.units + 70 < cLine) (hm : X.mg "sorted" = none) (ha : PA X [e] (lAP ts)) (hg : Gl X "sorted" := by rfl) (he : starEach [e] X.env = (false, eval e X.env) :: starEach [] X.env := by rfl) : PE X (.Call (.Name "sorted" p) [e] [] pos) (lF (dCall rSortD ts)) := by
  constructor
  intro pins s σ H Q I h
  obtain ⟨g, Qd, st, w, k⟩ := h
  refine (pe_callB (cr_sortV (z := g.z) (M := g.M) hu) hg hm (by decide +kernel) ha (he := he) (hpl := by rfl)).run pins s σ H Q I ⟨g, _, st, w, fun ds vs H1 w1 x1 s1 r1 => ?_⟩
  match ds, w1, r1 with
  | [.lst xs], w1, r1 =>
    obtain ⟨v, rfl, hv⟩ := r1.one
    obtain ⟨a, ys, rfl, h1, l1⟩ := hv.lst
    exact ⟨a, ys, xs, rfl, h1, l1, w1.1, fun ws p rs hp => k (.lst (sortD xs)) p _ w1.2 (x1.trans (.new hp)) (s1.alloc hp) (x1.none_of hp fun h => s1.fresh hp (res_M h.res)) (s1.fresh hp) (.lst upd_same (rs.tr (.new hp)))⟩
theorem u70 {k : Nat} {A : Around} (hr : Room k A) : A.units + 70 < cLine := by have := hr.un; omega
def intsD : List D → Option (List Int)
  | [] => some []
  | .int i :: r => (intsD r).map (i :: ·)
  | _ :: _ => none
def rMaxD : RDC
  | [.lst x], Q => ∃ ns, intsD x = some ns ∧ 0 < ns.length ∧ ∀ m, m ∈ ns → (∀ y ∈ ns, y ≤ m) → Q (.int m)
  | _, _ => False
end
end L2.DL
namespace L2.DL
open PySem PySem.Spec PyProof.Rows
def permL {α : Type} (perm : List Nat) (l : List α) : List α := perm.filterMap fun i => l[i]?
theorem permL_vals {vs : List V} {us : List Value} (r : Vals vs us) : ∀ perm : List Nat, Vals (permL perm vs) (permL perm us)
  | [] => .nil
  | i :: perm => by
    unfold permL
    rw [List.filterMap_cons, List.filterMap_cons]
    cases q : vs[i]? with
    | none => rw [Vals.none_of r q]; exact permL_vals r perm
    | some v =>
      obtain ⟨u, e, ru⟩ := r.get q
      rw [e]
      exact .cons ru (permL_vals r perm)
theorem permL_rpl {z : Bz} {M : MS} {H : Hp} {vs : List V} {ds : List D} (r : RpL z M H vs ds) : ∀ perm : List Nat, RpL z M H (permL perm vs) (permL perm ds)
  | [] => .nil
  | i :: perm => by
    unfold permL
    rw [List.filterMap_cons, List.filterMap_cons]
    cases q : vs[i]? with
    | none =>
      have : ds[i]? = none := by
        have := r.length
        rw [List.getElem?_eq_none_iff] at q ⊢
        omega
      rw [this]; exact permL_rpl r perm
    | some v =>
      obtain ⟨d, e, ru⟩ := r.getV q
      rw [e]
      exact .cons ru (permL_rpl r perm)
abbrev KBp (K : PySem.W.Frag) (fd : FuncData) (ps : List Str) (n : Nat) (ks : List Str) (perm : List Nat) : Prop := KBn K fd ps n ks (fun us ws => permL perm (us ++ ws)) (fun vs zs => permL perm (vs ++ zs))
section
variable {K : PySem.W.Frag} {x qual : Str} {params : Arguments} {body : List Stmt} {scope : Scope} {dvs : List V} {kws : List (Str × V)} {f : Addr} {fd : FuncData} {ps : List Str}
theorem kbp_none (F : FunD K x qual params body scope [] kws f fd) (n : Nat) (ks : List Str) (perm : List Nat)
    (h : ∀ (kV doc pm : Value) (an : Option Addr) (cdv ct : Value) (us ws : List Value), us.length = n → ws.length = ks.length → bindArgs (PySem.W.fnOf x qual params body scope .none kV doc pm an cdv ct) ⟨us, ks.zip ws⟩ = pure (ps.zip (permL perm (us ++ ws)))) : KBp K fd ps n ks perm := by
  obtain ⟨oc, od, dV, kV, doc, pm, an, cdv, ct, osl, rfl, lk, hcd, hD, hK⟩ := F.ex
  refine ⟨fun s us ws _ h1 h2 => ?_, fun r rz => permL_vals (r.append rz) perm⟩
  rcases hD with ⟨_, rfl⟩ | ⟨e, _⟩
  · exact .of_eq (h kV doc pm an cdv ct us ws h1 h2)
  · exact absurd rfl e
end
section
variable {X : Cx} {pos p kpos : Pos} {es : List Expr} {e : Expr} {te : TDE} {ts tk : TDA} {x : Str} {tf : TDF} {n m k : Nat} {f : Addr} {fd : FuncData} {ps ks : List Str} {perm : List Nat} {kws : List Keyword} {nm : Option Str}
theorem PK.imp {t t' : TA} (h : PK X kws t) (i : ∀ σ H Q, t' σ H Q → t σ H Q) : PK X kws t' := ⟨fun pos pins s σ H Q I w => h.run pos pins s σ H Q I (i _ _ _ w)⟩
theorem dw_nil : PK X [] (lA daNil) := PK.imp pk_nil fun σ H Q ⟨g, Qd, s, w, k⟩ => k [] [] H w .refl s .nil
theorem dw_cons (he : PE X e (lE te)) (hr : PK X kws (lA ts)) : PK X (⟨nm, e, kpos⟩ :: kws) (lA (daCons te ts)) := PK.imp (pk_cons he hr) fun σ H Q ⟨g, Qd, s, w, k⟩ =>
  ⟨g, _, s, w, fun d v H1 w1 x1 s1 r1 => ⟨g, _, s1, w1, fun ds vs H2 w2 x2 s2 r2 => k _ _ H2 w2 (x1.trans x2) s2 (.cons (r1.ext x2) r2)⟩⟩
def dFnK (n m : Nat) (perm : List Nat) (tf : TDF) (ts tk : TDA) : TDE := fun S Q => ts S fun ds => tk S fun es => ds.length = n ∧ es.length = m ∧ tf (permL perm (ds ++ es)) Q
/-- f(k = v, ..) -/
theorem pe_fnK0 {sp : Sp} {tk : TA} {CX : CXT} {E : XK} (F : FnOk X.prog X.w X.K X.mg X.base CX k f fd ps sp) (hr : Room k X.A) (hm : X.mg x = some (.ref f)) (hk : PySem.W.keepIn X.K (.ref f) = true) (hb : KBp X.K fd ps 0 ks perm) (hx : Passes CX X E) (hkw : PK X kws tk) (hg : Gl X x)
    (hall : (backToKw pos (keywordEach kws X.env)).all (·.1.isSome) = true) (hks : (backToKw pos (keywordEach kws X.env)).filterMap (·.1) = ks) (hdb : (x == ("__debug__" : Str)) = false) (hpl : ((backTo pos (starEach [] X.env)).any (·.1) || (backToKw pos (keywordEach kws X.env)).any (·.1.isNone)) = false) :
    PE X (.Call (.Name x p) [] kws pos) (fun σ H Q => tk σ H fun zs H2 => zs.length = ks.length ∧ sp (permL perm ([] ++ zs)) H2 Q E) := by
  constructor
  intro pins s σ H Q I h
  apply wpAny_Call_Name_kw
  apply ld_glob I hg hm _ hdb
  refine PySem.W.callWith_KW0 (h₀ := X.base) I.ok.mod.kin hk hall (thn (hkw.run pos pins s σ H _ I h) fun ws s2 ⟨zs, H2, I2, rz, l2, q2⟩ => ⟨I2.kIn, ?_⟩) hpl
  rw [hks]
  exact run_fnN (us := []) (vs := []) F hr hb hx I2 .nil rz rfl l2 q2
theorem df_fnK0 (F : FnOk X.prog X.w X.K X.mg X.base CX0 k f fd ps (spF n tf)) (hr : Room k X.A) (hm : X.mg x = some (.ref f)) (hk : PySem.W.keepIn X.K (.ref f) = true) (hb : KBp X.K fd ps 0 ks perm) (hkw : PK X kws (lA tk)) (hn : ∀ ds Q, tf ds Q → ds.length = n) (hg : Gl X x := by rfl)
    (hall : (backToKw pos (keywordEach kws X.env)).all (·.1.isSome) = true := by rfl) (hks : (backToKw pos (keywordEach kws X.env)).filterMap (·.1) = ks := by rfl) (hdb : (x == ("__debug__" : Str)) = false := by decide) (hpl : ((backTo pos (starEach [] X.env)).any (·.1) || (backToKw pos (keywordEach kws X.env)).any (·.1.isNone)) = false := by rfl) :
    PE X (.Call (.Name x p) [] kws pos) (lF (dFnK 0 ks.length perm tf daNil tk)) := PE.imp (pe_fnK0 F hr hm hk hb pass0 hkw hg hall hks hdb hpl) fun σ H Q ⟨g, Qd, s, w, kk⟩ =>
  ⟨g, _, s, w, fun ds vs H1 w1 x1 s1 r1 => by
    obtain ⟨_, l2, w1⟩ := w1
    have r2 := permL_rpl r1 perm
    exact ⟨by rw [r1.length]; exact l2, by rw [List.nil_append, r2.length]; exact hn _ _ w1, g.z, g.M, _, Qd, s1.amb, r2, w1, fun d a H' q x b hn nm o => kk d a H' q (x1.trans x) (s1.ext x b) (x1.none_of hn fun h => nm (res_M h.res)) nm o⟩⟩
end
section
variable {X : Cx} {e : Expr} {te : TDE} {pos p1 p2 p3 : Pos} {k : Nat}
theorem df_rev (he : PE X e (lP te)) : PE X (.Subscript e (.Slice none none (some (.UnaryOp .USub (.Constant (.int 1) k p1) p2)) p3) pos) (lF (fun S Q => te S fun d => ∃ xs, d = .lst xs ∧ Q (.lst xs.reverse))) := PE.imp (pe_revL he) fun σ H Q ⟨g, Qd, s, w, kk⟩ =>
  ⟨g, _, s, w, fun d v H1 w1 x1 s1 r1 => by
    obtain ⟨xs, rfl, q⟩ := w1
    obtain ⟨a, ys, rfl, h1, l1⟩ := r1.lst
    exact ⟨a, ys, rfl, .of h1, fun p hp => kk (.lst xs.reverse) p _ q (x1.trans (.new hp)) (s1.alloc hp) (x1.none_of hp fun h => s1.fresh hp (res_M h.res)) (s1.fresh hp) (.lst upd_same (l1.reverse.tr (.new hp)))⟩⟩
end
end L2.DL
namespace L2.DL
open PySem PySem.Spec PyProof.Rows
end L2.DL
namespace L2.DL
open PySem PySem.Spec PyProof.Rows
theorem wpMap_det {f : D → (List D → Prop) → Prop} (g : D → List D) : ∀ {ds : List D} {Q : List D → Prop}, (∀ d ∈ ds, ∀ k : List D → Prop, k (g d) → f d k) → Q (ds.flatMap g) → wpMap f ds Q
  | [], _, _, h => h
  | d :: ds, Q, hf, h => hf d (by simp) _ (wpMap_det g (fun e he => hf e (by simp [he])) (by simpa using h))
theorem flatMap_one (g : D → D) (ds : List D) : ds.flatMap (fun d => [g d]) = ds.map g := by
  induction ds with
  | nil => rfl
  | cons d ds ih => simp [ih]
theorem wpMap_map {f : D → (List D → Prop) → Prop} (g : D → D) {ds : List D} {Q : List D → Prop} (hf : ∀ d ∈ ds, ∀ k : List D → Prop, k [g d] → f d k) (h : Q (ds.map g)) : wpMap f ds Q :=
  wpMap_det (fun d => [g d]) hf (by rw [flatMap_one]; exact h)
theorem wpFor_inv {body : D → TDS} {De : EndsD} (I : Nat → SS → Prop) : ∀ {ds : List D} {S : SS} (i : Nat), I i S →
    (∀ (j : Nat) (d : D) (S : SS) (De' : EndsD), ds[j]? = some d → I (i + j) S → (∀ S', I (i + j + 1) S' → De'.nx S') → (∀ S', I (i + j + 1) S' → De'.ct S') → (∀ S', De.nx S' → De'.bk S') → De'.rt = De.rt → De'.rf = De.rf → body d De' S) →
    (∀ S, I (i + ds.length) S → De.nx S) → wpFor body ds De S
  | [], S, i, h, _, hn => hn S h
  | d :: ds, S, i, h, hb, hn => hb 0 d S _ rfl h
      (fun S' h' => wpFor_inv I (i + 1) h' (fun j e S De' hj hI hn hc hk hr hf => hb (j + 1) e S De' hj (by rw [show i + (j + 1) = i + 1 + j by omega]; exact hI) (by rw [show i + (j + 1) + 1 = i + 1 + j + 1 by omega]; exact hn) (by rw [show i + (j + 1) + 1 = i + 1 + j + 1 by omega]; exact hc) hk hr hf) (fun S hS => hn S (by rw [show i + (d :: ds).length = i + 1 + ds.length by simp; omega]; exact hS)))
      (fun S' h' => wpFor_inv I (i + 1) h' (fun j e S De' hj hI hn hc hk hr hf => hb (j + 1) e S De' hj (by rw [show i + (j + 1) = i + 1 + j by omega]; exact hI) (by rw [show i + (j + 1) + 1 = i + 1 + j + 1 by omega]; exact hn) (by rw [show i + (j + 1) + 1 = i + 1 + j + 1 by omega]; exact hc) hk hr hf) (fun S hS => hn S (by rw [show i + (d :: ds).length = i + 1 + ds.length by simp; omega]; exact hS)))
      (fun _ h => h) rfl rfl
mutual
theorem deqv_refl : ∀ (d : D), deqv d d = true
  | .non => rfl
  | .bl b => by cases b <;> rfl
  | .int i => by show PyData.eqv _ _ = true; simp [toPy, PyData.eqv]
  | .str s => by show PyData.eqv _ _ = true; simp [toPy, PyData.eqv]
  | .lst xs => by show PyData.eqv _ _ = true; simp only [toPy, PyData.eqv]; exact deqvL_refl xs
  | .tup xs => by show PyData.eqv _ _ = true; simp only [toPy, PyData.eqv]; exact deqvL_refl xs
  | .dic _ _ _ _ => rfl
  | .ins _ _ _ => rfl
  | .raw _ => rfl
  | .bag => rfl
  | .clo _ => rfl
theorem deqvL_refl : ∀ (ds : List D), deqvL ds ds = true
  | [] => rfl
  | d :: ds => by
    have h1 := deqv_refl d
    have h2 := deqvL_refl ds
    show PyData.eqvAll _ _ = true
    simp only [toPyL, PyData.eqvAll, Bool.and_eq_true]
    exact ⟨h1, h2⟩
end
theorem plainL_iff : ∀ {ds : List D}, plainL ds = true ↔ ∀ d ∈ ds, plainD d = true
  | [] => by simp [plainL]
  | d :: ds => by simp [plainL, plainL_iff (ds := ds)]
end L2.DL
namespace L2.DL
open PySem PySem.Spec PyProof.Rows
theorem seq_cut {a b : TDS} {De : EndsD} {S : SS} (h : ∀ R, R = b De → a { De with nx := R } S) : dsSeq a b De S := h _ rfl
theorem for_rng {n : Int} {i : Nat} {tb : TDS} {De : EndsD} {S : SS} (I : Nat → SS → Prop) (h1 : n < 2 ^ 62) (h2 : -2 ^ 62 ≤ n) (h0 : I 0 S)
    (hb : ∀ (j : Nat) (S : SS) (De' : EndsD), (j : Int) < n → I j S → (∀ S', I (j + 1) S' → De'.nx S') → (∀ S', I (j + 1) S' → De'.ct S') → (∀ S', De.nx S' → De'.bk S') → De'.rt = De.rt → De'.rf = De.rf → tb De' (S.set i (.val (.int j))))
    (he : ∀ S, I n.toNat S → De.nx S) : dsFor (diRng1 (daCons (dC (.int n)) daNil)) (dgName i) tb De S := by
  refine ⟨n, rfl, h1, h2, wpFor_inv I 0 h0 (fun j d S De' hj hI hn hc hk hr hf => ?_) (fun S hI => he S ?_)⟩
  · obtain ⟨hl, e⟩ := List.getElem?_eq_some_iff.mp hj
    simp only [List.length_map, List.length_range] at hl
    simp only [List.getElem_map, List.getElem_range] at e
    subst e
    rw [Nat.zero_add] at hI hn hc
    have := hb j S De' (by omega) hI hn hc hk hr hf
    simp only [dgName, Int.zero_add]
    exact this
  · simpa using hI
/-- the law's own start: the bag alone -/
theorem lS_law {t : TDS} {D : Ends} {p l : Addr} {H : Hp} {v : Option V} {n : Nat} (hb : BagAt H p l) (hD : ∀ H', D.rt (.bl true) H')
    (w : t { nx := fun _ => False, rt := fun d => d = .bl true, rf := fun _ => False } (.no :: .val .bag :: List.replicate n .no)) : lS t D (v :: some (.ref p) :: List.replicate n none) H := by
  have hz : BagOk ⟨some (p, l), none, [], [], ""⟩ H := ⟨fun a b e => (by cases e; exact hb), fun P e => (by cases e), fun a l P _ e => (by cases e)⟩
  refine ⟨⟨⟨some (p, l), none, [], [], ""⟩, fun _ => False, H, H, fun _ => False, fun _ => none, .no :: .val .bag :: List.replicate n .no⟩, _, ⟨fun i as φ e => (by
    have h1 := List.mem_of_getElem? e
    simp at h1), by simp, fun i d e => ?_, fun i d e => ?_, fun i j a e => (by cases e), fun i a e => (by cases e), fun a h => ?_, .refl, hz, .refl, fun _ h => h, fun _ h => h.elim, fun i E Ed e => (by
    have h1 := List.mem_of_getElem? e
    simp at h1), fun i p e => (by
    have h1 := List.mem_of_getElem? e
    simp at h1), fun _ h => .inl h⟩, w, ?_⟩
  · match i, e with
    | 0, e => cases e
    | 1, e =>
      simp only [List.getElem?_cons_succ, List.getElem?_cons_zero, Option.some.injEq, Sl.val.injEq] at e
      subst e
      exact ⟨_, rfl, .bag rfl⟩
    | i + 2, e =>
      simp only [List.getElem?_cons_succ, List.getElem?_replicate] at e
      split at e <;> cases e
  · match i, e with
    | 0, e => cases e
    | 1, e => cases e
    | i + 2, e =>
      simp only [List.getElem?_cons_succ, List.getElem?_replicate] at e
      split at e <;> cases e
  · rcases h with h | h | ⟨i, h⟩
    · exact h.elim
    · exact hz.alive h
    · cases h
  · refine ⟨fun ow S σ H' s' q => q.elim, fun _ _ _ _ _ q => q.elim, fun _ _ _ _ _ q => q.elim, fun d v H' q x b rp => ?_, fun d a H' q => q.elim, fun _ _ _ _ q => q.elim⟩
    subst q
    cases rp
    exact hD H'
end L2.DL
namespace L2.DL
open PySem PySem.Spec PyProof.Rows
theorem okD_lst {ds : List D} (h : ∀ d ∈ ds, plainD d = true ∧ dep d ≤ 63) : okD (.lst ds) = true := by
  unfold okD
  rw [Bool.and_eq_true]
  refine ⟨plainL_iff.mpr fun d hd => (h d hd).1, decide_eq_true ?_⟩
  have := depL_le.mpr fun d hd => (h d hd).2
  simp only [dep]
  omega
theorem permL_nil {α : Type} (l : List α) : permL [] l = [] := rfl
theorem permL_cons {α : Type} (i : Nat) (p : List Nat) (l : List α) : permL (i :: p) l = (l[i]?).toList ++ permL p l := by
  unfold permL
  rw [List.filterMap_cons]
  cases l[i]? <;> rfl
theorem deqv_int (i j : Int) : deqv (.int i) (.int j) = decide (i = j) := by
  show PyData.eqv _ _ = _
  simp only [toPy, PyData.eqv]
  by_cases h : i = j <;> simp [h]
end L2.DL
namespace L2.DL
open PySem PySem.Spec PyProof.Rows
theorem WkA.own {g : Gh} {H1 : Hp} {K : PySem.W.Frag} {a A : Addr} {o : HO} {xs : List V} {ds : List D} (e : H1 a = some (.lst xs)) (n : ¬ resB g.z a) (l : RpL g.z g.M H1 xs ds) (hA : H1 A = none) : WkA (withD g A) A (upd H1 A o) (Itl K a) ds := by
  have na : a ≠ A := ne_of_none e hA
  have at_ : ∀ {H'}, ExtA g.z A (upd H1 A o) H' → H' a = some (.lst xs) := fun {H'} x => x a _ (by rw [upd_ne na]; exact e) (fun h => n h.res) na
  refine ⟨fun i H' x hi => ?_, fun H' x => ⟨xs, .of (at_ x), by rw [l.length]; exact Nat.le_refl _⟩, fun i H' v H'' d x fr y hd => ?_⟩
  · obtain ⟨v, hv, _⟩ := l.get (List.getElem?_eq_getElem hi)
    exact ⟨xs, v, .of (at_ x), hv⟩
  · obtain ⟨rfl, y⟩ := y
    obtain ⟨v', hv, r⟩ := l.get hd
    have := (y xs (.of (at_ x))).symm.trans hv
    cases this
    have tr : Tr g.M H1 (withD g A).M H'' := Tr.of fun b u n e => ⟨x b u (by rw [upd_ne (ne_of_none e hA)]; exact e) (fun h => n (res_M h.res)) (ne_of_none e hA), fun h => (withD_M.mp h).elim n (ne_of_none e hA)⟩
    exact ⟨fun _ _ e => e, r.tr tr⟩
end L2.DL
namespace L2.DL
open PySem PySem.Spec PyProof.Rows
def getF : List Str → List D → Str → Option D
  | n :: ns, v :: vs, f => if n = f then some v else getF ns vs f
  | _, _, _ => none
theorem getF_rp {z : Bz} {M : MS} {H : Hp} {f : Str} {d : D} : ∀ {fs : List (Str × V)} {ds : List D}, RpL z M H (fs.map fun p => p.2) ds → getF (fs.map fun p => p.1) ds f = some d → ∃ v, fs.lookup f = some v ∧ Rp z M H v d
  | [], _, .nil, h => by simp [getF] at h
  | (n, v) :: fs, _, .cons a b, h => by
    simp only [List.map_cons, getF] at h
    by_cases c : n = f
    · subst c
      rw [if_pos rfl] at h
      cases h
      exact ⟨v, by simp [List.lookup], a⟩
    · rw [if_neg c] at h
      obtain ⟨v', e, r⟩ := getF_rp b h
      refine ⟨v', ?_, r⟩
      rw [List.lookup_cons, beq_eq_false_iff_ne.mpr (fun q => c q.symm)]
      exact e
theorem getF_no {f : Str} : ∀ {fs : List (Str × V)}, f ∉ (fs.map fun p => p.1) → fs.lookup f = none
  | [], _ => rfl
  | (n, v) :: fs, h => by
    simp only [List.map_cons, List.mem_cons, not_or] at h
    rw [List.lookup_cons, beq_eq_false_iff_ne.mpr h.1]
    exact getF_no h.2
def putN (f : Str) : List Str → List Str
  | [] => [f]
  | n :: ns => if n = f then n :: ns else n :: putN f ns
def putV (f : Str) (d : D) : List Str → List D → List D
  | n :: ns, v :: vs => if n = f then d :: vs else v :: putV f d ns vs
  | _, _ => [d]
theorem putF_names (f : Str) (v : V) : ∀ fs : List (Str × V), (putF f v fs).map (fun p => p.1) = putN f (fs.map fun p => p.1)
  | [] => rfl
  | (n, u) :: fs => by
    rw [putF.eq_2, List.map_cons, putN]
    by_cases c : n = f
    · rw [if_pos c, if_pos c]; rfl
    · rw [if_neg c, if_neg c, List.map_cons, putF_names f v fs]
theorem putF_vals {z : Bz} {M : MS} {H : Hp} {f : Str} {v : V} {d : D} (r : Rp z M H v d) : ∀ {fs : List (Str × V)} {ds : List D}, RpL z M H (fs.map fun p => p.2) ds → RpL z M H ((putF f v fs).map fun p => p.2) (putV f d (fs.map fun p => p.1) ds)
  | [], _, .nil => .cons r .nil
  | (n, u) :: fs, _, .cons a b => by
    rw [putF.eq_2, List.map_cons, putV]
    by_cases c : n = f
    · rw [if_pos c, if_pos c]; exact .cons r b
    · rw [if_neg c, if_neg c]; exact .cons a (putF_vals r b)
/-- an instance, read -/
theorem Pk.ins {g : Gh} {H : Hp} {v : V} {C : Addr} {ns : List Str} {vs : List D} (h : Pk g H v (.ins C ns vs)) : ∃ a dx fs, v = .ref a ∧ H a = some (.ins C dx fs) ∧ (∀ (f : Str) (d : D), f ≠ ("" : Str) → getF ns vs f = some d → ∃ u, fs.lookup f = some u ∧ Rp g.z g.M H u d) ∧ ∀ f : Str, f ∉ ns → fs.lookup f = none := by
  have key : ∀ (fs : List (Str × V)) (ds : List D) (a : Addr), RpL g.z g.M H (fs.map fun p => p.2) ds → (∀ (f : Str) (d : D), f ≠ ("" : Str) → getF ("" :: fs.map fun p => p.1) (.raw (.ref a) :: ds) f = some d → ∃ u, fs.lookup f = some u ∧ Rp g.z g.M H u d) ∧ ∀ f : Str, f ∉ (("" : Str) :: fs.map fun p => p.1) → fs.lookup f = none := fun fs ds a l =>
    ⟨fun f d hf e => getF_rp l (by rw [getF, if_neg (Ne.symm hf)] at e; exact e), fun f hf => getF_no fun q => hf (List.mem_cons_of_mem _ q)⟩
  rcases h with h | ⟨a, rfl, _, _, h⟩
  · cases h with
    | ins h q n l => exact ⟨_, _, _, rfl, h, fun f d _ e => getF_rp l e, fun f hf => getF_no hf⟩
    | slf h n l => exact ⟨_, _, _, rfl, h, (key _ _ _ l).1, fun f hf => getF_no fun q => hf (List.mem_cons_of_mem _ q)⟩
  · cases h with
    | ins h q l => exact ⟨_, _, _, rfl, h, fun f d _ e => getF_rp l e, fun f hf => getF_no hf⟩
    | slf h l => exact ⟨_, _, _, rfl, h, (key _ _ _ l).1, fun f hf => getF_no fun q => hf (List.mem_cons_of_mem _ q)⟩
def dFld (C : Addr) (f : Str) (te : TDE) : TDE := fun S Q => te S fun d => ∃ ns vs v, d = .ins C ns vs ∧ getF ns vs f = some v ∧ Q v
section
variable {X : Cx} {e o : Expr} {es : List Expr} {te to : TDE} {ts : TDA} {C f i' : Addr} {x m : Str} {fl : Str} {pos p apos pos' : Pos} {i n k : Nat} {fd : FuncData} {ps : List Str} {tf : TDF} {dvs : List V} {dds : List D}
theorem de_fld (he : PE X e (lP te)) (hc : Cls X.K C) (hn : NoAttr X.K C fl) (hf : fl ≠ ("" : Str) := by decide) (hb : attributeBase e fl X.env (eval e X.env) = eval e X.env := by rfl) : PE X (.Attribute e fl pos) (lE (dFld C fl te)) := PE.imp (pe_fld he hb) fun σ H Q ⟨g, Qd, s, w, k⟩ =>
  ⟨g, _, s, w, fun d v H1 w1 x1 s1 r1 => by
    obtain ⟨ns, vs, d1, rfl, e1, q⟩ := w1
    obtain ⟨a, dx, fs, rfl, h, hg, _⟩ := Pk.ins r1
    obtain ⟨u, e2, r2⟩ := hg _ _ hf e1
    exact ⟨a, C, dx, fs, u, rfl, h, hc, hn, e2, k d1 u H1 q x1 s1 r2⟩⟩
/-- self.f = e, of the new self -/
def dsFld (i : Nat) (C : Addr) (fl : Str) (te : TDE) : TDS := fun De S => ∃ ns vs a, S[i]? = some (.own (.ins C ("" :: ns) (.raw (.ref a) :: vs))) ∧ te S fun d => ns.length < 1000 ∧ De.nx (S.set i (.own (.ins C ("" :: putN fl ns) (.raw (.ref a) :: putV fl d ns vs))))
theorem ow_slf {z : Bz} {M : MS} {H : Hp} {a b C : Addr} {ns : List Str} {vs : List D} (h : Ow z M H a (.ins C ("" :: ns) (.raw (.ref b) :: vs))) : ∃ dx fs, b = a ∧ H a = some (.ins C dx fs) ∧ ns = (fs.map fun p => p.1) ∧ RpL z M H (fs.map fun p => p.2) vs := by
  generalize hd : D.ins C ("" :: ns) (.raw (.ref b) :: vs) = d at h
  cases h with
  | lst => cases hd
  | dicK => cases hd
  | dicT => cases hd
  | ins e q l =>
    simp only [D.ins.injEq] at hd
    exact (q (by rw [← hd.2.1]; simp)).elim
  | slf e l =>
    simp only [D.ins.injEq, List.cons.injEq, D.raw.injEq, V.ref.injEq, true_and] at hd
    obtain ⟨rfl, rfl, rfl, rfl⟩ := hd
    exact ⟨_, _, rfl, e, rfl, l⟩
theorem ds_fld (ho : PE X o (tVar i)) (he : PE X e (lE te)) (hc : Cls X.K C) (hn : NoAttr X.K C fl) (hs : swapsWith e (some (.Attribute o fl pos')) pos.line X.env = pure false := by rfl) : PS X (.Assign [.Attribute o fl pos'] e pos) (lS (dsFld i C fl te)) :=
  PS.imp (ps_fld ho he hs) fun D σ H ⟨g, De, s, ⟨ns, vs, b, e1, w⟩, l⟩ => ⟨g, _, s, w, fun d v H1 w1 x1 s1 r1 => by
    obtain ⟨a, ea, eo, o1⟩ := s1.own i _ e1
    obtain ⟨dx, fs, rfl, h1, rfl, l1⟩ := ow_slf o1
    refine ⟨.ref b, ea, b, C, dx, fs, rfl, h1, hc, hn, by have := w1.1; rwa [List.length_map] at this, ?_⟩
    have tr : Tr g.M H1 g.M (upd H1 b (HO.ins C dx (putF fl v fs))) := tr_mut (.inr (.inr ⟨i, eo⟩)) _
    refine l.nx g.ow _ σ _ (s1.mutate e1 ea (.inr rfl) ?_) w1.2
    have := Ow.slf (z := g.z) (M := g.M) (H := upd H1 b (.ins C dx (putF fl v fs))) (a := b) (C := C) (dx := dx) (fs := putF fl v fs) upd_same ((putF_vals r1 l1).tr tr)
    rw [putF_names] at this
    exact this⟩
/-- the contract of __init__: the heap ahead of the new object is the base -/
def spI (C : Addr) (n : Nat) (tf : TDF) : Sp := fun vs H Q _ => ∃ (H1 : Hp) (x dx : Addr) (us : List V) (ds : List D) (z : Bz) (M : MS) (Qd : D → Prop), vs = .ref x :: us ∧ us.length = n ∧ H = upd (upd H1 dx (.own x)) x (.ins C dx []) ∧ H1 x = none ∧ H1 dx = none ∧ dx ≠ x ∧ Amb z M H1 ∧ RpL z M H1 us ds ∧ tf ds Qd ∧ ∀ ns vs H', Qd (.ins C ns vs) → Ext z H1 H' → BagOk z H' → OwF z M H' x (.ins C ns vs) → Q .non H'
def dMeth (C : Addr) (m : Str) (tf : TDF) (dds : List D) (to : TDE) (ts : TDA) : TDE := fun S Q => to S fun d => ∃ ns vs, d = .ins C ns vs ∧ m ∉ ns ∧ ts S fun ds => tf (d :: (ds ++ dds)) Q
theorem de_meth (ho : PE X o (lE to)) (hc : Cls X.K C) (hm : Meth X.K C m f) (F : FnOk X.prog X.w X.K X.mg X.base CX0 k f fd ps (spE n tf)) (hr : Room k X.A) (hb : ∃ dsv, Vals dvs dsv ∧ Binds X.K fd ps dsv) (hdd : ∀ z M H, RpL z M H dvs dds) (ha : PA X (e :: es) (lA ts)) (hn : ∀ ds Q, tf ds Q → ds.length = n) {pl : Sem Bool}
    (he : starEach (e :: es) X.env = (false, eval e X.env) :: starEach es X.env := by rfl) (hpl : (backTo pos (starEach es X.env)).any (·.1) = false := by rfl)
    (hev : eval (.Call (.Attribute o m apos) (e :: es) [] pos) X.env = (do let ov ← eval o X.env; standAt apos.atName; let fs ← holding [ov] (getMethod ov m pl); callWith pos fs.1 fs.2 (backTo pos (starEach (e :: es) X.env)) (backToKw pos (keywordEach [] X.env))) := by rfl) :
    PE X (.Call (.Attribute o m apos) (e :: es) [] pos) (lE (dMeth C m tf dds to ts)) := by
  obtain ⟨dsv, hd, hb⟩ := hb
  exact PE.imp (pe_meth ho hc hm F hr hb hd pass0 ha he hpl hev) fun σ H Q ⟨g, Qd, s, w, kk⟩ =>
    ⟨g, _, s, w, fun d v H1 w1 x1 s1 r1 => by
      obtain ⟨ns, vs, rfl, hmn, w2⟩ := w1
      obtain ⟨a, dx, fs, rfl, h, _, hno⟩ := Pk.ins (.inl r1)
      refine ⟨a, dx, fs, rfl, h, hno m hmn, g, _, s1, w2, fun ds us H2 w3 x2 s2 r2 => ?_⟩
      have r3 : RpL g.z g.M H2 (.ref a :: (us ++ dvs)) (.ins C ns vs :: (ds ++ dds)) := .cons (r1.ext x2) (r2.append (hdd g.z g.M H2))
      exact ⟨by rw [r3.length]; exact hn _ _ w3, g.z, g.M, _, Qd, s2.amb, r3, w3, fun d v H' q x b rp => kk d v H' q ((x1.trans x2).trans x) (s2.ext x b) rp⟩⟩
end
theorem ok_I {P : Program} {w : World} {K : PySem.W.Frag} {mg : Str → Option Value} {base : Heap} {x qual : Str} {st : Stmt} {f C : Addr} {fd : FuncData} {N ps : List Str} {k n : Nat} {tf : TDF} {dfv : List V} {kwv : List (Str × V)} (F : FunD K x qual (defArgs st) (defBody st) (defScope st) dfv kwv f fd) (S : FnScope N ps (defScope st)) (hn : ps.length = n + 1 := by rfl)
    (hb : ∀ (cdv : Value) (A : Around) (outer : List Env) (s : Shared) (H : Hp) (E : XK), Room k (A.deeper (envOfC qual (defScope st) s.heap.objs.size f cdv)) → ∃ t : TDS, PSs (cxOf CX0 P w K mg base N qual (defScope st) f cdv A outer s H E).nox (defBody st) (lS t) ∧
      ∀ ds Qd y, ds.length = n → tf ds Qd → t { nx := fun S => ∃ ns vs, S[0]? = some (.own (.ins C ("" :: ns) (.raw (.ref y) :: vs))) ∧ ("" : Str) ∉ ns ∧ Qd (.ins C ns vs), rt := fun _ => False, rf := fun _ => False } (.own (.ins C [""] [.raw (.ref y)]) :: (ds.map .val ++ List.replicate (N.length - (n + 1)) .no))) : FnOk P w K mg base CX0 (k + 1) f fd ps (spI C n tf) := by
  refine F.ok S (fun vs H Q E h => ?_) (fun cdv A outer s H vs Q E hr h => ?_)
  · obtain ⟨H1, x, dx, us, ds, z, M, Qd, rfl, hl, _⟩ := h
    rw [hn]; simp [hl]
  · obtain ⟨H1, y, dx, us, ds, z, M, Qd, rfl, hl, rfl, hy, hdx, ne, Am, r, t, k⟩ := h
    obtain ⟨tt, hp, hw⟩ := hb cdv A outer s _ E hr
    have hM : Mo M z (fun _ => none) = M := mo_none Am.res
    have hd : ds.length = n := by rw [← r.length]; exact hl
    subst hd
    have s0 : Stt (gh0 z M H1 N (.non :: ds)) (start N (.non :: us)) H1 := stt0 Am (.cons .non r)
    have hgM : (gh0 z M H1 N (.non :: ds)).M = M := hM
    have nM : ¬ M y := fun h => (Am.alive y h).ne hy
    have x1 : Ext z H1 (upd (upd H1 dx (.own y)) y (.ins C dx [])) := fun b o e _ => by rw [upd_ne (ne_of_none e hy), upd_ne (ne_of_none e hdx)]; exact e
    have b1 : BagOk z (upd (upd H1 dx (.own y)) y (.ins C dx [])) := Am.bag.grow fun b o e => by rw [upd_ne (ne_of_none e hy), upd_ne (ne_of_none e hdx)]; exact e
    have s1 := s0.setOwn (i := 0) (d := .ins C [""] [.raw (.ref y)]) (a := y) x1 b1 hy (by rw [hgM]; exact nM) (.slf upd_same .nil)
    refine ⟨_, PSs.nox hp, _, _, s1, hw ds Qd y rfl t, ?_⟩
    refine ⟨fun ow S σ H' s' q => ?_, fun _ _ _ _ _ q => q.elim, fun _ _ _ _ _ q => q.elim, fun d v H' q => q.elim, fun d a H' q => q.elim, fun _ _ _ _ q => q.elim⟩
    obtain ⟨ns, vs, e1, nn, q⟩ := q
    obtain ⟨a, ea, eo, o1⟩ := s'.own 0 _ e1
    obtain ⟨dx', fs, rfl, h1, rfl, l1⟩ := ow_slf o1
    refine k _ _ H' q s'.keep s'.bag (.ins h1 nn (l1.tr (Tr.of fun b u nb e => ⟨e, fun h => ?_⟩)))
    rcases h with h | h
    · exact nb (.inl h)
    · exact nb (.inr (.inr ⟨.inl 0, by rw [h]; exact eo⟩))
end L2.DL
namespace L2.DL
open PySem PySem.Spec PyProof.Rows
theorem instAt_of {P : Program} {w : World} {H : Hp} {h : Heap} {a C dx : Addr} {fs : List (Str × V)} (k : HOk P w H h) (e : H a = some (.ins C dx fs)) : ∃ ox od, PySem.W.InstAt h a ox C od := by
  obtain ⟨mA, O, _⟩ := ins_get k e
  obtain ⟨o, es, ep, ho, _⟩ := O.ns
  exact ⟨_, some o, O.obj, rfl, rfl, ho⟩
theorem back_of {X : Cx} {pins : List (Addr × Obj)} {σ : St} {Q : VK} {v : Value} {s : Shared} (h : EP X pins σ Q v s) : PySem.W.CmpBack (EP X pins σ Q) v s := by
  obtain ⟨x, H, I, r, q⟩ := h
  have h' : EP X pins σ Q v s := ⟨x, H, I, r, q⟩
  cases v <;> first | exact h' | (cases x <;> (try (exact (nomatch r))) <;> (try (obtain ⟨_, r⟩ := r)) <;> cases r)
section
variable {X : Cx} {C f : Addr} {fd : FuncData} {ps : List Str} {op : Operator} {tf : TDF} {k : Nat} {a b : Expr} {ta tb : TDE} {pos : Pos}
def dOp2 (C : Addr) (tf : TDF) (ta tb : TDE) : TDE := fun S Q => ta S fun d => tb S fun e => (∃ ns vs, d = .ins C ns vs) ∧ (∃ i, e = .int i) ∧ tf [d, e] Q
end
section
variable {X : Cx} {C f : Addr} {fd : FuncData} {ps : List Str} {tf : TDF} {k : Nat} {a b : Expr} {ta tb : TDE} {pos : Pos}
def dRadd (C : Addr) (tf : TDF) (ta tb : TDE) : TDE := fun S Q => ta S fun d => tb S fun e => (∃ x, d = .str x) ∧ (∃ ns vs, e = .ins C ns vs) ∧ tf [e, d] Q
def dGet (C : Addr) (tf : TDF) (ta tb : TDE) : TDE := fun S Q => ta S fun d => tb S fun e => (∃ ns vs, d = .ins C ns vs) ∧ tf [d, e] Q
def dEqI (C : Addr) (tf : TDF) (ta tb : TDE) : TDE := fun S Q => ta S fun d => tb S fun e => (∃ ns vs, d = .ins C ns vs) ∧ (∃ ns vs, e = .ins C ns vs) ∧ tf [d, e] Q
end
end L2.DL
namespace L2.DL
open PySem PySem.Spec PyProof.Rows
structure IsC (K : PySem.W.Frag) (C : Addr) : Prop where
  cls : Cls K C
  at_ : PySem.W.findIn K (.ref C) "__class__" = some (some (.builtin "object.__class__"))
  sp : PySem.W.specialIn K (.builtin "object.__class__") "__get__" = some (some (.builtin "getset_descriptor.__get__"))
  tk : PySem.W.takesIn K (.builtin "object.__class__") = some true
  mro : PySem.W.mroIn K C (.type "object") = some true
section
variable {X : Cx} {e o a b : Expr} {te to : TDE} {ts : TDA} {C f : Addr} {x m : Str} {pos p apos : Pos} {n k : Nat} {fd : FuncData} {ps : List Str} {tf : TDF} {dvs : List V} {dds : List D}
theorem de_cls (hm : X.mg x = some (.ref C)) (hg : Gl X x := by rfl) (hdb : (x == ("__debug__" : Str)) = false := by decide) : PE X (.Name x pos) (lE (dC (.raw (.ref C)))) := de_C (pe_glob (v := .ref C) hg hm rfl hdb) fun _ _ _ => .raw _
def rIsiC (C : Addr) : RDC
  | [.ins C' _ _, .raw (.ref C'')], Q => (C' = C ∧ C'' = C) ∧ Q (.bl true)
  | _, _ => False
theorem de_meth0 (ho : PE X o (lE to)) (hc : Cls X.K C) (hm : Meth X.K C m f) (F : FnOk X.prog X.w X.K X.mg X.base CX0 k f fd ps (spE n tf)) (hr : Room k X.A) (hb : ∃ dsv, Vals dvs dsv ∧ Binds X.K fd ps dsv) (hdd : ∀ z M H, RpL z M H dvs dds) (hn : ∀ ds Q, tf ds Q → ds.length = n) {pl : Sem Bool}
    (hev : eval (.Call (.Attribute o m apos) [] [] pos) X.env = (do let ov ← eval o X.env; standAt apos.atName; let fs ← holding [ov] (getMethod ov m pl); callWith pos fs.1 fs.2 (backTo pos (starEach [] X.env)) (backToKw pos (keywordEach [] X.env))) := by rfl) :
    PE X (.Call (.Attribute o m apos) [] [] pos) (lE (dMeth C m tf dds to daNil)) := by
  obtain ⟨dsv, hd, hb⟩ := hb
  exact PE.imp (pe_meth0 ho hc hm F hr hb hd pass0 hev) fun σ H Q ⟨g, Qd, s, w, kk⟩ =>
    ⟨g, _, s, w, fun d v H1 w1 x1 s1 r1 => by
      obtain ⟨ns, vs, rfl, hmn, w2⟩ := w1
      obtain ⟨a, dx, fs, rfl, h, _, hno⟩ := Pk.ins (.inl r1)
      have r3 : RpL g.z g.M H1 (.ref a :: ([] ++ dvs)) (.ins C ns vs :: ([] ++ dds)) := .cons r1 (hdd g.z g.M H1)
      exact ⟨a, dx, fs, rfl, h, hno m hmn, by rw [r3.length]; exact hn _ _ w2, g.z, g.M, _, Qd, s1.amb, r3, w2, fun d v H' q x b rp => kk d v H' q (x1.trans x) (s1.ext x b) rp⟩⟩
end
theorem wpWhile_inv {c : TDT} {tb : TDS} {De : EndsD} (I : Nat → SS → Prop) (hs : ∀ (m : Nat) (S : SS) (De' : EndsD), I m S → (∀ m' S', m' < m → I m' S' → De'.nx S') → (∀ m' S', m' < m → I m' S' → De'.ct S') → (∀ S', De.nx S' → De'.bk S') → De'.rt = De.rt → De'.rf = De.rf → c S fun k => if k = true then tb De' S else De.nx S) : ∀ (n m : Nat) (S : SS), m < n → I m S → wpWhile c tb n De S
  | 0, m, S, h, _ => absurd h (Nat.not_lt_zero _)
  | n + 1, m, S, h, hI => hs m S _ hI (fun m' S' hm h' => wpWhile_inv I hs n m' S' (by omega) h') (fun m' S' hm h' => wpWhile_inv I hs n m' S' (by omega) h') (fun _ h => h) rfl rfl
theorem while_cut {c : TDT} {tb : TDS} {De : EndsD} {S : SS} (I : Nat → SS → Prop) (m : Nat) (h0 : I m S) (hs : ∀ (m : Nat) (S : SS) (De' : EndsD), I m S → (∀ m' S', m' < m → I m' S' → De'.nx S') → (∀ m' S', m' < m → I m' S' → De'.ct S') → (∀ S', De.nx S' → De'.bk S') → De'.rt = De.rt → De'.rf = De.rf → c S fun k => if k = true then tb De' S else De.nx S) : dsWhile c tb De S := ⟨m + 1, wpWhile_inv I hs (m + 1) m S (by omega) h0⟩
end L2.DL
namespace L2.DL
open PySem PySem.Spec PyProof.Rows
theorem ite_nd {P Q : Prop} {x y : D} {i : Decidable ((!deqv x y) = true)} (h : x = y) (q : Q) : @ite Prop ((!deqv x y) = true) i P Q := by
  subst h
  rw [if_neg (by rw [deqv_refl]; decide)]
  exact q
theorem ite_no {P Q c : Prop} {i : Decidable c} (h : ¬ c) (q : Q) : @ite Prop c i P Q := by
  rw [if_neg h]; exact q
theorem ite_yes {P Q c : Prop} {i : Decidable c} (h : c) (q : P) : @ite Prop c i P Q := by
  rw [if_pos h]; exact q
theorem for_cutG {ti : TDI} {tg : TDG} {tb : TDS} {De : EndsD} {S : SS} (h : ∀ G : List D → Prop, (∀ ds, wpFor (fun d De' S' => tg d S' fun S2 => tb De' S2) ds De S → G ds) → ti S G) : dsFor ti tg tb De S := h _ fun _ h => h
end L2.DL
namespace L2.DL
open PySem PySem.Spec PyProof.Rows
def tyNames : List String := ["NoneType", "bool", "int", "str", "list", "tuple"]
theorem tyN_mem {d : D} {n : String} (h : tyN d = some n) : n ∈ tyNames := by
  cases d <;> simp [tyN] at h <;> subst h <;> decide
structure IsX (K : PySem.W.Frag) (C : Addr) : Prop extends IsC K C where
  cs : (PySem.W.clsIn K C).isSome = true
  ty : PySem.W.typeIn K (.ref C) = some (.type "type")
  sub : ∀ n ∈ tyNames, PySem.W.subIn K (.type n) (.ref C) = some false
theorem IsX.mk' {K : PySem.W.Frag} {C : Addr} (c : IsC K C) (cs : (PySem.W.clsIn K C).isSome = true) (ty : PySem.W.typeIn K (.ref C) = some (.type "type"))
    (h1 : PySem.W.subIn K (.type "NoneType") (.ref C) = some false) (h2 : PySem.W.subIn K (.type "bool") (.ref C) = some false) (h3 : PySem.W.subIn K (.type "int") (.ref C) = some false) (h4 : PySem.W.subIn K (.type "str") (.ref C) = some false) (h5 : PySem.W.subIn K (.type "list") (.ref C) = some false) (h6 : PySem.W.subIn K (.type "tuple") (.ref C) = some false) : IsX K C :=
  ⟨c, cs, ty, fun n hn => by
    simp only [tyNames, List.mem_cons, List.not_mem_nil, or_false] at hn
    rcases hn with rfl | rfl | rfl | rfl | rfl | rfl <;> assumption⟩
theorem IsX.kit {K : PySem.W.Frag} {C : Addr} (c : IsX K C) {n : String} (h : n ∈ tyNames) : PySem.W.kitOne K (.type n) (.ref C) = some false := by
  unfold PySem.W.kitOne
  rw [if_neg (by intro q; cases q)]
  show (if ((PySem.W.clsIn K C).isSome && PySem.W.typeIn K (.ref C) == some (.type "type")) = true then PySem.W.subIn K (.type n) (.ref C) else none) = some false
  rw [c.cs, c.ty, if_pos (by simp)]
  exact c.sub n h
def rIsiX (C : Addr) : RDC
  | [.ins C' _ _, .raw (.ref C'')], Q => (C' = C ∧ C'' = C) ∧ Q (.bl true)
  | [d, .raw (.ref C'')], Q => (C'' = C ∧ (tyN d).isSome = true) ∧ Q (.bl false)
  | _, _ => False
theorem real_isiX {K : PySem.W.Frag} {C : Addr} (c : IsX K C) : RealC (rIsi K) (rIsiX C) := by
  intro g σ H xs ds Qd Q s hx w k
  have hh : (∃ ns vs, ds = [.ins C ns vs, .raw (.ref C)] ∧ Qd (.bl true)) ∨ ∃ d n, ds = [d, .raw (.ref C)] ∧ tyN d = some n ∧ Qd (.bl false) := by
    unfold rIsiX at w
    split at w
    · obtain ⟨⟨rfl, rfl⟩, q⟩ := w
      exact .inl ⟨_, _, rfl, q⟩
    · obtain ⟨⟨rfl, q⟩, q'⟩ := w
      obtain ⟨n, hn⟩ := Option.isSome_iff_exists.mp q
      exact .inr ⟨_, n, rfl, hn, q'⟩
    · exact w.elim
  rcases hh with ⟨ns, vs, rfl, q⟩ | ⟨d, n, rfl, hn, q⟩
  · obtain ⟨v, v', rfl, h, h'⟩ := hx.two
    obtain ⟨a, dx, fs, rfl, e, _⟩ := Pk.ins h
    obtain rfl := Pk.raw h'
    refine ⟨_, _, .ref C, .ref C, true, rfl, .own _, .base (.ins e c.cls c.at_ c.sp c.tk c.mro), ?_, k.here s q (.bl _)⟩
    unfold PySem.W.kitOne
    rw [if_pos (by exact beq_self_eq_true _)]
  · obtain ⟨v, v', rfl, h, h'⟩ := hx.two
    obtain rfl := Pk.raw h'
    exact ⟨_, _, .type n, .ref C, false, rfl, .own _, h.ty hn, c.kit (tyN_mem hn), k.here s q (.bl _)⟩
section
variable {X : Cx} {C f : Addr} {fd : FuncData} {ps : List Str} {tf : TDF} {k : Nat} {a b : Expr} {ta tb : TDE} {ts : TDA} {pos p : Pos}
theorem de_isiX (c : IsX X.K C) (hm : X.mg "isinstance" = none) (ha : PA X [a, b] (lAP ts)) (hg : Gl X "isinstance" := by rfl) (he : starEach [a, b] X.env = (false, eval a X.env) :: starEach [b] X.env := by rfl) (hpl : (backTo pos (starEach [b] X.env)).any (·.1) = false := by rfl) : PE X (.Call (.Name "isinstance" p) [a, b] [] pos) (lE (dCall (rIsiX C) ts)) := de_callB call_isi (real_isiX c) hg hm (by decide +kernel) ha (he := he) (hpl := hpl)
structure EqX (K : PySem.W.Frag) (C f : Addr) : Prop where
  isx : IsX K C
  eq : PySem.W.findIn K (.ref C) "__eq__" = some (some (.ref f))
  fn : PySem.W.isFn K (.ref f) = true
  ne : PySem.W.findIn K (.ref C) "__ne__" = some (some (.builtin "object.__ne__"))
def okOther (C : Addr) : D → Prop
  | .ins C' _ _ => C' = C
  | e => (tyN e).isSome = true
theorem other_ty {K : PySem.W.Frag} {C : Addr} {g : Gh} {H : Hp} {v : V} {e : D} (c : IsX K C) (h : okOther C e) (r : Pk g H v e) : ∃ tb, TyX K H v tb ∧ PySem.W.notFirst K C tb = true := by
  by_cases hi : ∃ C' ns vs, e = .ins C' ns vs
  · obtain ⟨C', ns, vs, rfl⟩ := hi
    obtain rfl : C' = C := h
    obtain ⟨a, dx, fs, rfl, e, _⟩ := Pk.ins r
    exact ⟨.ref C', .base (.ins e c.cls c.at_ c.sp c.tk c.mro), by unfold PySem.W.notFirst; simp⟩
  · have h' : (tyN e).isSome = true := by
      cases e <;> first | exact h | exact (hi ⟨_, _, _, rfl⟩).elim
    obtain ⟨n, hn⟩ := Option.isSome_iff_exists.mp h'
    refine ⟨.type n, r.ty hn, ?_⟩
    unfold PySem.W.notFirst
    rw [c.sub n (tyN_mem hn)]
    simp
theorem op_eqX (o : EqX X.K C f) (F : FnOk X.prog X.w X.K X.mg X.base CX0 k f fd ps (spE 2 tf)) (hr : Room k X.A) (hb : Binds X.K fd ps []) : OpR X (compareOp .Eq) (fun x y H Q => ∃ a dx fs tb, x = .ref a ∧ H a = some (.ins C dx fs) ∧ TyX X.K H y tb ∧ PySem.W.notFirst X.K C tb = true ∧ spE 2 tf [x, y] H Q E0) := by
  intro pins s σ H x y v u Q I rx ry h
  obtain ⟨a, dx, fs, tb, rfl, e, ty, nf, w⟩ := h
  obtain rfl : v = Value.ref a := rx
  obtain ⟨ox, od, ia⟩ := instAt_of I.hok e
  obtain ⟨m, fr⟩ := I.fr
  obtain ⟨P, KX, hP, _⟩ := kit_of I ry ty
  show wpAny (model X.prog X.w) X.A (richCompare .Eq (.ref a) u) _ _ _
  refine PySem.W.cmp_K (tb := tb) (by have := hr.un; omega) fr I.ok.mod.kin ia (KX.ty _ _ I.kIn hP) nf o.eq o.fn ?_
  exact thn (run_fn (dvs := []) (vs := [.ref a, y]) F hr hb .nil pass0 I (.cons (show RelV (.ref a) (.ref a) from rfl) (.cons ry .nil)) w) fun v s' h => back_of h
def dEqX (C : Addr) (tf : TDF) (ta tb : TDE) : TDE := fun S Q => ta S fun d => tb S fun e => (∃ ns vs, d = .ins C ns vs) ∧ okOther C e ∧ tf [d, e] Q
def dNeX (C : Addr) (tf : TDF) (ta tb : TDE) : TDE := fun S Q => ta S fun d => tb S fun e => (∃ ns vs, d = .ins C ns vs) ∧ okOther C e ∧ tf [d, e] fun r => ∃ b, r = .bl b ∧ Q (.bl (!b))
theorem dt_eqX (ha : PE X a (lE ta)) (hb : PE X b (lE tb)) (o : EqX X.K C f) (F : FnOk X.prog X.w X.K X.mg X.base CX0 k f fd ps (spE 2 tf)) (hr : Room k X.A) (hbn : ∃ dsv, Vals [] dsv ∧ Binds X.K fd ps dsv) : PT X (.Compare a [.Eq] [b] pos) (lT (dTestB (dEqX C tf ta tb))) := by
  obtain ⟨dsv, hv, hbn⟩ := hbn
  cases hv
  exact PT.imp (pt_cmpR (op_eqX o F hr hbn) ha hb (nomark _)) fun σ H Q ⟨g, Qd, s, w, kk⟩ =>
    ⟨g, _, s, w, fun d v H1 w1 x1 s1 r1 => ⟨g, _, s1, w1, fun e u H2 w2 x2 s2 r2 => by
      obtain ⟨⟨ns, vs, rfl⟩, w2, w3⟩ := w2
      have r1' := r1.ext x2
      obtain ⟨a, dx, fs, rfl, h, _⟩ := Pk.ins (.inl r1')
      obtain ⟨tb, t1, t2⟩ := other_ty o.isx w2 (.inl r2)
      exact ⟨a, dx, fs, tb, rfl, h, t1, t2, rfl, g.z, g.M, _, _, s2.amb, .cons r1' (.cons r2 .nil), w3, fun d v H' q x b rp => by
        obtain ⟨kq, rfl, q⟩ := q
        cases rp
        exact ⟨kq, rfl, kk kq H' q ((x1.trans x2).trans x) (s2.ext x b)⟩⟩⟩⟩
end
end L2.DL
namespace L2.DL
open PySem PySem.Spec PyProof.Rows
end L2.DL
namespace L2.DL
open PySem PySem.Spec PyProof.Rows
end L2.DL
namespace L2.DL
open PySem PySem.Spec PyProof.Rows
def strsQ : List D → Option (List (List Nat))
  | [] => some []
  | .str x :: r => (strsQ r).map (x :: ·)
  | _ => none
def rSS : D → (D → Prop) → Prop
  | .lst ds, Q => ds.length + 1 < 4096 ∧ ((∃ ns, intsD ds = some ns ∧ ∀ ms : List Int, ms.Pairwise (· < ·) → (∀ x, x ∈ ms ↔ x ∈ ns) → Q (.lst (ms.map .int))) ∨ ∃ ys, strsQ ds = some ys ∧ ∀ ws : List (List Nat), ws.Pairwise (· < ·) → (∀ x, x ∈ ws ↔ x ∈ ys) → Q (.lst (ws.map .str)))
  | _, _ => False
def dSS (ta : TDE) : TDE := fun S Q => ta S fun d => rSS d Q
end L2.DL
namespace L2.DL
open PySem PySem.Spec PyProof.Rows
section
variable {X : Cx} {C f : Addr} {fd : FuncData} {ps ks : List Str} {tf : TDF} {k n m : Nat} {a e : Expr} {es : List Expr} {ta te : TDE} {ts tk : TDA} {pos p p2 q : Pos} {x : Str} {kws : List Keyword} {perm : List Nat}
def rStrO (C : Addr) (tf : TDF) : RDC
  | [.ins C' ns vs], Q => C' = C ∧ tf [.ins C' ns vs] fun r => ∃ x, r = .str x ∧ Q r
  | _, _ => False
def rLenO (C : Addr) (tf : TDF) : RDC
  | [.ins C' ns vs], Q => C' = C ∧ tf [.ins C' ns vs] fun r => ∃ i : Int, r = .int i ∧ (0 ≤ i ∧ i < 2 ^ 63) ∧ Q r
  | _, _ => False
def dOwn1 (R : RDC) (te : TDE) : TDE := fun S Q => te S fun d => R [d] Q
def reprL (x : List Nat) : List Nat := (reprText (S2 x)).cps.toList
def rReprS : RDC
  | [.str x], Q => (reprL x).length ≤ sizeLine ∧ Q (.str (reprL x))
  | _, _ => False
def rListS : RDC
  | [.str x], Q => x.length ≤ sizeLine ∧ Q (.lst (x.map fun c => .str [c]))
  | _, _ => False
def dFmt (te : TDE) : TDE := fun S Q => te S fun d => match d with
  | .str y => y.length ≤ sizeLine ∧ Q (.str y)
  | .int i => i.natAbs.log2 < 1920 ∧ Q (.str (decOf i))
  | _ => False
def dFmtR (te : TDE) : TDE := fun S Q => te S fun d => match d with
  | .str y => (reprL y).length ≤ sizeLine ∧ Q (.str (reprL y))
  | .int i => i.natAbs.log2 < 1920 ∧ Q (.str (decOf i))
  | _ => False
def dJs : List TDE → List Nat → SS → (List Nat → Prop) → Prop
  | [], acc, _, Q => Q acc
  | t :: ts, acc, S, Q => t S fun d => ∃ y, d = .str y ∧ acc.length + y.length ≤ sizeLine ∧ dJs ts (acc ++ y) S Q
def dJoined (ts : List TDE) : TDE := fun S Q => dJs ts [] S fun out => Q (.str out)
theorem permL_shift {α : Type} (x : α) (l : List α) : ∀ perm : List Nat, permL (perm.map (· + 1)) (x :: l) = permL perm l
  | [] => rfl
  | i :: p => by rw [List.map_cons, permL_cons, permL_cons, permL_shift x l p, List.getElem?_cons_succ]
theorem df_makeK (M : Mk X.K C f) (F : FnOk X.prog X.w X.K X.mg X.base CX0 k f fd ps (spI C n tf)) (hr : Room (k + 1) X.A) (hm : X.mg x = some (.ref C)) (hb : KBp X.K fd ps (m + 1) ks (0 :: perm.map (· + 1))) (ha : PA X (e :: es) (lA ts)) (hkw : PK X kws (lA tk)) (hn : ∀ ds Q, tf ds Q → ds.length = n) (hg : Gl X x := by rfl)
    (hall : (backToKw pos (keywordEach kws X.env)).all (·.1.isSome) = true := by rfl) (hks : (backToKw pos (keywordEach kws X.env)).filterMap (·.1) = ks := by rfl) (hdb : (x == ("__debug__" : Str)) = false := by decide) (he : starEach (e :: es) X.env = (false, eval e X.env) :: starEach es X.env := by rfl) (hpl : ((backTo pos (starEach (e :: es) X.env)).any (·.1) || (backToKw pos (keywordEach kws X.env)).any (·.1.isNone)) = false := by rfl) :
    PE X (.Call (.Name x p) (e :: es) kws pos) (lF (dFnK m ks.length perm tf ts tk)) := PE.imp (pe_makeK M F hr hg hm hb pass0 ha hkw hall hks hdb he hpl) fun σ H Q ⟨g, Qd, s, w, kk⟩ =>
  ⟨g, _, s, w, fun ds vs H1 w1 x1 s1 r1 => ⟨g, _, s1, w1, fun es zs H2 w2 x2 s2 rz => by
    obtain ⟨l1, l2, w2⟩ := w2
    have r1' := r1.ext x2
    have r2 := permL_rpl (r1'.append rz) perm
    refine ⟨by rw [r1'.length]; exact l1, by rw [rz.length]; exact l2, fun y dx hy hdx ne => ?_⟩
    have e1 : permL (0 :: perm.map (· + 1)) ((V.ref y :: vs) ++ zs) = V.ref y :: permL perm (vs ++ zs) := by
      rw [permL_cons, List.cons_append, permL_shift]; rfl
    refine ⟨H2, y, dx, permL perm (vs ++ zs), _, g.z, g.M, Qd, e1, by rw [r2.length]; exact hn _ _ w2, rfl, hy, hdx, ne, s2.amb, r2, w2, fun ns us H' q x b o => ⟨rfl, kk (.ins C ns us) y H' q ((x1.trans x2).trans x) (s2.ext x b) ((x1.trans x2).none_of hy fun h => s2.fresh hy (res_M h.res)) (s2.fresh hy) o⟩⟩⟩⟩
end
end L2.DL
namespace L2.DL
open PySem PySem.Spec PyProof.Rows
section
variable {X : Cx} {pins : List (Addr × Obj)} {σ : St} {H H' : Hp} {s : Shared} {a : Addr} {y v : V} {u r : Value} {A : Around} {E : Value → Shared → Prop}
theorem tup_room (hu : A.units + 1 < cLine) {P : Program} {w : World} : (tupleKind (mixKind P w)).room A := by
  have := tupleKind_room_in1 (A := A) (prog := P) (w := w) (knd := mixKind P w) hu
  show A.units < cLine
  omega
theorem dput_do {Q : Unit → Shared → Prop} (hu : A.units + 1 < cLine) (I : Inv X pins σ H s) (g : DPut H a y v H') (ry : RelV y u) (rv : RelV v r) (h : ∀ t, Inv X pins σ H' t → Q () t) :
    wpAny (model X.prog X.w) A (dictSet a u r) Q E s := by
  rcases g with ⟨kvs, k, e, ey, l, eH⟩ | ⟨kvs, k, b, e, ey, eb, l, eH⟩ <;> subst ey <;> subst eH
  · obtain ⟨z, hd, vs, rel, dd⟩ := dk_of I.hok e
    have l1 := length_putK kvs k v
    have l2 := rel.length
    refine wpAny_dictSet_pairs (hsz := by omega) (kV_is ry) dd fun h2 d2 hs => h _ ?_
    obtain ⟨q, hq⟩ : ∃ q, h2.get? a = some q := let ⟨q, _, _, hq, _⟩ := d2; ⟨q, hq⟩
    exact d_write I (by rw [e]; trivial) hs ⟨q, hq⟩ (dk_new (by omega) hd (rel.put k rv) d2)
  · obtain rfl : u = Value.ref b := ry
    obtain ⟨z, hd, xs, rel, dd⟩ := dt_of I.hok e
    have l1 := length_putK kvs k v
    have l2 := Paired.length rel
    refine wpAny_dictSet_heap (hsz := by omega) (tup_room hu) (key_of I.hok eb) dd fun h2 d2 hs => h _ ?_
    obtain ⟨q, es, ep, hq, h2', h3, h4, _, h5⟩ := d2
    refine d_write I (by rw [e]; trivial) hs ⟨q, hq⟩ ⟨by omega, hd, _, (rel.put k eb rv).keeps fun c ys ec => ?_, q, es, ep, hq, h2', h3, h4, h5⟩
    rw [upd_ne (ne_of ec e fun z => nomatch z)]
    exact ec
end
/-- an empty dict, its keys of either kind -/
def Emp (o : HO) : Prop := o = .dK [] ∨ o = .dT []
theorem emp_ok {P : Program} {w : World} {H : Hp} {o : HO} (h : Emp o) (hp : Heap) (hb : sysModules < hp.objs.size) : ObjOk P w H (hp.push { cls := .type "dict", data := .dict #[] }) hp.objs.size o := by
  rcases h with rfl | rfl
  · exact dk_empty hp hb
  · exact dt_empty hp hb
abbrev Hrd (P : Program) (w : World) (A : Around) (env : Env) (R : Result → Shared → Prop) : Value → Shared → Prop := notedBy (model P w) A env fun e s => R (.error e) s
section
variable {P : Program} {w : World} {A : Around} {R : Result → Shared → Prop} {s : Shared} {kx vx t0 i0 t1 i1 : Expr} {f0 f1 : List Expr} {scope : Scope} {pos : Pos} {it : Value} {D : Addr} {env : Env}
abbrev DC2 (kx vx t0 i0 t1 i1 : Expr) (f0 f1 : List Expr) (scope : Scope) (pos : Pos) : Expr := .DictComp kx vx [⟨t0, i0, f0, 0⟩, ⟨t1, i1, f1, 0⟩] scope pos
abbrev tsts (env : Env) (fs : List Expr) : Sem Bool := forIn fs true fun c r => if r = true then do let ok ← isTrue c env (eval c env); pure (ForInStep.yield ok) else pure (ForInStep.yield r)
theorem dturn_out : compTurn (DC2 kx vx t0 i0 t1 i1 f0 f1 scope pos) 0 it (.ref D) env = (do
    standAt i0.pos
    match ← pyNext it with
    | none => pure (.done .next)
    | some v =>
      letOwnedTupleGo t0 it v
      assign t0 env v
      let mut ok := true
      for c in f0 do
        if ok then ok ← isTrue c env (eval c env)
      if ok then
        let x ← eval i1 env
        standAt i1.pos
        let x ← foldedSetIterable i1 env x
        let _ ← runOwn (.compStart (DC2 kx vx t0 i0 t1 i1 f0 f1 scope pos) 1 (← holding [x] (pyIter x)) (.ref D) env) env
      again (.compLoop (DC2 kx vx t0 i0 t1 i1 f0 f1 scope pos) 0 it (.ref D) env)) := by rfl
theorem dturn_in : compTurn (DC2 kx vx t0 i0 t1 i1 f0 f1 scope pos) 1 it (.ref D) env = (do
    standAt i1.pos
    match ← pyNext it with
    | none => pure (.done .next)
    | some v =>
      letOwnedTupleGo t1 it v
      assign t1 env v
      let mut ok := true
      for c in f1 do
        if ok then ok ← isTrue c env (eval c env)
      if ok then
        (do
          let kv ← eval kx env
          let vv ← holding [kv] (eval vx env)
          standAt { kx.pos with endLine := vx.pos.endLine, endCol := vx.pos.endCol }
          holding [kv, vv] (dictSet D kv vv))
      again (.compLoop (DC2 kx vx t0 i0 t1 i1 f0 f1 scope pos) 1 it (.ref D) env)) := by rfl
theorem dloop_out (hs : ∀ x, foldedSetIterable i1 env x = pure x) (J : Nat → Shared → Prop)
    (turn : ∀ n s, J n s → wpAny (model P w) A (pyNext it) (fun r s1 => match r with
      | none => R (.ok .next) s1
      | some v => wpAny (model P w) A (letOwnedTupleGo t0 it v) (fun _ s2 => wpAny (model P w) A (assign t0 env v) (fun _ s3 => wpAny (model P w) A (tsts env f0) (fun ok s4 =>
          if ok = true then wpAny (model P w) A (eval i1 env) (fun x s5 => wpAny (model P w) A (pyIter x) (fun it1 s6 =>
            codeAny (model P w) A (.compStart (DC2 kx vx t0 i0 t1 i1 f0 f1 scope pos) 1 it1 (.ref D) env) (fun r t => match r with
              | .ok _ => ∃ m, m < n ∧ J m t
              | .error _ => False) s6) (Hrd P w A env R) s5) (Hrd P w A env R) s4
          else ∃ m, m < n ∧ J m s4) (Hrd P w A env R) s3) (Hrd P w A env R) s2) (Hrd P w A env R) s1) (Hrd P w A env R) s)
    (n : Nat) (h : J n s) : codeAny (model P w) A (.compLoop (DC2 kx vx t0 i0 t1 i1 f0 f1 scope pos) 0 it (.ref D) env) R s := by
  apply codeAny_loop rfl J _ n h
  intro n s hJ
  change wpAny _ A ((compTurn (DC2 kx vx t0 i0 t1 i1 f0 f1 scope pos) 0 it (.ref D) env).onRaise (fun x => do noteFrame x env; theTreesLotGoes x)) _ _ s
  apply wpAny_noted
  rw [dturn_out]
  apply wpAny_bind
  apply wpAny_standAt
  apply wpAny_bind
  apply wpAny_mono (turn n s hJ) _ fun _ _ h => h
  intro r s1 h1
  cases r with
  | none => exact wpAny_pure h1
  | some v =>
    apply wpAny_bind
    apply wpAny_mono h1 _ fun _ _ h => h
    intro _ s2 h2
    apply wpAny_bind
    apply wpAny_mono h2 _ fun _ _ h => h
    intro _ s3 h3
    apply wpAny_bind
    apply wpAny_mono h3 _ fun _ _ h => h
    intro ok s4 h4
    cases ok with
    | false => exact wpAny_pure ⟨rfl, h4⟩
    | true =>
      apply wpAny_bind
      apply wpAny_mono h4 _ fun _ _ h => h
      intro x s5 h5
      apply wpAny_bind
      apply wpAny_standAt
      apply wpAny_bind
      apply wpAny_of_eq (hs x)
      apply wpAny_bind
      apply wpAny_holding
      apply wpAny_mono h5 _ fun _ _ h => h
      intro it1 s6 h6
      apply wpAny_bind
      refine wpAny_runOwn ?_
      rw [Around.mark_none]
      apply codeAny_mono h6
      intro r t hr
      cases r with
      | ok f => first | exact wpAny_pure ⟨rfl, hr⟩ | exact wpAny_bind (wpAny_pure (wpAny_pure ⟨rfl, hr⟩))
      | error e => exact hr.elim
theorem dloop_in (J : Nat → Shared → Prop)
    (turn : ∀ n s, J n s → wpAny (model P w) A (pyNext it) (fun r s1 => match r with
      | none => R (.ok .next) s1
      | some v => wpAny (model P w) A (letOwnedTupleGo t1 it v) (fun _ s2 => wpAny (model P w) A (assign t1 env v) (fun _ s3 => wpAny (model P w) A (tsts env f1) (fun ok s4 =>
          if ok = true then wpAny (model P w) A (eval kx env) (fun kv s5 => wpAny (model P w) A (eval vx env) (fun vv s6 => wpAny (model P w) A (dictSet D kv vv) (fun _ s7 => ∃ m, m < n ∧ J m s7) (Hrd P w A env R) s6) (Hrd P w A env R) s5) (Hrd P w A env R) s4
          else ∃ m, m < n ∧ J m s4) (Hrd P w A env R) s3) (Hrd P w A env R) s2) (Hrd P w A env R) s1) (Hrd P w A env R) s)
    (n : Nat) (h : J n s) : codeAny (model P w) A (.compLoop (DC2 kx vx t0 i0 t1 i1 f0 f1 scope pos) 1 it (.ref D) env) R s := by
  apply codeAny_loop rfl J _ n h
  intro n s hJ
  change wpAny _ A ((compTurn (DC2 kx vx t0 i0 t1 i1 f0 f1 scope pos) 1 it (.ref D) env).onRaise (fun x => do noteFrame x env; theTreesLotGoes x)) _ _ s
  apply wpAny_noted
  rw [dturn_in]
  apply wpAny_bind
  apply wpAny_standAt
  apply wpAny_bind
  apply wpAny_mono (turn n s hJ) _ fun _ _ h => h
  intro r s1 h1
  cases r with
  | none => exact wpAny_pure h1
  | some v =>
    apply wpAny_bind
    apply wpAny_mono h1 _ fun _ _ h => h
    intro _ s2 h2
    apply wpAny_bind
    apply wpAny_mono h2 _ fun _ _ h => h
    intro _ s3 h3
    apply wpAny_bind
    apply wpAny_mono h3 _ fun _ _ h => h
    intro ok s4 h4
    cases ok with
    | false => exact wpAny_pure ⟨rfl, h4⟩
    | true =>
      apply wpAny_bind
      apply wpAny_bind
      apply wpAny_mono h4 _ fun _ _ h => h
      intro kv s5 h5
      apply wpAny_bind
      apply wpAny_holding
      apply wpAny_mono h5 _ fun _ _ h => h
      intro vv s6 h6
      apply wpAny_bind
      apply wpAny_standAt
      apply wpAny_holding
      apply wpAny_mono h6 _ fun _ _ h => h
      intro _ s7 h7
      exact wpAny_pure ⟨rfl, h7⟩
theorem dstart_in (h0 : codeAny (model P w) A (.compLoop (DC2 kx vx t0 i0 t1 i1 f0 f1 scope pos) 1 it (.ref D) env) R s)
    (h : wpAny (model P w) A (pyIter it) (fun j t => codeAny (model P w) A (.compLoop (DC2 kx vx t0 i0 t1 i1 f0 f1 scope pos) 1 j (.ref D) env) R t) (Hrd P w A env R) s) :
    codeAny (model P w) A (.compStart (DC2 kx vx t0 i0 t1 i1 f0 f1 scope pos) 1 it (.ref D) env) R s := by
  apply codeAny_of_tree
  change wpAny _ _ ((compStart (DC2 kx vx t0 i0 t1 i1 f0 f1 scope pos) 1 it (.ref D) env).onRaise (fun x => do noteFrame x env; standAt theWindowsPlace)) _ _ s
  apply wpAny_notedAt
  unfold compStart
  change wpAny _ _ (ask >>= _) _ _ s
  apply wpAny_bind
  apply wpAny_askSetting
  apply wpAny_ite
  split
  · first | exact wpAny_bind (wpAny_pure (wpAny_pure ⟨rfl, h0⟩)) | exact wpAny_pure ⟨rfl, h0⟩
  · apply wpAny_bind
    apply wpAny_rule
    change wpAny _ _ (standAt i1.pos >>= _) _ _ s
    apply wpAny_bind
    apply wpAny_standAt
    apply wpAny_bind
    apply wpAny_mono h _ fun _ _ x => x
    exact fun j t hj => wpAny_pure ⟨rfl, hj⟩
end
end L2.DL
namespace L2.DL
open PySem PySem.Spec PyProof.Rows
section
variable {X : Cx}
/-- behind a turn's tests: the key, the value, the store -/
def dcB (D : Addr) (tt : TT) (tk tv : TE) : St → Hp → (Hp → Prop) → Prop := fun σ2 H2 Nx => tt σ2 H2 fun b H3 => if b = true then tk σ2 H3 fun y H4 => tv σ2 H4 fun z H5 => ∃ H6, DPut H5 D y z H6 ∧ Nx H6 else Nx H3
def wLoop (J : It) (g : TG) (vs : List Nat) (σ : St) (H1 : Hp) (N : Hp → Prop) (B : St → Hp → (Hp → Prop) → Prop) : Prop := ∃ W : Nat → Nat → Hp → Prop, (∃ m, W 0 m H1) ∧ ∀ i m H, W i m H →
  (J.stop i H ∧ N H) ∨ (J.go i H ∧ ∃ Nx : Hp → Prop, (∀ H', Nx H' → ∃ m', m' < m ∧ W (i + 1) m' H') ∧ ∀ x H', J.yld i H x H' → g x (wipe σ vs) H' fun σ2 H2 => wipe σ2 vs = wipe σ vs ∧ B σ2 H2 Nx)
def tDc1 (o : HO) (wi : TI) (g : TG) (tt : TT) (tk tv : TE) (vs : List Nat) : TE := fun σ H Q => wi σ H fun J H1 => ∀ D, H1 D = none → wLoop J g vs σ (upd H1 D o) (fun H => Q (.ref D) H) (dcB D tt tk tv)
def tDc2 (o : HO) (wi : TI) (g : TG) (tt : TT) (wi1 : TI) (g1 : TG) (tt1 : TT) (tk tv : TE) (vs vs1 : List Nat) : TE := fun σ H Q => wi σ H fun J H1 => ∀ D, H1 D = none →
  wLoop J g vs σ (upd H1 D o) (fun H => Q (.ref D) H) fun σ2 H2 Nx => tt σ2 H2 fun b H3 => if b = true then wi1 σ2 H3 fun J1 H4 => wLoop J1 g1 vs1 σ2 H4 Nx (dcB D tt1 tk tv) else Nx H3
variable {pins : List (Addr × Obj)} {s : Shared} {σ : St} {H : Hp} {Q : VK} {kx vx tg iter tg1 iter1 : Expr} {ifs ifs1 : List Expr} {scope : Scope} {own : List (Str × Nat)} {vs1 : List Nat} {pos pos' : Pos} {wi wi1 : TI} {g g1 : TG} {tt tt1 : TT} {tk tv : TE} {use : Option (Value → Sem Unit)} {Qf : Value → Shared → Prop} {o : HO}
/-- a loop's own objects, in the block -/
theorem blk_fp {s3 : Shared} {H3 : Hp} {ce : Env} {fp : List Addr} {σ' : St} {H' : Hp} {t : Shared} (J : Inv (X.blk s3 H3 scope ce fp) [] σ' H' t) (hn : ∀ b ∈ fp, H' b = none) : ∀ b ∈ fp, FpOk (X.blk s3 H3 scope ce fp) [] H' b := fun b hb =>
  ⟨hn b hb, (J.ok.exf b hb).1, J.ok.exfs b hb, .inl hb, (J.ok.exf b hb).2, fun p hp => by have hp' : p ∈ ([] : List (Addr × Obj)) ++ [] := hp; simp at hp'⟩
/-- the turn's end: what was pinned is let go -/
theorem blk_end {Y : Cx} {ps : List (Addr × Obj)} {fp : List Addr} {tn : Nat → Heap → Prop} {J : It} {it : Addr} {tgx : Expr} {i : Nat} {s7 t : Shared} {σ0 σ9 : St} {H' : Hp} (T : Turn Y.prog Y.w Y.K tgx J fp it tn) (st7 : tn (i + 1) s7.heap) (I' : Inv Y (ps ++ pinsAt fp s7.heap) σ9 H' t) (hl : σ0.length = σ9.length) (hk : ∀ (j : Nat) v, σ0[j]? = some (some v) → σ9[j]? = some (some v)) :
    Inv Y ps σ0 H' t ∧ tn (i + 1) t.heap ∧ ∀ b ∈ fp, H' b = none := by
  have pin : ∀ b ∈ fp, ∀ u, s7.heap.get? b = some u → t.heap.get? b = some u ∧ H' b = none := fun b hb u e => by
    have z := I'.pin (b, u) (List.mem_append_right _ (List.mem_append_right _ (mem_pinsAt hb e)))
    exact ⟨z.1, z.2.1⟩
  refine ⟨I'.unpinned.weak hl hk, T.keep _ _ _ st7 fun b hb u e => (pin b hb u e).1, fun b hb => ?_⟩
  obtain ⟨u, e, _⟩ := T.obj _ _ st7 b hb
  exact (pin b hb u e).2
theorem dcB_do {Y : Cx} {ps : List (Addr × Obj)} {t : Shared} {σ2 : St} {H2 : Hp} {D : Addr} {Nx : Hp → Prop} {Z : Shared → Prop} (hu : Y.A.units + 1 < cLine) (pt : PTs Y ifs tt) (pk : PE Y kx tk) (pv : PE Y vx tv) (I : Inv Y ps σ2 H2 t) (h : dcB D tt tk tv σ2 H2 Nx) (hE : Y.xe = fun _ _ => False) (fin : ∀ {t' H'}, Inv Y ps σ2 H' t' → Nx H' → Z t') {E : Value → Shared → Prop} :
    wpAny (model Y.prog Y.w) Y.A (tsts Y.env ifs) (fun ok s4 => if ok = true then wpAny (model Y.prog Y.w) Y.A (eval kx Y.env) (fun kv s5 => wpAny (model Y.prog Y.w) Y.A (eval vx Y.env) (fun vv s6 => wpAny (model Y.prog Y.w) Y.A (dictSet D kv vv) (fun _ s7 => Z s7) E s6) E s5) E s4 else Z s4) E t := by
  have run := pt.run ps t σ2 H2 _ I h
  have k1 := pk.run
  have k2 := pv.run
  rw [hE] at run k1 k2
  refine thnF run fun b s4 ⟨H4, I4, q4⟩ => ?_
  cases b with
  | false =>
    simp only [Bool.false_eq_true, if_false] at q4 ⊢
    exact fin I4 q4
  | true =>
    simp only [if_true] at q4 ⊢
    refine thnF (k1 _ s4 σ2 H4 _ I4 q4) fun kv s5 ⟨y, H5, I5, r5, q5⟩ => ?_
    refine thnF (k2 _ s5 σ2 H5 _ I5 q5) fun vv s6 ⟨z, H6, I6, r6, H7, dp, nx⟩ => ?_
    exact dput_do hu I6 dp r5 r6 fun t' I7 => fin I7 nx
theorem dc_core1 (hu : X.A.units + 1 < cLine) (hc : X.calm = true) (hN : X.N.Nodup) (eo : Emp o) (I : Inv X pins σ H s) (hi : PI X tg iter wi) (ok : BlkOk X.N X.env.scope scope own)
    (hg : BlkA X scope fun Y => PG Y tg g) (ht : BlkA X scope fun Y => PTs Y ifs tt) (hk : BlkA X scope fun Y => PE Y kx tk) (he : BlkA X scope fun Y => PE Y vx tv) (hs : ∀ x, foldedSetIterable iter X.env x = pure x)
    (h : tDc1 o wi g tt tk tv (own.map (·.2)) σ H Q)
    (back : ∀ D C t m H', Inv X pins σ H' t → Q (.ref D) H' → t.heap.Ns C m → FpOk X pins H' C → compPost (model X.prog X.w) X.A X.xe use Qf (.ref D) C (.ok .next) t) :
    wpAny (model X.prog X.w) X.A (comprehension (.DictComp kx vx [⟨tg, iter, ifs, 0⟩] scope pos) scope X.env pos' newDict false (eval iter X.env) use) Qf X.xe s := by
  refine wpAny_comprehension_free (use := use) rfl hs (closure_ok fun y hy e => (ok.free y hy e).elim (fun k => I.ok.has _ (.inl k)) fun k => I.ok.has _ (.inr k)) ok.kind (fun y hy e => by rw [ok.uniq y hy, e]) (thn (hi.run pins s σ H _ I h) fun xv s1 hx => thn hx fun itv s2 h2 => ?_)
  obtain ⟨it, fp, tn, J, H2, e, I2, T, st2, f2, q⟩ := h2
  subst e
  refine wpAny_newObj_type (newEnv_comp ?_)
  have hDn : H2 s2.heap.objs.size = none := I2.hok.fresh (Nat.le_refl _)
  obtain ⟨W, ⟨m0, w0⟩, turn⟩ := q s2.heap.objs.size hDn
  have I3 : Inv X pins σ (upd H2 s2.heap.objs.size o) { s2 with heap := s2.heap.push { cls := .type "dict", data := .dict #[] } } := I2.laid (t' := s2.toks) (fun b u e => Heap.get?_push_of_some _ e) (Nat.le_refl _) (emp_ok eo s2.heap I2.big)
  have f3 : ∀ b ∈ fp, FpOk X pins (upd H2 s2.heap.objs.size o) b ∧ b < (s2.heap.push { cls := .type "dict", data := .dict #[] }).objs.size := fun b hb => by
    obtain ⟨u, e, _⟩ := T.obj _ _ st2 b hb
    have hlt := Heap.lt_size e
    exact ⟨⟨by rw [upd_ne (Nat.ne_of_lt hlt)]; exact (f2 b hb).1, (f2 b hb).2⟩, by rw [Heap.size_push]; exact Nat.lt_succ_of_lt hlt⟩
  have st3 : tn 0 (s2.heap.push { cls := .type "dict", data := .dict #[] }) := T.keep _ _ _ st2 fun b _ u e => Heap.get?_push_of_some _ e
  generalize hD : s2.heap.objs.size = D at I3 f3 w0 turn ⊢
  generalize hs3 : ({ s2 with heap := s2.heap.push { cls := .type "dict", data := .dict #[] } } : Shared) = s3 at I3
  have h3 : s2.heap.push { cls := .type "dict", data := .dict #[] } = s3.heap := by rw [← hs3]
  rw [h3] at f3 st3
  have I4 := block_start I3 ok hN f3
  have E3 : ∀ b ∈ fp, (upd H2 D o) b = none := fun b hb => (f3 b hb).1.1
  have pg := hg s3 (upd H2 D o) s3.heap.objs.size (cellsFrom (s3.heap.objs.size + 1) scope.names (cloFrom X.env.cells scope.names [])) fp
  have pt := ht s3 (upd H2 D o) s3.heap.objs.size (cellsFrom (s3.heap.objs.size + 1) scope.names (cloFrom X.env.cells scope.names [])) fp
  have pk := hk s3 (upd H2 D o) s3.heap.objs.size (cellsFrom (s3.heap.objs.size + 1) scope.names (cloFrom X.env.cells scope.names [])) fp
  have pv := he s3 (upd H2 D o) s3.heap.objs.size (cellsFrom (s3.heap.objs.size + 1) scope.names (cloFrom X.env.cells scope.names [])) fp
  change codeAny _ _ (.compStart (.DictComp kx vx [⟨tg, iter, ifs, 0⟩] scope pos) 0 (.ref it) (.ref D) (compEnvC scope (cellsFrom (s3.heap.objs.size + 1) scope.names (cloFrom X.env.cells scope.names [])) s3.heap.objs.size X.env)) (compPost (model X.prog X.w) X.A X.xe use Qf (.ref D) s3.heap.objs.size) { s3 with heap := pushCells (s3.heap.push { cls := .type "dict", data := .dict #[] }) scope.names }
  generalize hce : compEnvC scope (cellsFrom (s3.heap.objs.size + 1) scope.names (cloFrom X.env.cells scope.names [])) s3.heap.objs.size X.env = ce at I4 pg pt pk pv ⊢
  have cL : ce.locals = s3.heap.objs.size := by subst hce; rfl
  generalize hH3 : upd H2 D o = H3 at I3 I4 pg pt pk pv w0 E3 f3
  generalize hs4 : ({ s3 with heap := pushCells (s3.heap.push { cls := .type "dict", data := .dict #[] }) scope.names } : Shared) = s4 at I4 ⊢
  have st4 : tn 0 s4.heap := T.keep _ _ _ st3 fun b _ u e => by rw [← hs4]; exact pushCells_keeps _ _ _ _ (Heap.get?_push_of_some _ e)
  have loop : codeAny (model X.prog X.w) X.A (.compLoop (.DictComp kx vx [⟨tg, iter, ifs, 0⟩] scope pos) 0 (.ref it) (.ref D) ce) (compPost (model X.prog X.w) X.A X.xe use Qf (.ref D) s3.heap.objs.size) s4 := by
    refine compLoop_anyD (fun n t => ∃ i H', Inv (X.blk s3 H3 scope ce fp) [] (wipe σ (own.map (·.2))) H' t ∧ tn i t.heap ∧ (∀ b ∈ fp, H' b = none) ∧ W i n H') ?_ m0 ⟨0, H3, I4, st4, E3, w0⟩
    rintro n s5 ⟨i, H5, I5, st5, n5, w5⟩
    rcases turn i n H5 w5 with ⟨stop, qq⟩ | ⟨go, Nx, hNx, step⟩
    · refine thnF (T.done (X.blk s3 H3 scope ce fp) rfl rfl rfl hc i [] s5 _ H5 (fun _ _ => False) I5 (blk_fp I5 n5) st5 stop) fun r s6 ⟨hr, I6⟩ => ?_
      subst hr
      have I7 : Inv X pins σ H5 s6 := I3.call' (ch := fp) I6.os I6.base I6.hok I6.bare fun b hb => ⟨(f3 b hb).1.2.2.2.1, (f3 b hb).1.2.1, (f3 b hb).1.2.2.2.2.1, (f3 b hb).1.2.2.2.2.2⟩
      have nC : H5 ce.locals = none := I6.free
      obtain ⟨m, hn, _⟩ := I6.loc
      have hn : s6.heap.Ns ce.locals m := hn
      rw [cL] at hn nC
      exact back D s3.heap.objs.size s6 m H5 I7 qq hn (I3.fpOk (Nat.le_refl _) nC)
    · refine thnF (T.item (X.blk s3 H3 scope ce fp) rfl rfl rfl hc i [] s5 _ H5 (fun _ _ => False) I5 (blk_fp I5 n5) st5 go) fun r s6 ⟨u, hr, h6⟩ => ?_
      subst hr
      refine thnF h6 fun _ s7 ⟨x, H7, I7, r7, y7, st7, n7⟩ => ?_
      refine thnF (pg.run _ s7 _ H7 x u _ (I7.pinned (blk_fp I7 n7) (T.obj _ _ st7)) r7 (step x H7 y7)) fun _ s8 ⟨σ8, H8, I8, hw8, q8⟩ => ?_
      refine dcB_do (Y := X.blk s3 H3 scope ce fp) hu pt pk pv I8 q8 rfl fun {t H'} I9 nx => ?_
      obtain ⟨m', hm, w'⟩ := hNx H' nx
      obtain ⟨a1, a2, a3⟩ := blk_end (Y := X.blk s3 H3 scope ce fp) (ps := []) (σ0 := wipe σ (own.map (·.2))) (σ9 := σ8) T st7 I9 (by rw [← hw8, wipe_length]) fun j v e => by rw [← hw8] at e; exact (wipe_some e).1
      exact ⟨m', hm, i + 1, H', a1, a2, a3, w'⟩
  exact codeAny_compStart_dict loop (T.self X.A 0 _ _ _ st4 loop)
theorem dc_core2 (hu : X.A.units + 1 < cLine) (hc : X.calm = true) (hN : X.N.Nodup) (eo : Emp o) (I : Inv X pins σ H s) (hi : PI X tg iter wi) (ok : BlkOk X.N X.env.scope scope own)
    (hv : ∀ i ∈ vs1, i ∈ own.map (·.2)) (hg : BlkA X scope fun Y => PG Y tg g) (ht : BlkA X scope fun Y => PTs Y ifs tt) (hi1 : BlkA X scope fun Y => PI Y tg1 iter1 wi1) (hg1 : BlkA X scope fun Y => PG Y tg1 g1) (ht1 : BlkA X scope fun Y => PTs Y ifs1 tt1) (hk : BlkA X scope fun Y => PE Y kx tk) (he : BlkA X scope fun Y => PE Y vx tv) (hs : ∀ x, foldedSetIterable iter X.env x = pure x) (hs1 : ∀ env x, foldedSetIterable iter1 env x = pure x)
    (h : tDc2 o wi g tt wi1 g1 tt1 tk tv (own.map (·.2)) vs1 σ H Q)
    (back : ∀ D C t m H', Inv X pins σ H' t → Q (.ref D) H' → t.heap.Ns C m → FpOk X pins H' C → compPost (model X.prog X.w) X.A X.xe use Qf (.ref D) C (.ok .next) t) :
    wpAny (model X.prog X.w) X.A (comprehension (DC2 kx vx tg iter tg1 iter1 ifs ifs1 scope pos) scope X.env pos' newDict false (eval iter X.env) use) Qf X.xe s := by
  refine wpAny_comprehension_free (use := use) rfl hs (closure_ok fun y hy e => (ok.free y hy e).elim (fun k => I.ok.has _ (.inl k)) fun k => I.ok.has _ (.inr k)) ok.kind (fun y hy e => by rw [ok.uniq y hy, e]) (thn (hi.run pins s σ H _ I h) fun xv s1 hx => thn hx fun itv s2 h2 => ?_)
  obtain ⟨it, fp, tn, J, H2, e, I2, T, st2, f2, q⟩ := h2
  subst e
  refine wpAny_newObj_type (newEnv_comp ?_)
  have hDn : H2 s2.heap.objs.size = none := I2.hok.fresh (Nat.le_refl _)
  obtain ⟨W, ⟨m0, w0⟩, turn⟩ := q s2.heap.objs.size hDn
  have I3 : Inv X pins σ (upd H2 s2.heap.objs.size o) { s2 with heap := s2.heap.push { cls := .type "dict", data := .dict #[] } } := I2.laid (t' := s2.toks) (fun b u e => Heap.get?_push_of_some _ e) (Nat.le_refl _) (emp_ok eo s2.heap I2.big)
  have f3 : ∀ b ∈ fp, FpOk X pins (upd H2 s2.heap.objs.size o) b ∧ b < (s2.heap.push { cls := .type "dict", data := .dict #[] }).objs.size := fun b hb => by
    obtain ⟨u, e, _⟩ := T.obj _ _ st2 b hb
    have hlt := Heap.lt_size e
    exact ⟨⟨by rw [upd_ne (Nat.ne_of_lt hlt)]; exact (f2 b hb).1, (f2 b hb).2⟩, by rw [Heap.size_push]; exact Nat.lt_succ_of_lt hlt⟩
  have st3 : tn 0 (s2.heap.push { cls := .type "dict", data := .dict #[] }) := T.keep _ _ _ st2 fun b _ u e => Heap.get?_push_of_some _ e
  generalize hD : s2.heap.objs.size = D at I3 f3 w0 turn ⊢
  generalize hs3 : ({ s2 with heap := s2.heap.push { cls := .type "dict", data := .dict #[] } } : Shared) = s3 at I3
  have h3 : s2.heap.push { cls := .type "dict", data := .dict #[] } = s3.heap := by rw [← hs3]
  rw [h3] at f3 st3
  have I4 := block_start I3 ok hN f3
  have E3 : ∀ b ∈ fp, (upd H2 D o) b = none := fun b hb => (f3 b hb).1.1
  have pg := hg s3 (upd H2 D o) s3.heap.objs.size (cellsFrom (s3.heap.objs.size + 1) scope.names (cloFrom X.env.cells scope.names [])) fp
  have pt := ht s3 (upd H2 D o) s3.heap.objs.size (cellsFrom (s3.heap.objs.size + 1) scope.names (cloFrom X.env.cells scope.names [])) fp
  have pi1 := hi1 s3 (upd H2 D o) s3.heap.objs.size (cellsFrom (s3.heap.objs.size + 1) scope.names (cloFrom X.env.cells scope.names [])) fp
  have pg1 := hg1 s3 (upd H2 D o) s3.heap.objs.size (cellsFrom (s3.heap.objs.size + 1) scope.names (cloFrom X.env.cells scope.names [])) fp
  have pt1 := ht1 s3 (upd H2 D o) s3.heap.objs.size (cellsFrom (s3.heap.objs.size + 1) scope.names (cloFrom X.env.cells scope.names [])) fp
  have pk := hk s3 (upd H2 D o) s3.heap.objs.size (cellsFrom (s3.heap.objs.size + 1) scope.names (cloFrom X.env.cells scope.names [])) fp
  have pv := he s3 (upd H2 D o) s3.heap.objs.size (cellsFrom (s3.heap.objs.size + 1) scope.names (cloFrom X.env.cells scope.names [])) fp
  change codeAny _ _ (.compStart (DC2 kx vx tg iter tg1 iter1 ifs ifs1 scope pos) 0 (.ref it) (.ref D) (compEnvC scope (cellsFrom (s3.heap.objs.size + 1) scope.names (cloFrom X.env.cells scope.names [])) s3.heap.objs.size X.env)) (compPost (model X.prog X.w) X.A X.xe use Qf (.ref D) s3.heap.objs.size) { s3 with heap := pushCells (s3.heap.push { cls := .type "dict", data := .dict #[] }) scope.names }
  generalize hce : compEnvC scope (cellsFrom (s3.heap.objs.size + 1) scope.names (cloFrom X.env.cells scope.names [])) s3.heap.objs.size X.env = ce at I4 pg pt pk pv pi1 pg1 pt1 ⊢
  have cL : ce.locals = s3.heap.objs.size := by subst hce; rfl
  generalize hH3 : upd H2 D o = H3 at I3 I4 pg pt pk pv pi1 pg1 pt1 w0 E3 f3
  generalize hs4 : ({ s3 with heap := pushCells (s3.heap.push { cls := .type "dict", data := .dict #[] }) scope.names } : Shared) = s4 at I4 ⊢
  have st4 : tn 0 s4.heap := T.keep _ _ _ st3 fun b _ u e => by rw [← hs4]; exact pushCells_keeps _ _ _ _ (Heap.get?_push_of_some _ e)
  have loop : codeAny (model X.prog X.w) X.A (.compLoop (DC2 kx vx tg iter tg1 iter1 ifs ifs1 scope pos) 0 (.ref it) (.ref D) ce) (compPost (model X.prog X.w) X.A X.xe use Qf (.ref D) s3.heap.objs.size) s4 := by
    refine dloop_out (hs1 ce) (fun n t => ∃ i H', Inv (X.blk s3 H3 scope ce fp) [] (wipe σ (own.map (·.2))) H' t ∧ tn i t.heap ∧ (∀ b ∈ fp, H' b = none) ∧ W i n H') ?_ m0 ⟨0, H3, I4, st4, E3, w0⟩
    rintro n s5 ⟨i, H5, I5, st5, n5, w5⟩
    rcases turn i n H5 w5 with ⟨stop, qq⟩ | ⟨go, Nx, hNx, step⟩
    · refine thnF (T.done (X.blk s3 H3 scope ce fp) rfl rfl rfl hc i [] s5 _ H5 (fun _ _ => False) I5 (blk_fp I5 n5) st5 stop) fun r s6 ⟨hr, I6⟩ => ?_
      subst hr
      have I7 : Inv X pins σ H5 s6 := I3.call' (ch := fp) I6.os I6.base I6.hok I6.bare fun b hb => ⟨(f3 b hb).1.2.2.2.1, (f3 b hb).1.2.1, (f3 b hb).1.2.2.2.2.1, (f3 b hb).1.2.2.2.2.2⟩
      have nC : H5 ce.locals = none := I6.free
      obtain ⟨m, hn, _⟩ := I6.loc
      have hn : s6.heap.Ns ce.locals m := hn
      rw [cL] at hn nC
      exact back D s3.heap.objs.size s6 m H5 I7 qq hn (I3.fpOk (Nat.le_refl _) nC)
    · refine thnF (T.item (X.blk s3 H3 scope ce fp) rfl rfl rfl hc i [] s5 _ H5 (fun _ _ => False) I5 (blk_fp I5 n5) st5 go) fun r s6 ⟨u, hr, h6⟩ => ?_
      subst hr
      refine thnF h6 fun _ s7 ⟨x, H7, I7, r7, y7, st7, n7⟩ => ?_
      refine thnF (pg.run _ s7 _ H7 x u _ (I7.pinned (blk_fp I7 n7) (T.obj _ _ st7)) r7 (step x H7 y7)) fun _ s8 ⟨σ8, H8, I8, hw8, q8⟩ => ?_
      have fin : ∀ {σ9 : St} {t : Shared} {H' : Hp}, Inv (X.blk s3 H3 scope ce fp) ([] ++ pinsAt fp s7.heap) σ9 H' t → (wipe σ (own.map (·.2))).length = σ9.length → (∀ (j : Nat) v, (wipe σ (own.map (·.2)))[j]? = some (some v) → σ9[j]? = some (some v)) → Nx H' →
          ∃ m, m < n ∧ ∃ i H', Inv (X.blk s3 H3 scope ce fp) [] (wipe σ (own.map (·.2))) H' t ∧ tn i t.heap ∧ (∀ b ∈ fp, H' b = none) ∧ W i m H' := fun {σ9 t H'} I9 hl hk9 nx => by
        obtain ⟨m', hm, w'⟩ := hNx H' nx
        obtain ⟨a1, a2, a3⟩ := blk_end (Y := X.blk s3 H3 scope ce fp) (ps := []) (σ0 := wipe σ (own.map (·.2))) (σ9 := σ9) T st7 I9 hl hk9
        exact ⟨m', hm, i + 1, H', a1, a2, a3, w'⟩
      have k8 : ∀ (j : Nat) v, (wipe σ (own.map (·.2)))[j]? = some (some v) → σ8[j]? = some (some v) ∧ j ∉ own.map (·.2) := fun j v e => by
        rw [← hw8] at e
        exact wipe_some e
      have l8 : (wipe σ (own.map (·.2))).length = σ8.length := by rw [← hw8, wipe_length]
      refine thnF (pt.run _ s8 σ8 H8 _ I8 q8) fun b s9 ⟨H9, I9, q9⟩ => ?_
      cases b with
      | false =>
        simp only [Bool.false_eq_true, if_false] at q9 ⊢
        exact fin I9 l8 (fun j v e => (k8 j v e).1) q9
      | true =>
        simp only [if_true] at q9 ⊢
        refine thnF (pi1.run _ s9 σ8 H9 _ I9 q9) fun xv1 s10 hx1 => thnF hx1 fun itv1 s11 h11 => ?_
        obtain ⟨it1, fp1, tn1, J1, H11, e1, I11, T1, st11, f11, W1, ⟨m1, w1⟩, turn1⟩ := h11
        subst e1
        have loop1 : codeAny (model X.prog X.w) X.A (.compLoop (DC2 kx vx tg iter tg1 iter1 ifs ifs1 scope pos) 1 (.ref it1) (.ref D) ce)
            (fun r t => match r with
              | .ok _ => ∃ m, m < n ∧ ∃ i H', Inv (X.blk s3 H3 scope ce fp) [] (wipe σ (own.map (·.2))) H' t ∧ tn i t.heap ∧ (∀ b ∈ fp, H' b = none) ∧ W i m H'
              | .error _ => False) s11 := by
          refine dloop_in (fun k t => ∃ j H', Inv (X.blk s3 H3 scope ce fp) ([] ++ pinsAt fp s7.heap) (wipe σ8 vs1) H' t ∧ tn1 j t.heap ∧ (∀ b ∈ fp1, H' b = none) ∧ W1 j k H') ?_ m1 ⟨0, H11, I11.weak (wipe_length _ _) (fun j v e => (wipe_some e).1), st11, fun b hb => (f11 b hb).1, w1⟩
          rintro k s12 ⟨j, H12, I12, st12, n12, w12⟩
          have fp12 : ∀ {H' : Hp}, (∀ b ∈ fp1, H' b = none) → ∀ b ∈ fp1, FpOk (X.blk s3 H3 scope ce fp) ([] ++ pinsAt fp s7.heap) H' b := fun hn b hb => ⟨hn b hb, (f11 b hb).2⟩
          rcases turn1 j k H12 w12 with ⟨stop1, nx1⟩ | ⟨go1, Nx1, hNx1, step1⟩
          · refine thnF (T1.done (X.blk s3 H3 scope ce fp) rfl rfl rfl hc j _ s12 (wipe σ8 vs1) H12 (fun _ _ => False) I12 (fp12 n12) st12 stop1) fun r s13 ⟨hr, I13⟩ => ?_
            subst hr
            refine fin I13 (l8.trans (wipe_length σ8 vs1).symm) (fun j v e => ?_) nx1
            obtain ⟨e1, e2⟩ := k8 j v e
            rw [wipe_out fun z => e2 (hv j z)]
            exact e1
          · refine thnF (T1.item (X.blk s3 H3 scope ce fp) rfl rfl rfl hc j _ s12 (wipe σ8 vs1) H12 (fun _ _ => False) I12 (fp12 n12) st12 go1) fun r s13 ⟨u1, hr, h13⟩ => ?_
            subst hr
            refine thnF h13 fun _ s14 ⟨x1, H14, I14, r14, y14, st14, n14⟩ => ?_
            refine thnF (pg1.run _ s14 (wipe σ8 vs1) H14 x1 u1 _ (I14.pinned (fp12 n14) (T1.obj _ _ st14)) r14 (step1 x1 H14 y14)) fun _ s15 ⟨σ15, H15, I15, hw15, q15⟩ => ?_
            refine dcB_do (Y := X.blk s3 H3 scope ce fp) hu pt1 pk pv I15 q15 rfl fun {t H'} I9 nx => ?_
            obtain ⟨m', hm, w'⟩ := hNx1 H' nx
            obtain ⟨a1, a2, a3⟩ := blk_end (Y := X.blk s3 H3 scope ce fp) (ps := [] ++ pinsAt fp s7.heap) (σ0 := wipe σ8 vs1) (σ9 := σ15) T1 st14 I9 (by rw [← hw15, wipe_length]) fun j v e => by rw [← hw15] at e; exact (wipe_some e).1
            exact ⟨m', hm, j + 1, H', a1, a2, a3, w'⟩
        exact dstart_in loop1 (T1.self X.A 0 _ _ _ st11 loop1)
  exact codeAny_compStart_dict loop (T.self X.A 0 _ _ _ st4 loop)
theorem pe_dc1 (hu : X.A.units + 1 < cLine) (eo : Emp o) (hN : X.N.Nodup) (hi : PI X tg iter wi) (ok : BlkOk X.N X.env.scope scope own) (hg : BlkA X scope fun Y => PG Y tg g) (ht : BlkA X scope fun Y => PTs Y ifs tt) (hk : BlkA X scope fun Y => PE Y kx tk) (he : BlkA X scope fun Y => PE Y vx tv) (hc : X.calm = true) (hs : ∀ x, foldedSetIterable iter X.env x = pure x) :
    PE X (.DictComp kx vx [⟨tg, iter, ifs, 0⟩] scope pos) (tDc1 o wi g tt tk tv (own.map (·.2))) := by
  constructor
  intro pins s σ H Q I h
  rw [arm_eval_DictComp]
  refine dc_core1 hu hc hN eo I hi ok hg ht hk he hs h fun D C t m H' I' q hn f => ⟨m, hn, fun h2 sb => ?_⟩
  exact ⟨.ref D, H', I'.turned (t' := t.toks) (fun b u hb e => (sb.2 b hb).trans e) f.1 f.2.1 f.2.2.2.1 f.2.2.2.2.1 f.2.2.2.2.2, rfl, q⟩
theorem pe_dc2 (hu : X.A.units + 1 < cLine) (eo : Emp o) (hN : X.N.Nodup) (hi : PI X tg iter wi) (ok : BlkOk X.N X.env.scope scope own) (hv : ∀ i ∈ vs1, i ∈ own.map (·.2)) (hg : BlkA X scope fun Y => PG Y tg g) (ht : BlkA X scope fun Y => PTs Y ifs tt) (hi1 : BlkA X scope fun Y => PI Y tg1 iter1 wi1) (hg1 : BlkA X scope fun Y => PG Y tg1 g1) (ht1 : BlkA X scope fun Y => PTs Y ifs1 tt1) (hk : BlkA X scope fun Y => PE Y kx tk) (he : BlkA X scope fun Y => PE Y vx tv) (hc : X.calm = true) (hs : ∀ x, foldedSetIterable iter X.env x = pure x) (hs1 : ∀ env x, foldedSetIterable iter1 env x = pure x) :
    PE X (DC2 kx vx tg iter tg1 iter1 ifs ifs1 scope pos) (tDc2 o wi g tt wi1 g1 tt1 tk tv (own.map (·.2)) vs1) := by
  constructor
  intro pins s σ H Q I h
  rw [arm_eval_DictComp]
  refine dc_core2 hu hc hN eo I hi ok hv hg ht hi1 hg1 ht1 hk he hs hs1 h fun D C t m H' I' q hn f => ⟨m, hn, fun h2 sb => ?_⟩
  exact ⟨.ref D, H', I'.turned (t' := t.toks) (fun b u hb e => (sb.2 b hb).trans e) f.1 f.2.1 f.2.2.2.1 f.2.2.2.2.1 f.2.2.2.2.2, rfl, q⟩
end
end L2.DL
namespace L2.DL
open PySem PySem.Spec PyProof.Rows
mutual
def kEq : D → D → Bool
  | .int i, .int j => decide (i = j)
  | .str x, .str y => decide (x = y)
  | .tup xs, .tup ys => kEqL xs ys
  | _, _ => false
def kEqL : List D → List D → Bool
  | [], [] => true
  | x :: xs, y :: ys => kEq x y && kEqL xs ys
  | _, _ => false
end
def dgetD : List D → List D → D → Option D
  | k' :: ks, v :: vs, k => if kEq k' k = true then some v else dgetD ks vs k
  | _, _, _ => none
def dhas (ks : List D) (k : D) : Bool := ks.any fun k' => kEq k' k
def dputK (ks : List D) (k : D) : List D := if dhas ks k = true then ks else ks ++ [k]
def dmapV : List D → List D → D → D → List D
  | k' :: ks, v' :: vs, k, v => (if kEq k' k = true then v else v') :: dmapV ks vs k v
  | _, _, _, _ => []
def dputV (ks vs : List D) (k v : D) : List D := if dhas ks k = true then dmapV ks vs k v else vs ++ [v]
def keyOk : Bool → D → Bool
  | false, d => (keyD d).isSome
  | true, .tup xs => (keysD xs).isSome
  | _, _ => false
theorem keyD_kD {d : D} {k : Key} (h : keyD d = some k) : d = kD k := by
  cases d <;> simp only [keyD, Option.some.injEq, reduceCtorEq] at h <;> subst h <;> rfl
theorem keysD_kD : ∀ {ds : List D} {k : List Key}, keysD ds = some k → ds = k.map kD
  | [], k, h => by cases h; rfl
  | d :: ds, k, h => by
    unfold keysD at h
    cases q1 : keyD d with
    | none => rw [q1] at h; cases h
    | some a =>
      cases q2 : keysD ds with
      | none => rw [q1, q2] at h; cases h
      | some b =>
        rw [q1, q2] at h
        cases h
        rw [List.map_cons, ← keysD_kD q2, ← keyD_kD q1]
theorem kEq_kD (a b : Key) : kEq (kD a) (kD b) = decide (a = b) := by
  cases a <;> cases b
  · simp [kD, kEq]
  · simp [kD, kEq]
  · simp [kD, kEq]
  · rename_i x y
    show decide (x.cps.toList = y.cps.toList) = _
    by_cases h : x = y
    · subst h; simp
    · rw [decide_eq_false, decide_eq_false]
      · intro e; exact h (Sum.inr.inj e)
      · intro e
        exact h (by rw [← S2_eta x, ← S2_eta y, e])
theorem kEqL_kD : ∀ (a b : List Key), kEqL (a.map kD) (b.map kD) = decide (a = b)
  | [], [] => by simp [kEqL]
  | [], _ :: _ => by simp [kEqL]
  | _ :: _, [] => by simp [kEqL]
  | x :: a, y :: b => by
    rw [List.map_cons, List.map_cons, kEqL, kEq_kD, kEqL_kD a b]
    by_cases h : x = y <;> simp [h]
theorem kEq_tD (a b : List Key) : kEq (tD a) (tD b) = decide (a = b) := by
  show kEqL _ _ = _
  exact kEqL_kD a b
section
variable {z : Bz} {M : MS} {H : Hp} {κ : Type} [DecidableEq κ] {f : κ → D} {b : κ} {k : D}
theorem dget_some (hf : ∀ a, kEq (f a) k = decide (a = b)) {d : D} : ∀ {kvs : List (κ × V)} {vs : List D}, RpL z M H (kvs.map fun p => p.2) vs → dgetD (kvs.map fun p => f p.1) vs k = some d → ∃ v, valV kvs b = some v ∧ Rp z M H v d
  | [], _, .nil, h => by cases h
  | (a, v) :: kvs, _, .cons r rs, h => by
    rw [List.map_cons, dgetD, hf] at h
    by_cases c : a = b
    · rw [if_pos (decide_eq_true c)] at h
      cases h
      exact ⟨v, valV_pos c, r⟩
    · rw [if_neg (by simpa using c)] at h
      obtain ⟨u, e, r'⟩ := dget_some hf rs h
      exact ⟨u, by rw [valV_neg (by exact c)]; exact e, r'⟩
theorem dget_is (hf : ∀ a, kEq (f a) k = decide (a = b)) : ∀ {kvs : List (κ × V)} {vs : List D}, RpL z M H (kvs.map fun p => p.2) vs → (valV kvs b).isSome = (dgetD (kvs.map fun p => f p.1) vs k).isSome
  | [], _, .nil => rfl
  | (a, v) :: kvs, _, .cons r rs => by
    rw [List.map_cons, dgetD, hf]
    by_cases c : a = b
    · rw [if_pos (decide_eq_true c), valV_pos (by exact c)]; rfl
    · rw [if_neg (by simpa using c), valV_neg (by exact c)]
      exact dget_is hf rs
theorem dhas_any (hf : ∀ a, kEq (f a) k = decide (a = b)) (kvs : List (κ × V)) : dhas (kvs.map fun p => f p.1) k = kvs.any fun kv => decide (kv.1 = b) := by
  unfold dhas
  rw [List.any_map]
  congr 1
  funext p
  exact hf p.1
theorem put_keys (hf : ∀ a, kEq (f a) k = decide (a = b)) (hk : k = f b) (kvs : List (κ × V)) (v : V) : (putK kvs b v).map (fun p => f p.1) = dputK (kvs.map fun p => f p.1) k := by
  unfold dputK putK
  rw [dhas_any hf]
  split
  · rw [List.map_map]
    refine List.map_congr_left fun p _ => ?_
    show f (if p.1 = b then (p.1, v) else p).1 = f p.1
    split <;> rfl
  · rw [List.map_append, hk]; rfl
theorem put_vals (hf : ∀ a, kEq (f a) k = decide (a = b)) {kvs : List (κ × V)} {vs : List D} {v : V} {d : D} (r : RpL z M H (kvs.map fun p => p.2) vs) (rv : Rp z M H v d) : RpL z M H ((putK kvs b v).map fun p => p.2) (dputV (kvs.map fun p => f p.1) vs k d) := by
  unfold dputV putK
  rw [dhas_any hf]
  split
  · rw [List.map_map]
    have : ∀ {kvs : List (κ × V)} {vs : List D}, RpL z M H (kvs.map fun p => p.2) vs → RpL z M H (kvs.map ((fun p => p.2) ∘ fun kv => if kv.1 = b then (kv.1, v) else kv)) (dmapV (kvs.map fun p => f p.1) vs k d) := by
      intro kvs
      induction kvs with
      | nil => intro vs r; cases r; exact .nil
      | cons p kvs ih =>
        intro vs r
        cases r with
        | cons r rs =>
          rw [List.map_cons, List.map_cons, dmapV, hf]
          refine .cons ?_ (ih rs)
          show Rp z M H (if p.1 = b then (p.1, v) else p).2 _
          by_cases c : p.1 = b
          · rw [if_pos c, if_pos (decide_eq_true c)]; exact rv
          · rw [if_neg c, if_neg (by simpa using c)]; exact r
    exact this r
  · rw [List.map_append]
    exact r.append (.one rv)
end
/-- a dict, read: how it stands -/
theorem Pk.dic {g : Gh} {H : Hp} {v : V} {t lk : Bool} {ks vs : List D} (h : Pk g H v (.dic t lk ks vs)) : ∃ a, v = .ref a ∧ ((∃ kvs : List (Key × V), t = false ∧ LkD lk H a (.dK kvs) ∧ ks = (kvs.map fun p => kD p.1) ∧ RpL g.z g.M H (kvs.map fun p => p.2) vs) ∨ ∃ kvs : List (List Key × V), t = true ∧ LkD lk H a (.dT kvs) ∧ ks = (kvs.map fun p => tD p.1) ∧ RpL g.z g.M H (kvs.map fun p => p.2) vs) := by
  rcases h with h | ⟨a, e, _, _, h⟩
  · cases h with
    | dicK r n l => exact ⟨_, rfl, .inl ⟨_, rfl, r, rfl, l⟩⟩
    | dicT r n l => exact ⟨_, rfl, .inr ⟨_, rfl, r, rfl, l⟩⟩
  · cases h with
    | dicK r l => exact ⟨_, e, .inl ⟨_, rfl, r, rfl, l⟩⟩
    | dicT r l => exact ⟨_, e, .inr ⟨_, rfl, r, rfl, l⟩⟩
/-- a key, read -/
theorem Pk.key {g : Gh} {H : Hp} {v : V} {d : D} (h : Pk g H v d) (hk : (keyD d).isSome = true) : ∃ k, d = kD k ∧ v = kV k := by
  obtain ⟨k, e⟩ := Option.isSome_iff_exists.mp hk
  have e1 := keyD_kD e
  subst e1
  refine ⟨k, rfl, ?_⟩
  cases k with
  | inl i => exact h.int
  | inr x => exact h.str
theorem rpL_key {z : Bz} {M : MS} {H : Hp} : ∀ {k : List Key} {xs : List V}, RpL z M H xs (k.map kD) → xs = k.map kV
  | [], _, .nil => rfl
  | a :: k, _, .cons h r => by
    rw [List.map_cons, ← rpL_key r]
    congr 1
    cases a with
    | inl i => exact h.int_inv
    | inr x => exact h.str_inv
theorem Pk.keyT {g : Gh} {H : Hp} {v : V} {d : D} (h : Pk g H v d) (hk : keyOk true d = true) : ∃ k b, d = tD k ∧ v = .ref b ∧ H b = some (.tup (k.map kV)) := by
  cases d <;> try (cases hk; done)
  rename_i xs
  obtain ⟨k, e⟩ := Option.isSome_iff_exists.mp (show (keysD xs).isSome = true from hk)
  have e1 := keysD_kD e
  subst e1
  obtain ⟨a, ys, rfl, ha, l⟩ := h.tup
  exact ⟨k, a, rfl, rfl, by rw [ha, rpL_key l]⟩
theorem dic_get {g : Gh} {H : Hp} {x y : V} {t lk : Bool} {ks vs : List D} {k : D} (hx : Pk g H x (.dic t lk ks vs)) (hy : Pk g H y k) (hk : keyOk t k = true) : ∃ a o, x = .ref a ∧ DGet H a y o ∧ o.isSome = (dgetD ks vs k).isSome ∧ ∀ d, dgetD ks vs k = some d → ∃ v, o = some v ∧ Rp g.z g.M H v d := by
  obtain ⟨a, rfl, h | h⟩ := hx.dic
  · obtain ⟨kvs, rfl, r, rfl, l⟩ := h
    obtain ⟨b, rfl, rfl⟩ := hy.key hk
    have hf : ∀ c, kEq (kD c) (kD b) = decide (c = b) := fun c => kEq_kD c b
    exact ⟨a, _, rfl, .inl ⟨kvs, b, r.rd, rfl, rfl⟩, dget_is hf l, fun d e => dget_some hf l e⟩
  · obtain ⟨kvs, rfl, r, rfl, l⟩ := h
    obtain ⟨b, q, rfl, rfl, hq⟩ := hy.keyT hk
    have hf : ∀ c, kEq (tD c) (tD b) = decide (c = b) := fun c => kEq_tD c b
    exact ⟨a, _, rfl, .inr ⟨kvs, b, q, r.rd, rfl, hq, rfl⟩, dget_is hf l, fun d e => dget_some hf l e⟩
def dGetR : D → D → (D → Prop) → Prop
  | .dic t _ ks vs, k, Q => keyOk t k = true ∧ ∃ v, dgetD ks vs k = some v ∧ Q v
  | _, _, _ => False
def dInR (f : Bool → Bool) : D → D → (D → Prop) → Prop
  | .dic t _ ks vs, k, Q => keyOk t k = true ∧ Q (.bl (f (dgetD ks vs k).isSome))
  | _, _, _ => False
section
variable {X : Cx} {o i e : Expr} {td tk te tv : TDE} {pos pos' p : Pos} {ts : TDA} {j : Nat}
theorem dGetR_dic {d k : D} {Q : D → Prop} (h : dGetR d k Q) : ∃ t lk ks vs, d = .dic t lk ks vs ∧ keyOk t k = true ∧ ∃ v, dgetD ks vs k = some v ∧ Q v := by
  cases d <;> try (exact h.elim)
  exact ⟨_, _, _, _, rfl, h⟩
theorem dInR_dic {f : Bool → Bool} {d k : D} {Q : D → Prop} (h : dInR f d k Q) : ∃ t lk ks vs, d = .dic t lk ks vs ∧ keyOk t k = true ∧ Q (.bl (f (dgetD ks vs k).isSome)) := by
  cases d <;> try (exact h.elim)
  exact ⟨_, _, _, _, rfl, h⟩
theorem de_dget (hu : X.A.units + 65 < cLine) (hd : PE X o (lP td)) (hk : PE X i (lP tk)) (hs : NoSl i := by exact fun _ _ => rfl) : PE X (.Subscript o i pos) (lE (fun S Q => td S fun d => tk S fun k => dGetR d k Q)) :=
  PE.imp (pe_dget (by omega) hd hk hs) fun σ H Q ⟨g, Qd, s, w, kk⟩ => ⟨g, _, s, w, fun d x H1 w1 x1 s1 r1 => ⟨g, _, s1, w1, fun k y H2 w2 x2 s2 r2 => by
    obtain ⟨t, lk, ks, vs, rfl, hk, v, ev, q⟩ := dGetR_dic w2
    obtain ⟨a, ov, rfl, dg, _, hv⟩ := dic_get (r1.ext x2) r2 hk
    obtain ⟨u, rfl, ru⟩ := hv v ev
    exact ⟨a, u, rfl, dg, kk v u H2 q (x1.trans x2) s2 ru⟩⟩⟩
theorem dt_din (hu : X.A.units + 65 < cLine) (hk : PE X i (lP tk)) (hd : PE X o (lP td)) (hm : behindInMarks .In o = false := by rfl) : PT X (.Compare i [.In] [o] pos) (lT (dTestB (fun S Q => tk S fun k => td S fun d => dInR id d k Q))) :=
  PT.imp (pt_cmp (pc_din (by omega) hk hd) hm) fun σ H Q ⟨g, Qd, s, w, kk⟩ => ⟨g, _, s, w, fun k y H1 w1 x1 s1 r1 => ⟨g, _, s1, w1, fun d x H2 w2 x2 s2 r2 => by
    obtain ⟨t, lk, ks, vs, rfl, hk, kq, hq, q⟩ := dInR_dic w2
    cases hq
    obtain ⟨a, ov, rfl, dg, is, _⟩ := dic_get r2 (r1.ext x2) hk
    exact ⟨a, ov, rfl, dg, _, rfl, by rw [is]; exact kk _ H2 q (x1.trans x2) s2⟩⟩⟩
/-- {} -/
theorem df_dnewK : PE X (.Dict [] [] pos) (lF (dC (.dic false false [] []))) := PE.imp pe_dnewK fun σ H Q ⟨g, Qd, s, w, kk⟩ => fun p hp => kk _ p _ w (.new hp) (s.alloc hp) hp (s.fresh hp) (.dicK (kvs := []) upd_same .nil)
theorem df_dnewT : PE X (.Dict [] [] pos) (lF (dC (.dic true false [] []))) := PE.imp pe_dnewT fun σ H Q ⟨g, Qd, s, w, kk⟩ => fun p hp => kk _ p _ w (.new hp) (s.alloc hp) hp (s.fresh hp) (.dicT (kvs := []) upd_same .nil)
/-- d[k] = v, d owned -/
def dsDput (j : Nat) (tk tv : TDE) : TDS := fun De S => ∃ t ks vs, S[j]? = some (.own (.dic t false ks vs)) ∧ tv S fun v => tk S fun k => keyOk t k = true ∧ ks.length < sizeLine ∧ De.nx (S.set j (.own (.dic t false (dputK ks k) (dputV ks vs k v))))
theorem ds_dput (hu : X.A.units + 65 < cLine) (ho : PE X o (tVar j)) (hk : PE X i (lP tk)) (hv : PE X e (lE tv)) (hs : swapsWith e (some (.Subscript o i pos')) pos.line X.env = pure false := by rfl) : PS X (.Assign [.Subscript o i pos'] e pos) (lS (dsDput j tk tv)) :=
  PS.imp (ps_dput (by omega) ho hk hv hs) fun D σ H ⟨g, De, s, ⟨t, ks, vs, e1, w⟩, l⟩ => ⟨g, _, s, w, fun v xv H1 w1 x1 s1 r1 => by
    obtain ⟨a, ea, eo, o⟩ := s.own j _ e1
    refine ⟨.ref a, ea, g, _, s1, w1, fun k y H2 w2 x2 s2 r2 => ?_⟩
    obtain ⟨hk, hl, q⟩ := w2
    obtain ⟨a', ea', eo', o'⟩ := s2.own j _ e1
    rw [ea] at ea'
    cases ea'
    have hM : g.M a := .inr (.inr ⟨j, eo⟩)
    cases o' with
    | dicK h2 l2 =>
      rename_i kvs
      obtain ⟨b, rfl, rfl⟩ := r2.key hk
      have hf : ∀ c, kEq (kD c) (kD b) = decide (c = b) := fun c => kEq_kD c b
      refine ⟨a, _, rfl, .inl ⟨kvs, b, h2, rfl, by simpa using hl, rfl⟩, ?_⟩
      refine l.nx g.ow _ σ _ (s2.mutate e1 ea (.inl rfl) ?_) q
      rw [← put_keys hf rfl kvs xv]
      exact .dicK upd_same ((put_vals hf l2 (r1.ext x2)).tr (tr_mut hM _))
    | dicT h2 l2 =>
      rename_i kvs
      obtain ⟨b, c, rfl, rfl, hc⟩ := r2.keyT hk
      have hf : ∀ c, kEq (tD c) (tD b) = decide (c = b) := fun c => kEq_tD c b
      refine ⟨a, _, rfl, .inr ⟨kvs, b, c, h2, rfl, hc, by simpa using hl, rfl⟩, ?_⟩
      refine l.nx g.ow _ σ _ (s2.mutate e1 ea (.inl rfl) ?_) q
      rw [← put_keys hf rfl kvs xv]
      exact .dicT upd_same ((put_vals hf l2 (r1.ext x2)).tr (tr_mut hM _))⟩
end
end L2.DL
namespace L2.DL
open PySem PySem.Spec PyProof.Rows
theorem rp_key {z : Bz} {M : MS} {H : Hp} (k : Key) : Rp z M H (kV k) (kD k) := by
  cases k with
  | inl i => exact .int i
  | inr x =>
    have : Rp z M H (.str (S2 x.cps.toList)) (.str x.cps.toList) := .str _
    rw [S2_eta] at this
    exact this
theorem rpL_keys {z : Bz} {M : MS} {H : Hp} : ∀ k : List Key, RpL z M H (k.map kV) (k.map kD)
  | [] => .nil
  | a :: k => .cons (rp_key a) (rpL_keys k)
theorem Wk.keysK {g : Gh} {H1 : Hp} {a : Addr} {o : Obj} {kvs : List (Key × V)} (e : H1 a = some (.frz o (.dK kvs))) (n : ¬ g.M a) : Wk g H1 (Itk a o kvs) (kvs.map fun p => kD p.1) where
  go := fun i H' h hi => ⟨h a _ n e, by simpa using hi⟩
  stop := fun H' h => ⟨h a _ n e, by simp⟩
  yld := fun i H' x H'' d h y hd => by
    obtain ⟨rfl, k, v, e1, rfl⟩ := y
    rw [List.getElem?_map, e1] at hd
    cases hd
    exact ⟨fun _ _ e => e, fun M' t _ => rp_key k⟩
theorem Wk.keysT {g : Gh} {H1 : Hp} {a : Addr} {o : Obj} {kvs : List (List Key × V)} (e : H1 a = some (.frz o (.dT kvs))) (n : ¬ g.M a) : Wk g H1 (Itkt a o kvs) (kvs.map fun p => tD p.1) where
  go := fun i H' h hi => ⟨h a _ n e, by simpa using hi⟩
  stop := fun H' h => ⟨h a _ n e, by simp⟩
  yld := fun i H' x H'' d h y hd => by
    obtain ⟨rfl, k, v, q, e1, rfl, hq⟩ := y
    rw [List.getElem?_map, e1] at hd
    cases hd
    refine ⟨fun _ _ e => e, fun M' t nt => ?_⟩
    have nm : ¬ M' q := fun m => by
      obtain ⟨u, eu, nu⟩ := nt q m
      rw [hq] at eu
      cases eu
      exact nu
    exact .tup hq nm (rpL_keys k)
section
variable {X : Cx} {tg e : Expr} {te : TDE}
def diKeys (te : TDE) : TDI := fun S Q => te S fun d => ∃ t ks vs, d = .dic t true ks vs ∧ Q ks
theorem di_keys (he : PE X e (lE te)) : DI X tg e (diKeys te) := ⟨_, pi_keys he, fun g σ H Qd R s w k => ⟨g, _, s, w, fun d v H1 w1 x1 s1 r1 => by
  obtain ⟨t, ks, vs, rfl, q⟩ := w1
  cases r1 with
  | dicK h n l =>
    obtain ⟨o, h⟩ := h
    exact ⟨_, o, rfl, .inl ⟨_, h, k _ _ H1 q x1 s1 (Wk.keysK h n)⟩⟩
  | dicT h n l =>
    obtain ⟨o, h⟩ := h
    exact ⟨_, o, rfl, .inr ⟨_, h, k _ _ H1 q x1 s1 (Wk.keysT h n)⟩⟩⟩⟩
end
theorem Ow.mutK {z : Bz} {M : MS} {H : Hp} {a : Addr} {t : Bool} {ks vs : List D} (h : Ow z M H a (.dic t false ks vs)) : ∃ u, H a = some u ∧ Mut (some u) ∧ ∀ (od : Obj) (M' : MS), Tr M H M' (upd H a (.frz od u)) → ¬ M' a → Rp z M' (upd H a (.frz od u)) (.ref a) (.dic t true ks vs) := by
  cases h with
  | dicK r l => exact ⟨_, r, True.intro, fun od M' tr n => .dicK (lk := true) ⟨od, upd_same⟩ n (l.tr tr)⟩
  | dicT r l => exact ⟨_, r, True.intro, fun od M' tr n => .dicT (lk := true) ⟨od, upd_same⟩ n (l.tr tr)⟩
section
variable {X : Cx} {e : Expr} {te : TDE} {t : TDS}
def dLk (te : TDE) : TDE := fun S Q => te S fun d => ∃ t ks vs, d = .dic t false ks vs ∧ Q (.dic t true ks vs)
theorem PE.lockF (h : PE X e (lF te)) : PE X e (lE (dLk te)) := by
  constructor
  intro pins s σ H Q I ⟨g, Qd, st, w, k⟩
  refine thn (h.run pins s σ H (fun x H1 => ∃ a t ks vs, x = .ref a ∧ Qd (.dic t true ks vs) ∧ Ext g.z H H1 ∧ Stt g σ H1 ∧ H a = none ∧ ¬ g.M a ∧ OwF g.z g.M H1 a (.dic t false ks vs)) I ⟨g, _, st, w, fun d a H1 ⟨t, ks, vs, e1, q⟩ x1 s1 hn nm o => ?_⟩) fun v s1 ⟨x, H1, I1, r, a, t, ks, vs, ex, q, x1, st1, hn, nm, o⟩ => ?_
  · subst e1
    exact ⟨a, t, ks, vs, rfl, q, x1, s1, hn, nm, o⟩
  · subst ex
    obtain ⟨u, hu, mu, rp⟩ := Ow.mutK o
    obtain ⟨od, I2⟩ := I1.lock hu mu
    have x2 : Ext g.z H (upd H1 a (.frz od u)) := fun b v e n => by rw [upd_ne (ne_of_none e hn)]; exact x1 b v e n
    have b2 : BagOk g.z (upd H1 a (.frz od u)) := st1.bag.mut (fun h => nm (res_M h)) (Ow.code o)
    refine ⟨.ref a, _, I2, r, k _ _ _ q x2 (st.ext x2 b2) (rp od g.M (Tr.of fun b v n e => ?_) nm)⟩
    have hb : b ≠ a := fun z => n (.inr z)
    exact ⟨by rw [upd_ne hb]; exact e, fun q => n (.inl q)⟩
theorem Stt.lockOwn {g : Gh} {σ : St} {H : Hp} {i : Nat} {d d' : D} {a : Addr} {o' : HO} (s : Stt g σ H) (e : g.S[i]? = some (.own d)) (ea : σ[i]? = some (some (.ref a))) (eo : g.ow i = some a) (no : NtO o')
    (rp : ∀ M', Tr g.M H M' (upd H a o') → ¬ M' a → Rp g.z M' (upd H a o') (.ref a) d') : Stt { g with ow := setOw g.ow i none, S := g.S.set i (.val d') } σ (upd H a o') := by
  have ocode : ∀ c q, H a ≠ some (CodeO c q) := by
    obtain ⟨a', _, eo', ow0⟩ := s.own i d e
    rw [eo] at eo'
    cases eo'
    exact Ow.code ow0
  have hM : g.M a := .inr (.inr ⟨i, eo⟩)
  have sub : ∀ b, Mo g.M0 g.z (setOw g.ow i none) b → g.M b := fun b h => by
    rcases h with h | h | ⟨j, h⟩
    · exact .inl h
    · exact .inr (.inl h)
    · unfold setOw at h
      split at h
      · cases h
      · exact .inr (.inr ⟨j, h⟩)
  have tr : Tr g.M H (Mo g.M0 g.z (setOw g.ow i none)) (upd H a o') := Tr.of fun b u n e => ⟨by rw [upd_ne (show b ≠ a by rintro rfl; exact n hM)]; exact e, fun q => n (sub b q)⟩
  have na : ¬ Mo g.M0 g.z (setOw g.ow i none) a := fun h => by
    rcases h with h | h | ⟨j, h⟩
    · exact (s.new i a eo).2.1 h
    · exact (s.new i a eo).2.2 h
    · unfold setOw at h
      split at h
      · cases h
      · rename_i hj
        exact hj (s.inj j i a h eo)
  refine ⟨fun j as φ e => (s.rs j as φ (rs_val e)).tr tr (fun c hc o q => by rw [upd_ne (show c ≠ a by rintro rfl; exact s.rsNe (rs_val e) eo hc)]; exact q) rfl fun _ => setOw_r (ow := g.ow) (i := i) (a := none), by simpa using s.len, fun j d'' e' => ?_, fun j d'' e' => ?_, fun j k c e1 e2 => ?_, fun j c e1 => ?_, fun c h => ?_, fun b u e1 n => ?_, s.bag.mut (fun h => (s.new i a eo).2.2 h) ocode, s.ex.val⟩
  · have e1 : (g.S.set i (.val d'))[j]? = some (.val d'') := e'
    rw [List.getElem?_set] at e1
    by_cases hij : i = j
    · subst hij
      rw [if_pos rfl] at e1
      split at e1
      · cases e1
        exact ⟨.ref a, ea, rp _ tr na⟩
      · cases e1
    · rw [if_neg hij] at e1
      obtain ⟨u, e2, r1⟩ := s.val j d'' e1
      exact ⟨u, e2, r1.tr tr⟩
  · have e1 : (g.S.set i (.val d'))[j]? = some (.own d'') := e'
    rw [List.getElem?_set] at e1
    by_cases hij : i = j
    · subst hij
      rw [if_pos rfl] at e1
      split at e1 <;> cases e1
    · rw [if_neg hij] at e1
      obtain ⟨u, e2, e3, r1⟩ := s.own j d'' e1
      refine ⟨u, e2, ?_, r1.tr tr fun w q => ?_⟩
      · show setOw g.ow i none j = some u
        unfold setOw; rw [if_neg (ix_ne (Ne.symm hij))]; exact e3
      · rw [upd_ne (show u ≠ a by rintro rfl; exact hij (Sum.inl.inj (s.inj i j u eo e3)))]; exact q
  · have e1' : setOw g.ow i none j = some c := e1
    have e2' : setOw g.ow i none k = some c := e2
    unfold setOw at e1' e2'
    split at e1' <;> split at e2' <;> try cases e1'
    · cases e2'
    · exact s.inj j k c e1' e2'
  · have e' : setOw g.ow i none j = some c := e1
    unfold setOw at e'
    split at e'
    · cases e'
    · exact s.new j c e'
  · by_cases hc : c = a
    · subst hc; exact ⟨_, upd_same, no⟩
    · obtain ⟨u, e, n⟩ := s.alive c (sub c h)
      exact ⟨u, by rw [upd_ne hc]; exact e, n⟩
  · rw [upd_ne (show b ≠ a by rintro rfl; rw [(s.new i b eo).1] at e1; cases e1)]
    exact s.keep b u e1 n
/-- what name i owns is kept and locked from here on -/
def dsFrzL (i : Nat) (t : TDS) : TDS := fun De S => ∃ b ks vs, S[i]? = some (.own (.dic b false ks vs)) ∧ t De (S.set i (.val (.dic b true ks vs)))
theorem ds_frzL {sts : List Stmt} (i : Nat) (h : PSs X sts (lS t)) : PSs X sts (lS (dsFrzL i t)) := by
  constructor
  intro pins s σ H D I ⟨g, De, st, ⟨b, ks, vs, e, w⟩, l⟩
  obtain ⟨a, ea, eo, o⟩ := st.own i _ e
  obtain ⟨u, hu, mu, rp⟩ := o.mutK
  obtain ⟨od, I2⟩ := I.lock hu mu
  exact h.run pins s σ _ D I2 ⟨_, De, st.lockOwn e ea eo trivial (rp od), w, l.back⟩
end
end L2.DL
namespace L2.DL
open PySem PySem.Spec PyProof.Rows
theorem acc_gen {g : Gh} {A : Addr} {σ : St} {H1 : Hp} {vs is : List Nat} {J : It} {ds : List D} {tgd : TDG} {B : St → Hp → (Hp → Prop) → Prop} {fB : SS → (List D → Prop) → Prop} {N : Hp → Prop} {rs0 : List D} {Qr : List D → Prop} {Acc : Hp → List D → Prop}
    (hAn : ∀ H r, Acc H r → Nt H A) (hAx : ∀ H H' r, Acc H r → Ext g.z H H' → Acc H' r)
    (s1 : Stt g σ H1) (hm : g.M0 A) (h0 : g.H0 A = none) (wk : WkA g A H1 J ds) (hv : ∀ j ∈ is, j ∈ vs) (c : Nat)
    (hB : ∀ (S' : SS) (σ' : St) (H' : Hp) (rs : List D) (Qr : List D → Prop) (Nx : Hp → Prop), Stt { g with S := S' } σ' H' → Acc H' rs → rs.length + c ≤ sizeLine → fB S' Qr →
      (∀ H2 r, ExtA g.z A H' H2 → BagOk g.z H2 → Acc H2 (rs ++ r) → r.length ≤ c → Qr r → Nx H2) → B σ' H' Nx)
    (l0 : Acc H1 rs0) (hb : rs0.length + ds.length * c ≤ sizeLine) (w : wpMap (fun d k => tgd d (wipeS g.S vs) fun S2 => fB S2 k) ds Qr)
    (hN : ∀ H2 r, ExtA g.z A H1 H2 → BagOk g.z H2 → Acc H2 (rs0 ++ r) → r.length ≤ ds.length * c → Qr r → N H2) : wLoop J (lG is tgd) vs σ H1 N B := by
  refine ⟨fun i m H' => m = ds.length - i ∧ i ≤ ds.length ∧ ∃ r, ExtA g.z A H1 H' ∧ BagOk g.z H' ∧ Acc H' (rs0 ++ r) ∧ r.length ≤ i * c ∧ wpMap (fun d k => tgd d (wipeS g.S vs) fun S2 => fB S2 k) (ds.drop i) fun rest => Qr (r ++ rest),
    ⟨ds.length, by simp, Nat.zero_le _, [], fun b o e _ _ => e, s1.bag, by simpa using l0, Nat.zero_le _, w⟩, ?_⟩
  rintro i m H' ⟨rfl, hi, r, x, b, l, hrl, w'⟩
  have s' : Stt g σ H' := s1.extA hm h0 x b (hAn _ _ l)
  by_cases hlt : i < ds.length
  · have ed : ds.drop i = ds[i] :: ds.drop (i + 1) := List.drop_eq_getElem_cons hlt
    rw [ed] at w'
    have hmul : (i + 1) * c ≤ ds.length * c := Nat.mul_le_mul_right c hlt
    have hmul2 : (i + 1) * c = i * c + c := by rw [Nat.add_mul, Nat.one_mul]
    refine .inr ⟨wk.go i H' x hlt, fun H2 => ∃ r, ExtA g.z A H1 H2 ∧ BagOk g.z H2 ∧ Acc H2 (rs0 ++ r) ∧ r.length ≤ (i + 1) * c ∧ wpMap (fun d k => tgd d (wipeS g.S vs) fun S2 => fB S2 k) (ds.drop (i + 1)) fun rest => Qr (r ++ rest),
      fun H2 h => ⟨ds.length - (i + 1), by omega, rfl, hlt, h⟩, fun v H'' y => ?_⟩
    obtain ⟨gr, rp⟩ := wk.yld i H' v H'' ds[i] x s'.alive y (List.getElem?_eq_getElem hlt)
    have x'' : Ext g.z H' H'' := fun a o e _ => gr a o e
    have s'' := (s'.ext x'' (b.grow gr)).wipe vs
    refine ⟨{ g with S := wipeS g.S vs }, ds[i], _, s'', rp, w', fun S3 σ3 s3 hs3 hl3 w3 => ⟨wipe_eq hs3 (by rw [hl3, wipe_length]) hv, ?_⟩⟩
    refine hB S3 σ3 H'' (rs0 ++ r) _ _ s3 (hAx _ _ _ l x'') (by rw [List.length_append]; omega) w3 fun H2 r2 x2 b2 l2 hr2 q2 => ?_
    refine ⟨r ++ r2, (x.trans x''.A).trans x2, b2, by rw [← List.append_assoc]; exact l2, by rw [List.length_append]; omega, ?_⟩
    simpa [List.append_assoc] using q2
  · have e : i = ds.length := by omega
    subst e
    rw [List.drop_length] at w'
    exact .inl ⟨wk.stop H' x, hN H' r x b l hrl (by simpa [wpMap] using w')⟩
/-- the entries, put one by one -/
def dstep (p : List D × List D) : D → List D × List D
  | .tup [k, v] => (dputK p.1 k, dputV p.1 p.2 k v)
  | _ => p
def dfold (rs : List D) : List D × List D := rs.foldl dstep ([], [])
theorem dputK_len (ks : List D) (k : D) : (dputK ks k).length ≤ ks.length + 1 := by
  unfold dputK
  split
  · omega
  · simp
theorem dfold_len : ∀ (rs : List D) (p : List D × List D), (rs.foldl dstep p).1.length ≤ p.1.length + rs.length
  | [], p => by simp
  | e :: rs, p => by
    rw [List.foldl_cons, List.length_cons]
    refine Nat.le_trans (dfold_len rs _) ?_
    have : (dstep p e).1.length ≤ p.1.length + 1 := by
      unfold dstep
      split
      · exact dputK_len _ _
      · omega
    omega
def dAcc (g : Gh) (t : Bool) (A : Addr) (H : Hp) (rs : List D) : Prop := Ow g.z g.M H A (.dic t false (dfold rs).1 (dfold rs).2)
def dcF (t : Bool) (tt : TDT) (tk tv : TDE) : SS → (List D → Prop) → Prop := fun S2 Q => tt S2 fun b => if b = true then tk S2 fun k => tv S2 fun v => keyOk t k = true ∧ Q [.tup [k, v]] else Q []
theorem dcB_ok {g : Gh} {A : Addr} {t : Bool} {tt : TDT} {tk tv : TDE} (hm : g.M0 A) (hr : ¬ resB g.z A) (S' : SS) (σ' : St) (H' : Hp) (rs : List D) (Qr : List D → Prop) (Nx : Hp → Prop) (s : Stt { g with S := S' } σ' H') (l : dAcc g t A H' rs) (hz : rs.length + 1 ≤ sizeLine) (w : dcF t tt tk tv S' Qr)
      (kk : ∀ H2 r, ExtA g.z A H' H2 → BagOk g.z H2 → dAcc g t A H2 (rs ++ r) → r.length ≤ 1 → Qr r → Nx H2) : dcB A (lT tt) (lE tk) (lE tv) σ' H' Nx := by
  have hA : g.M A := .inl hm
  have nb : ∀ {H H'}, Ext g.z H H' → ∀ o, H A = some o → H' A = some o := fun x o e => x A o e fun h => hr h.res
  refine ⟨_, _, s, w, fun b H3 w3 x3 s3 => ?_⟩
  have l3 : dAcc g t A H3 rs := Ow.tr l x3.trM (nb x3)
  cases b with
  | false => exact kk H3 [] x3.A s3.bag (by simpa using l3) (by simp) w3
  | true =>
    refine ⟨_, _, s3, w3, fun k y H4 w4 x4 s4 r4 => ⟨_, _, s4, w4, fun d v H5 w5 x5 s5 r5 => ?_⟩⟩
    obtain ⟨hk, q⟩ := w5
    have l5 : dAcc g t A H5 rs := Ow.tr (Ow.tr l3 x4.trM (nb x4)) x5.trM (nb x5)
    have hlen := dfold_len rs ([], [])
    have fin : ∀ o', Nt (upd H5 A o') A → BagOk g.z (upd H5 A o') := fun o' _ => s5.bag.mut hr (Ow.code l5)
    have ef : dfold (rs ++ [.tup [k, d]]) = (dputK (dfold rs).1 k, dputV (dfold rs).1 (dfold rs).2 k d) := by
      unfold dfold
      rw [List.foldl_append]
      rfl
    unfold dAcc at l5 kk
    have r4' := r4.ext x5
    have r4p : Pk { g with S := S' } H5 y k := .inl r4'
    generalize hks : (dfold rs).1 = ks at l5 ef hlen
    generalize hvs : (dfold rs).2 = vs at l5 ef
    have hlen' : (dfold rs).1.length ≤ rs.length := by
      have := dfold_len rs ([], [])
      simpa [dfold] using this
    rw [hks] at hlen'
    cases l5 with
    | dicK h2 l2 =>
      rename_i kvs
      obtain ⟨b, rfl, rfl⟩ := r4p.key hk
      have hf : ∀ c, kEq (kD c) (kD b) = decide (c = b) := fun c => kEq_kD c b
      refine ⟨_, .inl ⟨kvs, b, h2, rfl, by rw [List.length_map] at hlen'; omega, rfl⟩, ?_⟩
      refine kk _ [.tup [kD b, d]] (ExtA.upd ((x3.trans x4).trans x5).A) (fin _ ⟨_, upd_same, trivial⟩) ?_ (by simp) q
      rw [ef, ← put_keys hf rfl kvs v]
      exact .dicK upd_same ((put_vals hf l2 r5).tr (tr_mut hA _))
    | dicT h2 l2 =>
      rename_i kvs
      obtain ⟨b, c, rfl, rfl, hc⟩ := r4p.keyT hk
      have hf : ∀ c, kEq (tD c) (tD b) = decide (c = b) := fun c => kEq_tD c b
      refine ⟨_, .inr ⟨kvs, b, c, h2, rfl, hc, by rw [List.length_map] at hlen'; omega, rfl⟩, ?_⟩
      refine kk _ [.tup [tD b, d]] (ExtA.upd ((x3.trans x4).trans x5).A) (fin _ ⟨_, upd_same, trivial⟩) ?_ (by simp) q
      rw [ef, ← put_keys hf rfl kvs v]
      exact .dicT upd_same ((put_vals hf l2 r5).tr (tr_mut hA _))
def dcO : Bool → HO
  | false => .dK []
  | true => .dT []
theorem dcO_emp (t : Bool) : Emp (dcO t) := by
  cases t
  · exact .inl rfl
  · exact .inr rfl
theorem dcO_no (t : Bool) : NtO (dcO t) := by
  cases t <;> exact trivial
theorem dcO_acc {g : Gh} {A : Addr} {H : Hp} (t : Bool) : dAcc g t A (upd H A (dcO t)) [] := by
  cases t
  · exact .dicK (kvs := []) upd_same .nil
  · exact .dicT (kvs := []) upd_same .nil
theorem dAcc_nt {g : Gh} {A : Addr} {t : Bool} (H : Hp) (r : List D) (h : dAcc g t A H r) : Nt H A := Ow.alive h
theorem dAcc_ext {g : Gh} {A : Addr} {t : Bool} (hr : ¬ resB g.z A) (H H' : Hp) (r : List D) (h : dAcc g t A H r) (x : Ext g.z H H') : dAcc g t A H' r := Ow.tr h x.trM fun o e => x A o e fun h => hr h.res
theorem dc_end {g : Gh} {σ : St} {H H1 H2 : Hp} {A : Addr} {rs : List D} {t : Bool} {Qd : D → Prop} {Q : VK} {o : HO} (s1 : Stt g σ H1) (x1 : Ext g.z H H1) (hA : H1 A = none) (x : ExtA g.z A (upd H1 A o) H2) (b : BagOk g.z H2) (l : dAcc (withD g A) t A H2 rs) (q : Qd (.dic t false (dfold rs).1 (dfold rs).2))
    (k : ∀ d a H', Qd d → Ext g.z H H' → Stt g σ H' → H a = none → ¬ g.M a → OwF g.z g.M H' a d → Q (.ref a) H') : Q (.ref A) H2 := by
  have hr : ¬ resB g.z A := fun h => s1.fresh hA (res_M h)
  have x2 : Ext g.z H1 H2 := fun c u e n => x c u (by rw [upd_ne (ne_of_none e hA)]; exact e) n (ne_of_none e hA)
  exact k _ A H2 q (x1.trans x2) (s1.ext x2 b) (x1.none_of hA fun h => hr h.res) (s1.fresh hA) (Ow.tr l (M' := fun b => g.M b ∨ b = A) (Tr.of fun b o n e => ⟨e, fun h => n (withD_M.mpr h)⟩) fun _ e => e)
section
variable {X : Cx} {kx vx tg iter tg1 iter1 : Expr} {ifs ifs1 : List Expr} {scope : Scope} {own : List (Str × Nat)} {pos : Pos} {is is1 vs1 : List Nat} {ti ti1 : TDI} {tgd tgd1 : TDG} {tt tt1 : TDT} {tk tv : TDE} {t : Bool}
/-- {k: v for x in it if c} -/
def dDc (t : Bool) (ti : TDI) (tgd : TDG) (tt : TDT) (tk tv : TDE) (vs : List Nat) : TDE := fun S Q => ti S fun ds => ds.length ≤ sizeLine ∧ wpMap (fun d k => tgd d (wipeS S vs) fun S2 => dcF t tt tk tv S2 k) ds fun rs => Q (.dic t false (dfold rs).1 (dfold rs).2)
theorem dc_imp {wi : TI} {vs : List Nat} (hw : WalkOk ti wi) (hv : ∀ j ∈ is, j ∈ vs) {σ : St} {H : Hp} {Q : VK} (h : lF (dDc t ti tgd tt tk tv vs) σ H Q) : tDc1 (dcO t) wi (lG is tgd) (lT tt) (lE tk) (lE tv) vs σ H Q := by
  obtain ⟨g, Qd, s, w, k⟩ := h
  refine hw g σ H _ _ s w fun ds J H1 w1 x1 s1 wk A hA => ?_
  have hr : ¬ resB g.z A := fun h => s1.fresh hA (res_M h)
  have h0 : g.H0 A = none := s1.keep.none_of hA fun h => hr h.res
  exact acc_gen (g := withD g A) (B := dcB A (lT tt) (lE tk) (lE tv)) (fB := dcF t tt tk tv) (rs0 := []) (Acc := dAcc (withD g A) t A) dAcc_nt (dAcc_ext hr) (s1.withD hA (dcO_no t)) (.inr rfl) h0 (wk.A hA) hv 1 (dcB_ok (g := withD g A) (.inr rfl) hr) (dcO_acc t) (by simpa using w1.1) w1.2
    fun H2 r x b l _ q => dc_end s1 x1 hA x b (by simpa using l) q k
theorem df_dc (hu : X.A.units + 1 < cLine) (t : Bool) (hi : DI X tg iter ti) (hN : X.N.Nodup) (ok : BlkOk X.N X.env.scope scope own) (hg : BlkA X scope fun Y => PG Y tg (lG is tgd)) (ht : BlkA X scope fun Y => PTs Y ifs (lT tt)) (hk : BlkA X scope fun Y => PE Y kx (lE tk)) (he : BlkA X scope fun Y => PE Y vx (lE tv))
    (hv : ∀ j ∈ is, j ∈ own.map (·.2) := by decide) (hc : X.calm = true := by rfl) (hs : ∀ x, foldedSetIterable iter X.env x = pure x := by intro _; rfl) : PE X (.DictComp kx vx [⟨tg, iter, ifs, 0⟩] scope pos) (lF (dDc t ti tgd tt tk tv (own.map (·.2)))) := by
  obtain ⟨wi, hpi, hw⟩ := hi
  exact PE.imp (pe_dc1 hu (dcO_emp t) hN hpi ok hg ht hk he hc hs) fun σ H Q h => dc_imp hw hv h
/-- two loops -/
def dcF2 (t : Bool) (B : Nat) (tt : TDT) (ti1 : TDI) (tgd1 : TDG) (tt1 : TDT) (tk tv : TDE) (vs1 : List Nat) : SS → (List D → Prop) → Prop := fun S2 Q => tt S2 fun b => if b = true then ti1 S2 fun es => es.length ≤ B ∧ wpMap (fun d k => tgd1 d (wipeS S2 vs1) fun S3 => dcF t tt1 tk tv S3 k) es Q else Q []
def dDc2 (t : Bool) (ti : TDI) (tgd : TDG) (tt : TDT) (ti1 : TDI) (tgd1 : TDG) (tt1 : TDT) (tk tv : TDE) (vs vs1 : List Nat) : TDE := fun S Q => ti S fun ds => ∃ B, ds.length * B ≤ sizeLine ∧ wpMap (fun d k => tgd d (wipeS S vs) fun S2 => dcF2 t B tt ti1 tgd1 tt1 tk tv vs1 S2 k) ds fun rs => Q (.dic t false (dfold rs).1 (dfold rs).2)
theorem dc2_imp {wi wi1 : TI} {vs : List Nat} (hw : WalkOk ti wi) (hw1 : WalkOk ti1 wi1) (hv : ∀ j ∈ is, j ∈ vs) (hv1 : ∀ j ∈ is1, j ∈ vs1) {σ : St} {H : Hp} {Q : VK} (h : lF (dDc2 t ti tgd tt ti1 tgd1 tt1 tk tv vs vs1) σ H Q) : tDc2 (dcO t) wi (lG is tgd) (lT tt) wi1 (lG is1 tgd1) (lT tt1) (lE tk) (lE tv) vs vs1 σ H Q := by
  obtain ⟨g, Qd, s, w, k⟩ := h
  refine hw g σ H _ _ s w fun ds J H1 ⟨c, w1, w2⟩ x1 s1 wk A hA => ?_
  have hr : ¬ resB g.z A := fun h => s1.fresh hA (res_M h)
  have h0 : g.H0 A = none := s1.keep.none_of hA fun h => hr h.res
  refine acc_gen (g := withD g A) (fB := dcF2 t c tt ti1 tgd1 tt1 tk tv vs1) (rs0 := []) (Acc := dAcc (withD g A) t A) dAcc_nt (dAcc_ext hr) (s1.withD hA (dcO_no t)) (.inr rfl) h0 (wk.A hA) hv c ?_ (dcO_acc t) (by simpa using w1) w2
    fun H2 r x b l _ q => dc_end s1 x1 hA x b (by simpa using l) q k
  intro S' σ' H' rs Qr Nx s' l hz w' kk
  refine ⟨_, _, s', w', fun b H3 w3 x3 s3 => ?_⟩
  have l3 := dAcc_ext (g := withD g A) hr _ _ _ l x3
  cases b with
  | false => exact kk H3 [] x3.A s3.bag (by simpa using l3) (by simp) w3
  | true =>
    refine hw1 _ σ' H3 _ _ s3 w3 fun es J1 H4 w4 x4 s4 wk4 => ?_
    have l4 := dAcc_ext (g := withD g A) hr _ _ _ l3 x4
    exact acc_gen (g := { withD g A with S := S' }) (B := dcB A (lT tt1) (lE tk) (lE tv)) (fB := dcF t tt1 tk tv) (Acc := dAcc (withD g A) t A) dAcc_nt (dAcc_ext (g := withD g A) hr) s4 (.inr rfl) h0 (wk4.A2 (.inl (.inr rfl))) hv1 1 (dcB_ok (g := { withD g A with S := S' }) (.inr rfl) hr) l4 (by omega) w4.2
      fun H5 r x5 b5 l5 hr5 q5 => kk H5 r ((x3.trans x4).A.trans x5) b5 l5 (by omega) q5
theorem df_dc2 (hu : X.A.units + 1 < cLine) (t : Bool) (hi : DI X tg iter ti) (hN : X.N.Nodup) (ok : BlkOk X.N X.env.scope scope own) (hvs1 : ∀ i ∈ vs1, i ∈ own.map (·.2)) (hg : BlkA X scope fun Y => PG Y tg (lG is tgd)) (ht : BlkA X scope fun Y => PTs Y ifs (lT tt)) (hi1 : ∃ wi1 : TI, (BlkA X scope fun Y => PI Y tg1 iter1 wi1) ∧ WalkOk ti1 wi1)
    (hg1 : BlkA X scope fun Y => PG Y tg1 (lG is1 tgd1)) (ht1 : BlkA X scope fun Y => PTs Y ifs1 (lT tt1)) (hk : BlkA X scope fun Y => PE Y kx (lE tk)) (he : BlkA X scope fun Y => PE Y vx (lE tv))
    (hv : ∀ j ∈ is, j ∈ own.map (·.2) := by decide) (hv1 : ∀ j ∈ is1, j ∈ vs1 := by decide) (hc : X.calm = true := by rfl) (hs : ∀ x, foldedSetIterable iter X.env x = pure x := by intro _; rfl) (hs1 : ∀ env x, foldedSetIterable iter1 env x = pure x := by intro _ _; rfl) :
    PE X (.DictComp kx vx [⟨tg, iter, ifs, 0⟩, ⟨tg1, iter1, ifs1, 0⟩] scope pos) (lF (dDc2 t ti tgd tt ti1 tgd1 tt1 tk tv (own.map (·.2)) vs1)) := by
  obtain ⟨wi, hpi, hw⟩ := hi
  obtain ⟨wi1, hpi1, hw1⟩ := hi1
  exact PE.imp (pe_dc2 hu (dcO_emp t) hN hpi ok hvs1 hg ht hpi1 hg1 ht1 hk he hc hs hs1) fun σ H Q h => dc2_imp hw hw1 hv hv1 h
end
end L2.DL
namespace L2.DL
open PySem PySem.Spec PyProof.Rows
end L2.DL
namespace L2.DL
open PySem PySem.Spec PyProof.Rows PySem.Calls
section
variable {prog : Program} {w : World} {K : Type} [DecidableEq K] {knd : HeapKind prog w K} {A : Around} {E : Value → Shared → Prop} {s : Shared}
inductive HitsH (prog : Program) (w : World) (A : Around) (s : Shared) (kb : List (K × Addr × Value)) : List (K × Addr × Value) → Bool → Prop
  | nil : HitsH prog w A s kb [] true
  | miss {x : K × Addr × Value} {r : List (K × Addr × Value)} : (∀ (j : Nat) p, kb[j]? ≠ some (x.1, p)) → HitsH prog w A s kb (x :: r) false
  | hit {x : K × Addr × Value} {r : List (K × Addr × Value)} {e b : Bool} (hs : ∃ (j : Nat) (p : Addr × Value), kb[j]? = some (x.1, p)) : (∀ (j : Nat) (p : Addr × Value), kb[j]? = some (x.1, p) → SeqAt.EqAt A s x.2.2 p.2 e) → HitsH prog w A s kb r b → HitsH prog w A s kb (x :: r) (e && b)
theorem HitsH.inv {kb : List (K × Addr × Value)} {x : K × Addr × Value} {r : List (K × Addr × Value)} {b : Bool} (h : HitsH prog w A s kb (x :: r) b) :
    ((∀ (j : Nat) p, kb[j]? ≠ some (x.1, p)) ∧ b = false) ∨ ∃ e b', (∃ (j : Nat) (p : Addr × Value), kb[j]? = some (x.1, p)) ∧ (∀ (j : Nat) (p : Addr × Value), kb[j]? = some (x.1, p) → SeqAt.EqAt A s x.2.2 p.2 e) ∧ HitsH prog w A s kb r b' ∧ b = (e && b') := by
  cases h with
  | miss hn => exact .inl ⟨hn, rfl⟩
  | hit hs he hr => exact .inr ⟨_, _, hs, he, hr, rfl⟩
theorem samePairsH {nm : String} {a b : Addr} {ka kb : List (K × Addr × Value)} {r : Bool} {Q : Bool → Shared → Prop} (hu : knd.room A) (ha : (a == sysModules) = false) (hb : (b == sysModules) = false)
    (da : s.heap.DictOfH knd a ka) (db : s.heap.DictOfH knd b kb) (hits : ka.length = kb.length → HitsH prog w A s kb ka r) (h : Q (ka.length == kb.length && r) s) :
    wpAny (model prog w) A (Builtin.Dict.samePairs nm a b) Q E s := by
  obtain ⟨oa, es, ep, hoa, _, hda, hea, hka, hna⟩ := da
  obtain ⟨ob, es', ep', hob, _, hdb, heb, hkb, hnb⟩ := db
  have hla : es.size = ka.length := size_of_entries hea
  have hlb : es'.size = kb.length := size_of_entries heb
  rw [← hla, ← hlb] at h
  unfold Builtin.Dict.samePairs Builtin.Dict.showsAll
  rw [if_neg (show ¬ (a == sysModules) = true by rw [ha]; exact Bool.false_ne_true), if_neg (show ¬ (b == sysModules) = true by rw [hb]; exact Bool.false_ne_true)]
  refine wpAny_bind (wpAny_pure (wpAny_bind (wpAny_pure ?_)))
  refine wpAny_bind (wpAny_dictEntries hoa hda ?_)
  dsimp only
  refine wpAny_bind (wpAny_dictEntries hob hdb ?_)
  by_cases hsz : es.size = es'.size
  case neg =>
    rw [if_pos (by simpa using hsz)]
    have hbf : (es.size == es'.size) = false := by simpa using hsz
    rw [hbf, Bool.false_and] at h
    exact wpAny_bind (wpAny_rule (wpAny_pure h))
  case pos =>
    have h' : Q r s := by simpa [hsz] using h
    have hits' := hits (by rw [← hla, ← hlb]; exact hsz)
    rw [if_neg (by rw [hsz]; simp)]
    refine wpAny_bind (wpAny_dictEpoch hoa hda ?_)
    refine wpAny_bind ?_
    rw [Std.Legacy.Range.forIn_eq_forIn_range']
    simp only [Std.Legacy.Range.size, Nat.sub_zero, Nat.add_sub_cancel, Nat.div_one]
    refine wpAny_forIn_list _
      (fun rest q s' => s' = s ∧ q = (none, ()) ∧ ∃ i, rest = List.range' i (es.size - i) ∧ i ≤ es.size ∧ HitsH prog w A s kb (ka.drop i) r)
      _ ?_ ?_ _ _ ⟨rfl, rfl, 0, by simp, Nat.zero_le _, hits'⟩
    · rintro x rest q s' ⟨rfl, rfl, i, hr, hi, hpre⟩
      have hlt : i < es.size := by
        rcases Nat.lt_or_ge i es.size with h | h
        · exact h
        · rw [Nat.sub_eq_zero_of_le h] at hr; simp at hr
      obtain ⟨rfl, hrest⟩ : x = i ∧ rest = List.range' (i + 1) (es.size - (i + 1)) := by
        have e : es.size - i = (es.size - (i + 1)) + 1 := by omega
        rw [e, List.range'_succ] at hr
        injection hr with h1 h2
        exact ⟨h1, h2⟩
      refine wpAny_bind (wpAny_dictEntries hoa hda ?_)
      have hlt' : x < ka.length := by rw [← hla]; exact hlt
      have hdrop : ka.drop x = ka[x] :: ka.drop (x + 1) := List.drop_eq_getElem_cons hlt'
      rw [entry_at hea x, List.getElem?_eq_getElem hlt']
      rw [hdrop] at hpre
      generalize hx : ka[x] = y at hpre
      have hmem : y ∈ ka := by rw [← hx]; exact List.getElem_mem hlt'
      show wpAny _ _ (holding [Value.ref y.2.1, y.2.2] _ >>= _) _ _ _
      refine wpAny_bind (wpAny_holding (wpAny_bind (wpAny_dictFind_heap (k := y.1) (a := y.2.1) hu (hka y hmem) hob hdb heb hkb hnb ?_ ?_)))
      · intro hno
        rcases hpre.inv with ⟨_, er⟩ | ⟨_, _, ⟨j, p, hj⟩, _⟩
        · rw [er] at h'
          refine wpAny_pure ?_
          show wpAny _ _ (if (!false) = true then _ else _) _ _ _
          rw [if_pos (by decide)]
          exact wpAny_pure (wpAny_pure h')
        · exact absurd hj (hno j p)
      · intro j p hj
        rcases hpre.inv with ⟨hn, _⟩ | ⟨e, b', _, he, hrr, er⟩
        · exact absurd hj (hn j p)
        · refine wpAny_bind (wpAny_dictEntries hob hdb ?_)
          rw [entry_at heb j, hj]
          refine wpAny_holding (he j p hj _ _ _ _ ?_)
          cases e with
          | false =>
            rw [er, Bool.false_and] at h'
            show wpAny _ _ (if (!false) = true then _ else _) _ _ _
            rw [if_pos (by decide)]
            exact wpAny_pure (wpAny_pure h')
          | true =>
            rw [Bool.true_and] at er
            rw [← er] at hrr
            show wpAny _ _ (if (!true) = true then _ else _) _ _ _
            rw [if_neg (by decide)]
            refine wpAny_bind (wpAny_dictEpoch hoa hda ?_)
            rw [if_neg (by simp)]
            exact wpAny_pure ⟨rfl, rfl, x + 1, hrest, hlt, hrr⟩
    · rintro q s' ⟨rfl, rfl, i, hr, hi, hpre⟩
      have hin : i = es.size := by
        rcases Nat.lt_or_ge i es.size with h | h
        · have e : es.size - i = (es.size - (i + 1)) + 1 := by omega
          rw [e, List.range'_succ] at hr; exact nomatch hr
        · exact Nat.le_antisymm hi h
      refine wpAny_pure ?_
      rw [hin, hla, List.drop_length] at hpre
      cases hpre
      exact h'
theorem rcH_dicts {a b : Addr} {ka kb : List (K × Addr × Value)} {r : Bool} (hk : knd.room A.in1) (ha : (a == sysModules) = false) (hb : (b == sysModules) = false)
    (da : s.heap.DictOfH knd a ka) (db : s.heap.DictOfH knd b kb) (hu : A.units < cLine) (hits : ka.length = kb.length → HitsH prog w A.in1 s kb ka r) (E Q : Value → Shared → Prop) (h : Q (.bool (ka.length == kb.length && r)) s) : wpAny (model prog w) A (richCompare .Eq (.ref a) (.ref b)) Q E s := by
  refine wpAny_richCompare_same_room (op := .Eq) da.typeIs db.typeIs PySem.F.slot_dict_eq (wpAny_call_entry PySem.F.slot_dict_eq da.typeIs PySem.F.entry_dict_eq ?_ (PySem.F.args_dict_eq_2 _ _)) hu
  show wpAny _ _ (Builtin.Dict.dictSlotArgs "__eq__" ⟨[.ref a, .ref b], []⟩ >>= _) _ _ s
  refine wpAny_bind ?_
  unfold Builtin.Dict.dictSlotArgs
  refine wpAny_bind (wpAny_notOrdered_dict da.typeIs ?_)
  show wpAny _ _ (pure (Value.ref a, Value.ref b)) _ _ s
  refine wpAny_pure ?_
  refine wpAny_bind (wpAny_isInstance (T := "dict") db.typeIs PySem.F.sub_dict_dict ?_)
  simp only [Bool.not_true, Bool.false_eq_true, if_false]
  refine wpAny_bind (wpAny_pure (wpAny_bind (wpAny_pure ?_)))
  refine wpAny_bind (samePairsH hk ha hb da db hits ?_)
  refine wpAny_pure ⟨_, rfl, ?_, ?_⟩
  · exact fun x => nomatch x
  · simpa using h
end
def dhits (ks' vs' : List D) : List D → List D → Bool
  | k :: ks, v :: vs => (match dgetD ks' vs' k with | none => false | some v' => deqv v v') && dhits ks' vs' ks vs
  | _, _ => true
def deqDic (ks vs ks' vs' : List D) : Bool := (ks.length == ks'.length) && dhits ks' vs' ks vs
def rEqDic : RD2
  | .dic true _ ks vs, .dic true _ ks' vs', Q => vs.all okD = true ∧ vs'.all okD = true ∧ Q (.bl (deqDic ks vs ks' vs'))
  | _, _, _ => False
section
variable {X : Cx}
theorem at_ex {κ : Type} [DecidableEq κ] {xs : List (κ × Addr × Value)} {k : κ} {p : Addr × Value} (h : atKey xs k = some p) : ∃ j : Nat, xs[j]? = some (k, p) := by
  unfold atKey at h
  cases q : xs.find? fun x => decide (x.1 = k) with
  | none => rw [q] at h; cases h
  | some y =>
    rw [q] at h
    have e : y.2 = p := Option.some.inj h
    have h1 := List.mem_of_find?_eq_some q
    have h2 : y.1 = k := by simpa using List.find?_some q
    obtain ⟨j, hj⟩ := List.getElem?_of_mem h1
    exact ⟨j, by rw [hj, ← e, ← h2]⟩
theorem hits_of {z : Bz} {M : MS} {H : Hp} {pins : List (Addr × Obj)} {σ : St} {s : Shared} {A : Around} (I : Inv X pins σ H s) (hu : A.in1.units + 64 < cLine) {kb : List (List Key × V)} {yb : List (List Key × Addr × Value)} {vb : List D}
    (tb : KT H kb yb) (nb : (yb.map (·.1)).Nodup) (rb : RpL z M H (kb.map fun p => p.2) vb) (ob : vb.all okD = true) :
    ∀ {ka : List (List Key × V)} {ya : List (List Key × Addr × Value)} {va : List D}, KT H ka ya → RpL z M H (ka.map fun p => p.2) va → va.all okD = true → HitsH X.prog X.w A.in1 s yb ya (dhits (kb.map fun p => tD p.1) vb (ka.map fun p => tD p.1) va) := by
  intro ka
  induction ka with
  | nil => intro ya va t r o; cases t; cases r; exact .nil
  | cons p ka ih =>
    intro ya va t r o
    obtain ⟨k, v⟩ := p
    cases t with
    | @cons _ q _ qs h t =>
      cases r with
      | @cons _ _ d va r rs =>
        obtain ⟨h1, _, h2⟩ := h
        rw [List.all_cons, Bool.and_eq_true] at o
        have hk : k = q.1 := h1
        have hf : ∀ c, kEq (tD c) (tD k) = decide (c = k) := fun c => kEq_tD c k
        have rv := tb.val k
        rw [List.map_cons, dhits]
        cases hg : dgetD (kb.map fun p => tD p.1) vb (tD k) with
        | none =>
          have hn : valV kb k = none := by
            have := dget_is hf rb
            rw [hg] at this
            simpa using this
          rw [hn] at rv
          refine .miss fun j p hj => ?_
          rw [← hk] at hj
          rw [atKey_of_get nb hj] at rv
          exact rv
        | some d' =>
          obtain ⟨v', hv', r'⟩ := dget_some hf rb hg
          rw [hv'] at rv
          cases ha : atKey yb k with
          | none => rw [ha] at rv; exact rv.elim
          | some p0 =>
            rw [ha] at rv
            have rv' : RelV v' p0.2 := rv
            have hd' : okD d' = true := by
              have : d' ∈ vb := by
                have mem : ∀ {ks vs : List D} {k d : D}, dgetD ks vs k = some d → d ∈ vs := by
                  intro ks
                  induction ks with
                  | nil => intro vs k d h; cases vs <;> cases h
                  | cons a ks ih =>
                    intro vs k d h
                    cases vs with
                    | nil => cases h
                    | cons b vs =>
                      unfold dgetD at h
                      split at h
                      · cases h; exact List.mem_cons_self ..
                      · exact List.mem_cons_of_mem _ (ih h)
                exact mem hg
              exact List.all_eq_true.mp ob _ this
            refine .hit (by obtain ⟨j, hj⟩ := at_ex ha; exact ⟨j, p0, by rw [← hk]; exact hj⟩) (fun j p hj => ?_) (ih t rs o.2)
            rw [← hk] at hj
            have : p = p0 := Option.some.inj ((atKey_of_get nb hj).symm.trans ha)
            subst this
            obtain ⟨as, r1⟩ := Dp.reads I _ v q.2.2 (r.dp (K := X.K) (okD.plain o.1)) h2
            obtain ⟨bs, r2⟩ := Dp.reads I _ v' p.2 (r'.dp (K := X.K) (okD.plain hd')) rv'
            exact PySem.W.keq_at r1 r2 (okD.shaped o.1) (okD.shaped hd') hu
/-- both are dicts with tuples as keys -/
def rEqT (K : PySem.W.Frag) : R2 := fun x y H Q => ∃ (z : Bz) (M : MS) (a b : Addr) (ka kb : List (List Key × V)) (va vb : List D), x = .ref a ∧ y = .ref b ∧ Rd H a (.dT ka) ∧ Rd H b (.dT kb) ∧ RpL z M H (ka.map fun p => p.2) va ∧ RpL z M H (kb.map fun p => p.2) vb ∧ va.all okD = true ∧ vb.all okD = true ∧
  Q (.bl (deqDic (ka.map fun p => tD p.1) va (kb.map fun p => tD p.1) vb)) H
theorem op_eqT (hu : X.A.units + 66 < cLine) : OpR X (compareOp .Eq) (rEqT X.K) := by
  intro pins s σ H x y v u Q I rx ry h
  obtain ⟨z, M, a, b, ka, kb, va, vb, rfl, rfl, ha, hb, ra, rb, oa, ob, q⟩ := h
  obtain rfl : v = Value.ref a := rx
  obtain rfl : u = Value.ref b := ry
  obtain ⟨_, sa, xa, ta, da⟩ := dt_rd I.hok ha
  obtain ⟨_, sb, xb, tb, db⟩ := dt_rd I.hok hb
  have l1 : xa.length = ka.length := (Paired.length ta).symm
  have l2 : xb.length = kb.length := (Paired.length tb).symm
  refine rcH_dicts (A := X.A) (tupleKind_room_in1 (by omega)) sa sb da db (by omega) (fun _ => hits_of I (by show X.A.units + 1 + 64 < cLine; omega) tb (by obtain ⟨_, _, _, _, _, _, _, _, hn⟩ := db; exact hn) rb ob ta ra oa) _ _ ⟨.bl _, H, I, rfl, ?_⟩
  have e : (xa.length == xb.length && dhits (kb.map fun p => tD p.1) vb (ka.map fun p => tD p.1) va) = deqDic (ka.map fun p => tD p.1) va (kb.map fun p => tD p.1) vb := by
    unfold deqDic
    rw [List.length_map, List.length_map, l1, l2]
  rw [e]
  exact q
theorem real_eqT {K : PySem.W.Frag} : Real2 (rEqT K) rEqDic := by
  intro g σ H x y d e Qd Q s hx hy w k
  cases d <;> try (exact w.elim)
  rename_i t lk ks vs
  cases t <;> try (exact w.elim)
  cases e <;> try (exact w.elim)
  rename_i t lk' ks' vs'
  cases t <;> try (exact w.elim)
  obtain ⟨a, rfl, ⟨_, h, _⟩ | ⟨ka, _, ha, rfl, ra⟩⟩ := hx.dic
  · cases h
  obtain ⟨b, rfl, ⟨_, h, _⟩ | ⟨kb, _, hb, rfl, rb⟩⟩ := hy.dic
  · cases h
  exact ⟨g.z, g.M, a, b, ka, kb, vs, vs', rfl, rfl, ha.rd, hb.rd, ra, rb, w.1, w.2.1, k.here s w.2.2 (.bl _)⟩
variable {a b : Expr} {ta tb : TDE} {pos : Pos}
theorem de_eqDic (hu : X.A.units + 66 < cLine) (ha : PE X a (lP ta)) (hb : PE X b (lP tb)) : PE X (.Compare a [.Eq] [b] pos) (lE (d2 rEqDic ta tb)) := de_cmp (op_eqT hu) real_eqT ha hb
end
end L2.DL
namespace L2.DL
open PySem PySem.Spec PyProof.Rows
theorem u1 {k : Nat} {A : Around} (hr : Room k A) : A.units + 1 < cLine := by have := hr.un; omega
theorem u66 {k : Nat} {A : Around} (hr : Room k A) : A.units + 66 < cLine := by have := hr.un; omega
section
variable {X : Cx} {e e' : Expr} {i : Nat} {ta : TDA} {pos : Pos}
/-- xs.insert(k, y), xs owned -/
def dsIns (i : Nat) (ta : TDA) : TDS := fun De S => ∃ ds, S[i]? = some (.own (.lst ds)) ∧ ta S fun as => ∃ (k : Int) (y : D), as = [.int k, y] ∧ 0 ≤ k ∧ k < 2 ^ 63 ∧ ds.length < sizeLine ∧ De.nx (S.set i (.own (.lst (ds.take k.toNat ++ [y] ++ ds.drop k.toNat))))
theorem ds_ins {o : Expr} {ap cp : Pos} (ho : PE X o (tVar i)) (ha : PA X [e, e'] (lA ta))
    (hbase : attributeBase o "insert" X.env (eval o X.env) = eval o X.env := by rfl)
    (hfew : ((backTo cp (starEach [e, e'] X.env)).all (fun x => !x.1) && (backToKw cp (keywordEach [] X.env)).all (fun x => x.1.isSome)
      && decide ([e, e'].length + ([] : List Keyword).length + (if ([] : List Keyword).isEmpty then 0 else 1) < 30)) = true := by rfl)
    (hline : (ap.endLine == cp.line) = true := by rfl) (hs : starEach [e, e'] X.env = (false, eval e X.env) :: starEach [e'] X.env := by rfl) (hpl : (backTo cp (starEach [e'] X.env)).any (·.1) = false := by rfl)
    (hsw : swapsWith (.Call (.Attribute o "insert" ap) [e, e'] [] cp) none pos.line X.env = pure false := by rfl) :
    PS X (.Expr (.Call (.Attribute o "insert" ap) [e, e'] [] cp) pos) (lS (dsIns i ta)) :=
  PS.imp (ps_expr (pe_bm PySem.F.plainAttrs_list PySem.F.slot_list_insert PySem.F.type_list_insert mt_insert ho ha hbase hfew hline hs hpl) hsw) fun D σ H ⟨g, De, s, ⟨ds, e1, w⟩, l⟩ => by
    obtain ⟨a, ea, eo, o⟩ := s.own i _ e1
    cases o with
    | lst h1 l1 =>
      refine ⟨.ref a, ea, .inl ⟨rfl, _, .of h1⟩, g, _, s, w, fun as vs H1 w1 x1 s1 r1 => ?_⟩
      obtain ⟨k, y, rfl, k0, k1, hz, q⟩ := w1
      rcases r1 with _ | ⟨r1, r2⟩
      rcases r2 with _ | ⟨r2, r3⟩
      cases r3
      cases r1
      obtain ⟨a', ea', eo', o'⟩ := s1.own i _ e1
      rw [ea] at ea'
      cases ea'
      cases o' with
      | lst h2 l2 =>
        refine ⟨a, _, k, _, rfl, rfl, h2, by rw [l2.length]; exact hz, k0, k1, ?_⟩
        exact l.nx g.ow _ σ _ (s1.mutate e1 ea (.inr rfl) (.lst upd_same ((((l2.take k.toNat).append (.one r2)).append (l2.drop k.toNat)).tr (tr_mut (.inr (.inr ⟨i, eo⟩)) _)))) q
/-- len of a dict -/
def rLenDic : RDC
  | [.dic _ _ ks _], Q => Q (.int ks.length)
  | _, _ => False
end
end L2.DL
namespace L2.DL
open PySem PySem.Spec PyProof.Rows
inductive Src where
  | txt (x : Str)
  | lst (a : Addr)
  | tup (a : Addr)
def Src.has (K : PySem.W.Frag) : Src → Hp → List V → Prop
  | .txt x, _, xs => xs = x.cps.toList.map fun c => V.str ⟨#[c]⟩
  | .lst a, H, xs => SqL K H a xs
  | .tup a, H, xs => SqT K H a xs
def Src.val : Src → V
  | .txt x => .str x
  | .lst a => .ref a
  | .tup a => .ref a
def Src.it (s : Src) (t : Tok) (it : Addr) (i : Nat) (h : Heap) : Prop := match s with
  | .txt x => h.IsStrIter it (strIterType x) x t i
  | .lst a => h.IsListIter it a i
  | .tup a => h.IsTupleIter it a i
inductive SrcR (g : Gh) (H1 : Hp) : Src → List V → List D → Prop
  | txt (l : List Nat) : SrcR g H1 (.txt (S2 l)) (l.map fun c => .str ⟨#[c]⟩) (l.map fun c => .str [c])
  | lst {a : Addr} {xs : List V} {ds : List D} : H1 a = some (.lst xs) → ¬ g.M a → RpL g.z g.M H1 xs ds → SrcR g H1 (.lst a) xs ds
  | tup {a : Addr} {xs : List V} {ds : List D} : H1 a = some (.tup xs) → ¬ g.M a → RpL g.z g.M H1 xs ds → SrcR g H1 (.tup a) xs ds
theorem rpL_chars {z : Bz} {M : MS} {H : Hp} : ∀ l : List Nat, RpL z M H (l.map fun c => .str ⟨#[c]⟩) (l.map fun c => .str [c])
  | [] => .nil
  | c :: l => .cons (.str [c]) (rpL_chars l)
theorem SrcR.rp {g : Gh} {H1 : Hp} {s : Src} {xs : List V} {ds : List D} (r : SrcR g H1 s xs ds) : RpL g.z g.M H1 xs ds := by
  cases r with
  | txt l => exact rpL_chars l
  | lst e n l => exact l
  | tup e n l => exact l
theorem SrcR.has {g : Gh} {H1 H' : Hp} {K : PySem.W.Frag} {s : Src} {xs : List V} {ds : List D} (r : SrcR g H1 s xs ds) (h : Lat g H1 H') : s.has K H' xs := by
  cases r with
  | txt l => rfl
  | lst e n l => exact (.of (h _ _ n e))
  | tup e n l => exact (.of (h _ _ n e))
end L2.DL
namespace L2.DL
open PySem PySem.Spec PyProof.Rows
end L2.DL
namespace L2.DL
open PySem PySem.Spec PyProof.Rows
theorem rpL_ints {z : Bz} {M : MS} {H : Hp} {α : Type} (f : α → Int) : ∀ L : List α, RpL z M H (L.map fun i => V.int (f i)) (L.map fun i => D.int (f i))
  | [] => .nil
  | _ :: L => .cons (.int _) (rpL_ints f L)
section
variable {X : Cx} {a : Expr} {ta : TDE} {p p2 pos pos2 : Pos}
def dLRg (ta : TDE) : TDE := fun S Q => ta S fun d => ∃ n : Int, d = .int n ∧ n ≤ 16777216 ∧ -(2 ^ 62) ≤ n ∧ Q (.lst ((List.range n.toNat).map fun i : Nat => .int (0 + (i : Int))))
theorem df_listRange (hm : X.mg "list" = none) (hm2 : X.mg "range" = none) (ha : PE X a (lP ta)) (hc : X.calm = true := by rfl) (hg : Gl X "list" := by rfl) (hg2 : Gl X "range" := by rfl) (na : starEach [a] X.env = (false, eval a X.env) :: starEach [] X.env := by rfl)
    (nb : starEach [(.Call (.Name "range" p2) [a] [] pos2 : Expr)] X.env = (false, eval (.Call (.Name "range" p2) [a] [] pos2) X.env) :: starEach [] X.env := by rfl) :
    PE X (.Call (.Name "list" p) [.Call (.Name "range" p2) [a] [] pos2] [] pos) (lF (dLRg ta)) :=
  PE.imp (pe_listRg hc hg hm (prg_1 hg2 hm2 ha na) nb) fun σ H Q ⟨g, Qd, s, w, kk⟩ => ⟨g, _, s, w, fun d v H1 w1 x1 s1 r1 => by
    obtain ⟨n, rfl, b1, b2, q⟩ := w1
    have := r1.int
    subst this
    refine ⟨n, rfl, ⟨by decide, by decide, by omega, by omega, by omega⟩, fun y hy => kk _ y _ q (x1.trans (.new hy)) (s1.alloc hy) (x1.none_of hy fun h => s1.fresh hy (res_M h.res)) (s1.fresh hy) (.lst upd_same ?_)⟩
    unfold rgV
    rw [Int.sub_zero]
    exact rpL_ints (fun i : Nat => (0 : Int) + i) _⟩
end
end L2.DL
namespace L2.DL
open PySem PySem.Spec PyProof.Rows
abbrev TDX := List D → (D → Prop) → (XD → Prop) → Prop
def noRaise : XD → Prop := fun _ => False
theorem XLink.no {z : Bz} {M : MS} {H : Hp} : XLink z M H (fun _ _ _ => False) noRaise := fun _ _ _ h => h.elim
section
variable {X : Cx} {e o : Expr} {es : List Expr} {x m : Str} {p pos apos : Pos} {ts : TDA} {to : TDE} {k n j : Nat} {f C : Addr} {fd : FuncData} {ps : List Str} {dvs : List V} {dds : List D} {tf : TDX} {E : XK}
def dFnX (j : Nat) (E : XK) (tf : TDX) (dds : List D) (ts : TDA) : TDE := fun S Q => ts S fun ds => ∃ Ed, S[j]? = some (.ex E Ed) ∧ tf (ds ++ dds) Q Ed
def dMethX (j : Nat) (E : XK) (C : Addr) (m : Str) (tf : TDX) (dds : List D) (to : TDE) (ts : TDA) : TDE := fun S Q => to S fun d => ∃ ns vs, d = .ins C ns vs ∧ m ∉ ns ∧ ts S fun ds => ∃ Ed, S[j]? = some (.ex E Ed) ∧ tf (d :: (ds ++ dds)) Q Ed
end
end L2.DL
namespace L2.DL
open PySem PySem.Spec PyProof.Rows
section
variable {X : Cx} {e : Expr} {es : List Expr} {x : Str} {p pos pos' : Pos} {ts : TDA} {k j : Nat} {fI C : Addr} {fd : FuncData} {ps : List Str} {E : XK} {names : List Str} {code : List Nat}
def xdE (C : Addr) (names : List Str) (code : List Nat) (ds : List D) : XD := ⟨C, names.reverse ++ [("code" : Str)], ds.reverse ++ [.str code]⟩
def dsRaise (j : Nat) (E : XK) (C : Addr) (names : List Str) (code : List Nat) (ts : TDA) : TDS := fun De S => ts S fun ds => ds.length = names.length ∧ ∃ Ed, S[j]? = some (.ex E Ed) ∧ Ed (xdE C names code ds)
end
end L2.DL
namespace L2.DL
open PySem PySem.Spec PyProof.Rows
section
variable {X : Cx} {e : Expr} {es : List Expr} {x : Str} {p pos : Pos} {ts tk : TDA} {k n m j i : Nat} {f C : Addr} {fd : FuncData} {ps ks : List Str} {dvs : List V} {dds : List D} {tf : TDX} {E : XK} {kws : List Keyword} {perm : List Nat}
def dFnKX (j : Nat) (E : XK) (n m : Nat) (perm : List Nat) (tf : TDX) (ts tk : TDA) : TDE := fun S Q => ts S fun ds => tk S fun es => ds.length = n ∧ es.length = m ∧ ∃ Ed, S[j]? = some (.ex E Ed) ∧ tf (permL perm (ds ++ es)) Q Ed
end
end L2.DL
namespace L2.DL
open PySem PySem.Spec PyProof.Rows
end L2.DL
namespace L2.DL
open PySem PySem.Spec PyProof.Rows
def wipeO : Sl → Sl
  | .val d => .val d
  | _ => .no
/-- what a lambda sees of the slots; jx: the wish about exceptions -/
def lamS (S : SS) (jx : Nat) (E : XK) (Ed : XD → Prop) : SS := (S.map wipeO).set jx (.ex E Ed)
end L2.DL
namespace L2.DL
open PySem PySem.Spec PyProof.Rows
/-- its names: own ones that the maker has not, captured ones, globals -/
structure LamS3 (N : List Str) (sc scope : Scope) : Prop where
  kind : scope.kind = .function
  co : scope.isCoroutine = false
  gen : scope.isGenerator = false
  own : ∀ y ∈ scope.names, y.2 ≠ .cell
  loc : ∀ y ∈ scope.names, y.2 = .local → y.1 ∉ N
  free : ∀ y ∈ scope.names, y.2 = .free → sc.names.lookup y.1 = some .cell ∨ sc.names.lookup y.1 = some .free
theorem LamS3.has {X : Cx} {scope : Scope} (L : LamS3 X.N X.env.scope scope) (ok : X.Ok) : ∀ y ∈ scope.names, y.2 = .free → ∃ c, X.env.cells.lookup y.1 = some c := fun y hy e => by
  rcases L.free y hy e with k | k
  · exact ok.has _ (.inl k)
  · exact ok.has _ (.inr k)
end L2.DL
namespace L2.DL
open PySem PySem.Spec PyProof.Rows
end L2.DL
namespace L2.DL
open PySem PySem.Spec PyProof.Rows
theorem BagOk.xd {z : Bz} {H : Hp} {dd : Addr} {fs : List (Str × V)} (b : BagOk z H) (e : H dd = some (.xd fs)) : ¬ isB z dd := fun q => by
  rcases q with ⟨l, q⟩ | q
  · obtain ⟨_, _, _, _, _, _, e1, _⟩ := b.bg dd l q
    rw [e] at e1
    cases e1
  · obtain ⟨ps, e1, _⟩ := b.tb dd q
    rw [e] at e1
    cases e1
abbrev SpW := Addr → Value → Option Addr → List V → Hp → VK → XK → Prop
structure FnW (P : Program) (w : World) (K : PySem.W.Frag) (mg : Str → Option Value) (base : Heap) (CX : CXT) (k : Nat) (f : Addr) (fd : FuncData) (ps : List Str) (sp : SpW) : Prop where
  len : ∀ a cls d vs H Q E, sp a cls d vs H Q E → vs.length = ps.length
  run : ∀ (A : Around) (outer : List Env) (s : Shared) (H : Hp) (args : Args) (us : List Value) (vs : List V) (Q : VK) (E : XK) (p : Addr × Obj) (cls : Value) (d : Option Addr), Zc cls d p.2 → (∃ vs, p.2.data = .fields vs) → L2H.RoomH k A → L2H.PinOk outer H s p → Env0 P w K mg base A outer s H → BindsTo s fd args (ps.zip us) → Vals vs us → sp p.1 cls d vs H Q E →
    codeAny (model P w) A (.call (.ref f) args) (CR CX outer P w H s Q E) s
end L2.DL
namespace L2.DL
open PySem PySem.Spec PyProof.Rows
end L2.DL
namespace L2.DL
open PySem PySem.Spec PyProof.Rows
end L2.DL
namespace L2.DL
open PySem PySem.Spec PyProof.Rows
end L2.DL
namespace L2.DL
open PySem PySem.Spec PyProof.Rows
end L2.DL
namespace L2.DL
open PySem PySem.Spec PyProof.Rows
end L2.DL
namespace L2.DL
open PySem PySem.Spec PyProof.Rows
end L2.DL
namespace L2.DL
open PySem PySem.Spec PyProof.Rows
end L2.DL
namespace L2.DL
open PySem PySem.Spec PyProof.Rows
theorem FnW.mono {P : Program} {w : World} {K : PySem.W.Frag} {mg : Str → Option Value} {base : Heap} {CX : CXT} {j k : Nat} {f : Addr} {fd : FuncData} {ps : List Str} {sp : SpW} (F : FnW P w K mg base CX j f fd ps sp) (h : j ≤ k) : FnW P w K mg base CX k f fd ps sp :=
  ⟨F.len, fun A outer s H args us vs Q E p cls d hz hfl hr => F.run A outer s H args us vs Q E p cls d hz hfl (hr.mono h)⟩
end L2.DL
namespace L2.DL
open PySem PySem.Spec PyProof.Rows
end L2.DL
namespace L2.DL
open PySem PySem.Spec PyProof.Rows
section
variable {X : Cx} {es : List Expr} {is : List Nat} {pos : Pos}
def dgLst (n : Nat) (t : TDGs) : TDG := fun d S Q => ∃ ds, d = .lst ds ∧ ds.length = n ∧ t ds S Q
end
end L2.DL
namespace L2.DL
open PySem PySem.Spec PyProof.Rows
end L2.DL
namespace L2.DL
open PySem PySem.Spec PyProof.Rows
end L2.DL
namespace L2.DL
open PySem PySem.Spec PyProof.Rows
end L2.DL
namespace L2.DL
open PySem PySem.Spec PyProof.Rows
end L2.DL
namespace L2.DL
open PySem PySem.Spec PyProof.Rows
section
variable {X : Cx} {o e : Expr} {ta : TDE} {ts : TDA} {apos cp : Pos}
def dIndex (ta : TDE) (ts : TDA) : TDE := fun S Q => ta S fun d => ∃ ds, d = .lst ds ∧ ts S fun as => ∃ e, as = [e] ∧ okD (.lst ds) = true ∧ okD e = true ∧ ∃ (j : Nat) (z : D), ds[j]? = some z ∧ deqv z e = true ∧ (∀ m z', m < j → ds[m]? = some z' → deqv z' e = false) ∧ Q (.int j)
end
end L2.DL
namespace L2.DL
open PySem PySem.Spec PyProof.Rows
end L2.DL
namespace L2.DL
open PySem PySem.Spec PyProof.Rows
def MB (g : Gh) : MS := fun a => g.M0 a ∨ resB g.z a
theorem MB_sub {g : Gh} {a : Addr} (h : MB g a) : g.M a := h.elim .inl fun q => .inr (.inl q)
theorem Pk.borrow {g : Gh} {H : Hp} {v : V} {d : D} (h : Pk g H v d) : Rp g.z (MB g) H v d := by
  rcases h with h | ⟨a, rfl, m, n, o⟩
  · exact h.tr (Tr.of fun a o n e => ⟨e, fun q => n (MB_sub q)⟩)
  · exact o.rp (Tr.of fun a o n e => ⟨e, fun q => n (MB_sub q)⟩) fun q => q.elim n.1 n.2
theorem PkL.borrow {g : Gh} {H : Hp} : ∀ {vs : List V} {ds : List D}, PkL g H vs ds → RpL g.z (MB g) H vs ds
  | _, _, .nil => .nil
  | _, _, .cons a b => .cons a.borrow (PkL.borrow b)
theorem flat_back {z : Bz} {M M' : MS} {H : Hp} {v : V} {d : D} (h : Rp z M H v d) (f : flatD d = true) : Rp z M' H v d := by
  cases h <;> first | (cases f; done) | constructor
section
variable {X : Cx} {e o a b : Expr} {es : List Expr} {te to : TDE} {ts : TDA} {C f : Addr} {x m : Str} {pos p apos : Pos} {n k : Nat} {fd : FuncData} {ps : List Str} {tf : TDF} {dvs : List V} {dds : List D}
def dFnB (tf : TDF) (dds : List D) (ts : TDA) : TDE := fun S Q => ts S fun ds => tf (ds ++ dds) fun d => flatD d = true ∧ Q d
theorem df_meth (ho : PE X o (lE to)) (hc : Cls X.K C) (hm : Meth X.K C m f) (F : FnOk X.prog X.w X.K X.mg X.base CX0 k f fd ps (spF n tf)) (hr : Room k X.A) (hb : ∃ dsv, Vals dvs dsv ∧ Binds X.K fd ps dsv) (hdd : ∀ z M H, RpL z M H dvs dds) (ha : PA X (e :: es) (lA ts)) (hn : ∀ ds Q, tf ds Q → ds.length = n) {pl : Sem Bool}
    (he : starEach (e :: es) X.env = (false, eval e X.env) :: starEach es X.env := by rfl) (hpl : (backTo pos (starEach es X.env)).any (·.1) = false := by rfl)
    (hev : eval (.Call (.Attribute o m apos) (e :: es) [] pos) X.env = (do let ov ← eval o X.env; standAt apos.atName; let fs ← holding [ov] (getMethod ov m pl); callWith pos fs.1 fs.2 (backTo pos (starEach (e :: es) X.env)) (backToKw pos (keywordEach [] X.env))) := by rfl) :
    PE X (.Call (.Attribute o m apos) (e :: es) [] pos) (lF (dMeth C m tf dds to ts)) := by
  obtain ⟨dsv, hd, hb⟩ := hb
  exact PE.imp (pe_meth ho hc hm F hr hb hd pass0 ha he hpl hev) fun σ H Q ⟨g, Qd, s, w, kk⟩ =>
    ⟨g, _, s, w, fun d v H1 w1 x1 s1 r1 => by
      obtain ⟨ns, vs, rfl, hmn, w2⟩ := w1
      obtain ⟨a, dx, fs, rfl, h, _, hno⟩ := Pk.ins (.inl r1)
      refine ⟨a, dx, fs, rfl, h, hno m hmn, g, _, s1, w2, fun ds us H2 w3 x2 s2 r2 => ?_⟩
      have r3 : RpL g.z g.M H2 (.ref a :: (us ++ dvs)) (.ins C ns vs :: (ds ++ dds)) := .cons (r1.ext x2) (r2.append (hdd g.z g.M H2))
      exact ⟨by rw [r3.length]; exact hn _ _ w3, g.z, g.M, _, Qd, s2.amb, r3, w3, fun d a H' q x b hn nm o => kk d a H' q ((x1.trans x2).trans x) (s2.ext x b) ((x1.trans x2).none_of hn fun h => nm (res_M h.res)) nm o⟩⟩
variable {tk tv : TDE} {v : Expr}
/-- {k: v} -/
def dDisp1 (tk tv : TDE) : TDE := fun S Q => tk S fun k => tv S fun v => (keyD k).isSome = true ∧ Q (.dic false false [k] [v])
end
end L2.DL
namespace L2.DL
open PySem PySem.Spec PyProof.Rows
end L2.DL
namespace L2.DL
open PySem PySem.Spec PyProof.Rows
section
variable {X : Cx} {e : Expr} {ts : TDA} {p pos tpos : Pos} {elts : List Expr} {kk : Nat}
def diEnumG (ts : TDA) : TDI := fun S Q => ts S fun ds => ∃ a xs, ds = [a] ∧ itemsD a = some xs ∧ Q (enumD 0 xs)
variable {a : Expr} {ta : TDE}
end
end L2.DL
namespace L2.DL
open PySem PySem.Spec PyProof.Rows
end L2.DL
namespace L2.DL
open PySem PySem.Spec PyProof.Rows
end L2.DL
namespace L2.DL
open PySem PySem.Spec PyProof.Rows
def hdK : D → Nat
  | .non => 0
  | .bl _ => 1
  | .int _ => 2
  | .str _ => 3
  | .lst _ => 4
  | .tup _ => 5
  | _ => 9
theorem Rp.hd {z : Bz} {M : MS} {H : Hp} {v : V} {d : D} (h : Rp z M H v d) (hk : hdK d ≠ 9) : (hdK d = 0 ∧ v = .non) ∨ (hdK d = 1 ∧ ∃ b, v = .bl b) ∨ (hdK d = 2 ∧ ∃ i, v = .int i) ∨ (hdK d = 3 ∧ ∃ x, v = .str x) ∨ (hdK d = 4 ∧ ∃ a xs, v = .ref a ∧ H a = some (.lst xs)) ∨ (hdK d = 5 ∧ ∃ a xs, v = .ref a ∧ H a = some (.tup xs)) := by
  cases h with
  | non => exact .inl ⟨rfl, rfl⟩
  | bl b => exact .inr (.inl ⟨rfl, _, rfl⟩)
  | int b => exact .inr (.inr (.inl ⟨rfl, _, rfl⟩))
  | str b => exact .inr (.inr (.inr (.inl ⟨rfl, _, rfl⟩)))
  | lst r _ _ => exact .inr (.inr (.inr (.inr (.inl ⟨rfl, _, _, rfl, r⟩))))
  | tup r _ _ => exact .inr (.inr (.inr (.inr (.inr ⟨rfl, _, _, rfl, r⟩))))
  | _ => exact absurd rfl hk
theorem LkD.ne {lk : Bool} {H : Hp} {a b : Addr} {u : HO} {xs : List V} (h : LkD lk H a u) (hb : H b = some (.lst xs)) (hu : isDic u = true) : a ≠ b := by
  rintro rfl
  cases lk
  · have : H a = some u := h
    rw [hb] at this
    cases this
    cases hu
  · obtain ⟨o, e⟩ := h
    rw [hb] at e
    cases e
def Pm (g : Gh) (i : Nat) (H : Hp) (v : V) (d : D) : Prop := Rp g.z g.M H v d ∨ ∃ a, v = .ref a ∧ g.ow i = some a ∧ g.S[i]? = some (.own d) ∧ Ow g.z g.M H a d
inductive PmL (g : Gh) (i : Nat) (H : Hp) : List V → List D → Prop
  | nil : PmL g i H [] []
  | cons {v : V} {vs : List V} {d : D} {ds : List D} : Pm g i H v d → PmL g i H vs ds → PmL g i H (v :: vs) (d :: ds)
theorem Stt.pm {g : Gh} {σ : St} {H H' : Hp} {i : Nat} {v : V} {d : D} (h : Pm g i H v d) (x : Ext g.z H H') (s : Stt g σ H') : Pm g i H' v d := by
  rcases h with h | ⟨a, e, m, w, o⟩
  · exact .inl (h.ext x)
  · obtain ⟨a', _, e2, o2⟩ := s.own i d w
    rw [m] at e2
    cases e2
    exact .inr ⟨a, e, m, w, o2⟩
theorem PmL.ext {g : Gh} {σ : St} {i : Nat} {H H' : Hp} (x : Ext g.z H H') (s : Stt g σ H') : ∀ {vs : List V} {ds : List D}, PmL g i H vs ds → PmL g i H' vs ds
  | _, _, .nil => .nil
  | _, _, .cons r l => .cons (Stt.pm r x s) (l.ext x s)
end L2.DL
namespace L2.DL
open PySem PySem.Spec PyProof.Rows
section
variable {X : Cx} {k n i : Nat} {C p g : Addr} {f : Str} {fd : FuncData} {ps : List Str} {o e a b : Expr} {te to ti ta : TDE} {tf : TDF} {dvs : List V} {dds : List D} {pos spos : Pos}
def dProp (C : Addr) (tf : TDF) (to : TDE) : TDE := fun S Q => to S fun d => ∃ ns vs, d = .ins C ns vs ∧ tf [d] Q
/-- x[k] = e, x a name that owns a list -/
def dsSetI (i : Nat) (ti te : TDE) : TDS := fun De S => te S fun d => ∃ dl, S[i]? = some (.own (.lst dl)) ∧ ti S fun ix => ∃ k j, ix = .int k ∧ ixN dl.length k = some j ∧ De.nx (S.set i (.own (.lst (dl.set j d))))
theorem ds_setI (ho : PE X o (tVar i)) (hi : PE X a (lE ti)) (he : PE X e (lE te)) (hs : swapsWithSole [.Subscript o a spos] e pos.line X.env = pure false := by rfl) (hw : swappedStores [.Subscript o a spos] e X.env = pure none := by rfl) (h1 : (assignEach [.Subscript o a spos] X.env).map (·.2) = [assign (.Subscript o a spos) X.env] := by rfl)
    (hax : ∀ v, assign (.Subscript o a spos) X.env v = (do
      let ov ← holding [v] (eval o X.env)
      let iv ← holding [v, ov] (eval a X.env)
      standAt spos
      holding [v, ov, iv] (setItem ov iv v)
      release [v, ov, iv] []) := by intro _; rfl) :
    PS X (.Assign [.Subscript o a spos] e pos) (lS (dsSetI i ti te)) :=
  PS.imp (ps_asg he (pg_sub ho hi set_list hax) hs hw h1) fun D σ H ⟨g, De, s, w, l⟩ => by
    refine ⟨g, _, s, w, fun d v H1 w1 x1 s1 r1 => ?_⟩
    obtain ⟨dl, e1, w1⟩ := w1
    obtain ⟨y, ea, eo, oo⟩ := s1.own i _ e1
    refine ⟨.ref y, ea, g, _, s1, w1, fun ix u H2 w2 x2 s2 r2 => ?_⟩
    obtain ⟨k, j, rfl, hj, w2⟩ := w2
    cases r2
    obtain ⟨y', ea', eo', o2⟩ := s2.own i _ e1
    rw [ea] at ea'
    cases ea'
    cases o2 with
    | lst h2 l2 =>
      refine ⟨y, _, k, j, rfl, rfl, h2, by rw [l2.length]; exact hj, ?_⟩
      exact l.nx g.ow _ σ _ (s2.mutate e1 ea (.inr rfl) (.lst upd_same ((l2.set j (r1.ext x2)).tr (tr_mut (.inr (.inr ⟨i, eo⟩)) _)))) w2
def rIsBD : RD2 := fun d e Q => ∃ x y, d = .bl x ∧ e = .bl y ∧ Q (.bl (decide (x = y)))
def rNotBD : RD2 := fun d e Q => ∃ x y, d = .bl x ∧ e = .bl y ∧ Q (.bl (!decide (x = y)))
end
end L2.DL
namespace L2.DL
open PySem PySem.Spec PyProof.Rows
section
variable {X : Cx} {i : Nat} {x : Str} {pos pos' ip : Pos} {c a b : Expr} {tt : TDT} {ta tb te to : TDE}
def dsAppF (to te : TDE) : TDS := fun De S => to S fun d => ∃ ds, d = .lst ds ∧ te S fun _ => ds.length < sizeLine ∧ De.nx S
end
section
variable {X : Cx} {CX : CXT} {k n N i j : Nat} {C f : Addr} {fd : FuncData} {ps ks : List Str} {sp : Sp} {E : XK} {o e : Expr} {es : List Expr} {kws : List Keyword} {m : Str} {apos pos : Pos} {ta : TE} {t tka : TA} {pl : Sem Bool} {to : TDE} {ts tk : TDA} {tf : TDF} {tx : TDX} {av : List Value → List Value → List Value} {ad : List V → List V → List V} {dd : List D → List D → List D} {dvs : List V} {dds : List D}
def dMethKF (C : Addr) (m : Str) (n q : Nat) (dd : List D → List D → List D) (tf : TDF) (to : TDE) (ts tk : TDA) : TDE := fun S Q => to S fun d => ∃ ns vs, d = .ins C ns vs ∧ m ∉ ns ∧ ts S fun ds => tk S fun es => ds.length = n ∧ es.length = q ∧ tf (dd (d :: ds) es) Q
end
end L2.DL
namespace PySem.W
open PySem PySem.Calls PyProof.Rows Builtin
open PySem.Sem (wp)
end PySem.W
namespace L2.DL
open PySem PySem.Spec PyProof.Rows
end L2.DL
namespace L2.DL
open PySem PySem.Spec PyProof.Rows
section
variable {X : Cx} {k i : Nat} {f C : Addr} {fd : FuncData} {x f1 f2 : Str} {p0 p1 p2 k1 k2 : Str} {p pos q1 q2 : Pos} {e h : Expr} {te : TDE}
def dMakeCp (i : Nat) (C : Addr) (f1 f2 : Str) (te : TDE) : TDE := fun S Q => te S fun d => ∃ dl, S[i]? = some (.own (.lst dl)) ∧ Q (.ins C [f1, f2] [.lst dl, d])
end
end L2.DL
namespace L2.DL
open PySem PySem.Spec PyProof.Rows
end L2.DL
namespace L2.DL
open PySem PySem.Spec PyProof.Rows
def dGet2R (tk te : TDE) : SS → D → (D → Prop) → Prop
  | S, .dic t _ ks vs, Q => tk S fun k => keyOk t k = true ∧ te S fun e => Q ((dgetD ks vs k).getD e)
  | _, _, _ => False
theorem dGet2R_dic {tk te : TDE} {S : SS} {d : D} {Q : D → Prop} (h : dGet2R tk te S d Q) : ∃ t lk ks vs, d = .dic t lk ks vs ∧ tk S fun k => keyOk t k = true ∧ te S fun e => Q ((dgetD ks vs k).getD e) := by
  cases d <;> try (exact h.elim)
  exact ⟨_, _, _, _, rfl, h⟩
section
variable {X : Cx} {o i e : Expr} {td tk te : TDE} {apos cpos : Pos}
theorem Pk.isD {g : Gh} {H : Hp} {v : V} {t lk : Bool} {ks vs : List D} (h : Pk g H v (.dic t lk ks vs)) : ∃ a, v = .ref a ∧ IsD H a := by
  obtain ⟨a, rfl, ⟨kvs, _, r, _, _⟩ | ⟨kvs, _, r, _, _⟩⟩ := h.dic
  · exact ⟨a, rfl, .inl ⟨kvs, r.rd⟩⟩
  · exact ⟨a, rfl, .inr ⟨kvs, r.rd⟩⟩
theorem de_dget2 (hu : X.A.units + 65 < cLine) (hd : PE X o (lP td)) (hk : PE X i (lP tk)) (he : PE X e (lE te)) (m : M2 X o "get" apos i e cpos := by exact ⟨by rfl, by rfl, by rfl, by rfl⟩) :
    PE X (.Call (.Attribute o "get" apos) [i, e] [] cpos) (lE (fun S Q => td S fun d => dGet2R tk te S d Q)) :=
  PE.imp (pe_dget2 (by omega) hd hk he m) fun σ H Q ⟨g, Qd, s, w, kk⟩ => ⟨g, _, s, w, fun d x H1 w1 x1 s1 r1 => by
    obtain ⟨t, lk, ks, vs, rfl, w2⟩ := dGet2R_dic w1
    obtain ⟨a, rfl, isd⟩ := r1.isD
    refine ⟨a, rfl, isd, g, _, s1, w2, fun k y H2 ⟨ok, w3⟩ x2 s2 r2 => ⟨g, _, s2, w3, fun ed z H3 w4 x3 s3 r3 => ?_⟩⟩
    obtain ⟨a', ov, e1, dg, is, hv⟩ := dic_get (r1.ext (x2.trans x3)) (r2.ext x3) ok
    cases e1
    refine ⟨ov, dg, kk _ _ H3 w4 ((x1.trans x2).trans x3) s3 ?_⟩
    cases q : dgetD ks vs k with
    | some d =>
      obtain ⟨v, rfl, rv⟩ := hv d q
      exact rv
    | none =>
      rw [q] at is
      cases ov with
      | none => exact r3
      | some u => cases is⟩
def dDispT (tk tv : TDE) : TDE := fun S Q => tk S fun k => tv S fun v => keyOk true k = true ∧ Q (.dic true false [k] [v])
end
end L2.DL
namespace L2
open PySem PySem.Spec PyProof.Rows
mutual
def onlyN : NestedKey → Bool
  | .num _ => true
  | .tup ks => onlyNs ks
  | .none => false
  | .text _ => false
def onlyNs : List NestedKey → Bool
  | [] => true
  | k :: ks => onlyN k && onlyNs ks
end
mutual
def hashN : NestedKey → Int
  | .none => 0
  | .num i => hashInt i
  | .text _ => 0
  | .tup ks => reduceHash (Builtin.Tuple.tupleHashOf (hashNs ks))
def hashNs : List NestedKey → List Int
  | [] => []
  | k :: ks => hashN k :: hashNs ks
end
abbrev NKV := NestedKey × Addr × V
abbrev KN : List NKV → List (NestedKey × Addr × Value) → Prop := Paired fun p q => p.1 = q.1 ∧ p.2.1 = q.2.1 ∧ RelV p.2.2 q.2.2
def valN (kvs : List NKV) (k : NestedKey) : Option V := (kvs.find? fun kv => decide (kv.1 = k)).map (·.2.2)
theorem KN.val {kvs : List NKV} {xs : List (NestedKey × Addr × Value)} (r : KN kvs xs) (k : NestedKey) : RelO (valN kvs k) ((atKey xs k).map (·.2)) := by
  induction r with
  | nil => exact True.intro
  | @cons p q ps qs h t ih =>
    obtain ⟨h1, _, h2⟩ := h
    by_cases e : p.1 = k
    · have e' : q.1 = k := h1.symm.trans e
      have a : valN (p :: ps) k = some p.2.2 := by simp [valN, List.find?_cons, e]
      have b : atKey (q :: qs) k = some q.2 := by simp [atKey, List.find?_cons, e']
      rw [a, b]; exact h2
    · have e' : ¬ q.1 = k := fun z => e (h1.trans z)
      have a : valN (p :: ps) k = valN ps k := by simp [valN, List.find?_cons, e]
      have b : atKey (q :: qs) k = atKey qs k := by simp [atKey, List.find?_cons, e']
      rw [a, b]; exact ih
/-- the entry of a key -/
def entN (x : NestedKey × Addr × Value) : DictEntry := ⟨hashN x.1, .ref x.2.1, x.2.2⟩
/-- the dict at a: its keys (where their tuples stand) and values -/
def NestP (a : Addr) (kvs : List NKV) (h : Heap) : Prop :=
  kvs.length ≤ sizeLine ∧ (a == sysModules) = false ∧ (∀ p ∈ kvs, onlyN p.1 = true) ∧ (kvs.map (·.1)).Nodup ∧
    ∃ xs o es ep, KN kvs xs ∧ h.get? a = some o ∧ o.ExactDict ∧ o.data = .dict es ep ∧ es.toList = xs.map entN
def nestO (a : Addr) (kvs : List NKV) : HO := .ext (NestP a kvs)
theorem KN.only {kvs : List NKV} {xs : List (NestedKey × Addr × Value)} (r : KN kvs xs) (h : ∀ p ∈ kvs, onlyN p.1 = true) : ∀ x ∈ xs, onlyN x.1 = true := by
  induction r with
  | nil => intro x hx; exact nomatch hx
  | @cons p q ps qs e t ih =>
    intro x hx
    rcases List.mem_cons.mp hx with z | hx
    · subst z; rw [← e.1]; exact h p List.mem_cons_self
    · exact ih (fun p hp => h p (List.mem_cons_of_mem _ hp)) x hx
/-- the tracked value v is the key k -/
inductive IsN (H : Hp) : NestedKey → V → Prop
  | num (i : Int) : IsN H (.num i) (.int i)
  | nil {a : Addr} : H a = some (.tup []) → IsN H (.tup []) (.ref a)
  | tup {a : Addr} {ks : List NestedKey} {vs : List V} : H a = some (.tup vs) → ks.length = vs.length → (∀ (i : Nat) k v, ks[i]? = some k → vs[i]? = some v → IsN H k v) → IsN H (.tup ks) (.ref a)
theorem IsN.ext {H H' : Hp} (ht : ∀ b ys, H b = some (.tup ys) → H' b = some (.tup ys)) {k : NestedKey} {v : V} (x : IsN H k v) : IsN H' k v := by
  induction x with
  | num i => exact .num i
  | nil e => exact .nil (ht _ _ e)
  | tup e l _ ih => exact .tup (ht _ _ e) l ih
theorem nestedAll_of {h : Heap} : ∀ {ks : List NestedKey} {us : List Value}, ks.length = us.length → (∀ (i : Nat) k u, ks[i]? = some k → us[i]? = some u → NestedIs h k u) → NestedAll h ks us
  | [], [], _, _ => .nil
  | k :: ks, u :: us, l, f => .cons (f 0 k u rfl rfl) (nestedAll_of (by simpa using l) fun i k u a b => f (i + 1) k u a b)
theorem vals_get : ∀ {xs : List V} {us : List Value}, Vals xs us → xs.length = us.length ∧ ∀ (i : Nat) v u, xs[i]? = some v → us[i]? = some u → RelV v u
  | [], _, .nil => ⟨rfl, fun i v u a => by simp at a⟩
  | x :: xs, _, .cons r t => by
    obtain ⟨l, f⟩ := vals_get t
    refine ⟨by simp [l], fun i v u a b => ?_⟩
    cases i with
    | zero => simp at a b; subst a b; exact r
    | succ i => exact f i v u (by simpa using a) (by simpa using b)
section
variable {P : Program} {w : World} {H : Hp} {h : Heap} {a : Addr}
theorem IsN.is (ok : HOk P w H h) {k : NestedKey} {v : V} (x : IsN H k v) : ∀ u, RelV v u → NestedIs h k u := by
  induction x with
  | num i =>
    intro u r
    obtain ⟨t, e⟩ := (show ∃ t, u = Value.int i t from r)
    subst e
    exact .int i t
  | @nil a e =>
    intro u r
    cases (show u = Value.ref a from r)
    obtain ⟨_, its, r, o, h1, h2, n, h3⟩ := (show ObjOk P w H h a (.tup []) from ok a _ e)
    cases r
    exact .tup h1 h2 h3 (by simpa using NestedAll.nil)
  | @tup a ks vs e l hk ih =>
    intro u r
    cases (show u = Value.ref a from r)
    obtain ⟨_, its, r, o, h1, h2, n, h3⟩ := (show ObjOk P w H h a (.tup vs) from ok a _ e)
    refine .tup h1 h2 h3 ?_
    obtain ⟨l2, f⟩ := vals_get r
    refine nestedAll_of (by simpa using l.trans l2) fun i k u hk' hu' => ?_
    have hu'' : its[i]? = some u := by simpa using hu'
    have lt : i < vs.length := by
      have := (List.getElem?_eq_some_iff.mp hu'').1
      omega
    exact ih i k _ hk' (List.getElem?_eq_getElem lt) u (f i _ u (List.getElem?_eq_getElem lt) hu'')
/-- a key of its own right: a tuple, at most 8 deep, of whole numbers alone -/
structure KeyN (H : Hp) (k : NestedKey) (b : Addr) : Prop where
  is : IsN H k (.ref b)
  only : onlyN k = true
  deep : k.depth ≤ 8
theorem KeyN.ext {H H' : Hp} (ht : ∀ b ys, H b = some (.tup ys) → H' b = some (.tup ys)) {k : NestedKey} {b : Addr} (x : KeyN H k b) : KeyN H' k b := ⟨x.is.ext ht, x.only, x.deep⟩
theorem KeyN.key (ok : HOk P w H h) {k : NestedKey} {b : Addr} (x : KeyN H k b) : (nestedKind P w).is h k b := ⟨x.is.is ok _ rfl, x.deep⟩
end
end L2
namespace L2.DL
open PySem PySem.Spec PyProof.Rows
theorem nodup_ix {α : Type} : ∀ {l : List α}, l.Nodup → ∀ {n m : Nat} (h1 : n < l.length) (h2 : m < l.length), l[n] = l[m] → n = m
  | x :: l, nd, 0, 0, _, _, _ => rfl
  | x :: l, nd, 0, m + 1, h1, h2, e => by
    simp at e
    exact absurd (e ▸ List.getElem_mem _) (List.nodup_cons.mp nd).1
  | x :: l, nd, n + 1, 0, h1, h2, e => by
    simp at e
    exact absurd (e ▸ List.getElem_mem _) (List.nodup_cons.mp nd).1
  | x :: l, nd, n + 1, m + 1, h1, h2, e => by
    simp at e
    rw [nodup_ix (List.nodup_cons.mp nd).2 (by simpa using h1) (by simpa using h2) e]
/-- a resource is changed -/
theorem Stt.rsMut {g : Gh} {σ : St} {H : Hp} {r : Nat} {as : List Addr} {φ φ' : Bz → (Addr → Prop) → Hp → Prop} {a : Addr} {o' : HO} (s : Stt g σ H) (e : g.S[r]? = some (.rs as φ)) (ha : a ∈ as) (ok' : RsOk as φ') (no : NtO o') (hc : ∀ c q, H a ≠ some (CodeO c q)) (h' : φ' g.z g.M (upd H a o')) :
    Stt { g with S := g.S.set r (.rs as φ') } σ (upd H a o') := by
  obtain ⟨j0, ej⟩ := (s.rs r as φ e).ow a ha
  have hM : g.M a := .inr (.inr ⟨_, ej⟩)
  have tr : Tr g.M H g.M (upd H a o') := tr_mut hM o'
  refine ⟨fun j bs ψ e' => ?_, by simpa using s.len, fun j d' e' => ?_, fun j d'' e' => ?_, s.inj, s.new, fun c h => ?_, fun b u e1 n => ?_, s.bag.mut (fun h => (s.new _ a ej).2.2 h) hc, ?_⟩
  · have e1 : (g.S.set r (.rs as φ'))[j]? = some (.rs bs ψ) := e'
    rw [List.getElem?_set] at e1
    by_cases hij : r = j
    · subst hij
      rw [if_pos rfl] at e1
      split at e1
      · cases e1
        exact ⟨ok', (s.rs r as φ e).ow, h'⟩
      · cases e1
    · rw [if_neg hij] at e1
      refine (s.rs j bs ψ e1).tr tr (fun c hc o q => ?_) rfl fun _ => rfl
      obtain ⟨k, ek⟩ := (s.rs j bs ψ e1).ow c hc
      rw [upd_ne (show c ≠ a by
        rintro rfl
        cases s.inj _ _ c ej ek
        exact hij rfl)]
      exact q
  · have e1 : (g.S.set r (.rs as φ'))[j]? = some (.val d') := e'
    rw [List.getElem?_set] at e1
    by_cases hij : r = j
    · subst hij
      rw [if_pos rfl] at e1
      split at e1 <;> cases e1
    · rw [if_neg hij] at e1
      obtain ⟨u, e2, r1⟩ := s.val j d' e1
      exact ⟨u, e2, r1.tr tr⟩
  · have e1 : (g.S.set r (.rs as φ'))[j]? = some (.own d'') := e'
    rw [List.getElem?_set] at e1
    by_cases hij : r = j
    · subst hij
      rw [if_pos rfl] at e1
      split at e1 <;> cases e1
    · rw [if_neg hij] at e1
      obtain ⟨u, e2, e3, r1⟩ := s.own j d'' e1
      refine ⟨u, e2, e3, r1.tr tr fun w q => ?_⟩
      rw [upd_ne (show u ≠ a by rintro rfl; exact s.rsNe e e3 ha)]; exact q
  · by_cases hc : c = a
    · subst hc; exact Nt.upd no
    · obtain ⟨u, e, n⟩ := s.alive c h
      exact ⟨u, by rw [upd_ne hc]; exact e, n⟩
  · rw [upd_ne (show b ≠ a by rintro rfl; rw [(s.new _ b ej).1] at e1; cases e1)]
    exact s.keep b u e1 n
  · exact s.ex.set (fun _ _ q => by cases q) fun _ q => by cases q
/-- who owns, when slot r takes the things as -/
def setRs (ow : Ix → Option Addr) (r : Nat) (as : List Addr) : Ix → Option Addr
  | .inl i => ow (.inl i)
  | .inr (i, j) => if i = r then as[j]? else ow (.inr (i, j))
theorem setRs_r {ow : Ix → Option Addr} {r i j : Nat} {as : List Addr} : setRs ow r as (.inr (i, j)) = if i = r then as[j]? else ow (.inr (i, j)) := rfl
theorem mo_rs {M0 : MS} {z : Bz} {ow : Ix → Option Addr} {r : Nat} {as : List Addr} {b : Addr} (h : Mo M0 z (setRs ow r as) b) : Mo M0 z ow b ∨ b ∈ as := by
  rcases h with h | h | ⟨j, h⟩
  · exact .inl (.inl h)
  · exact .inl (.inr (.inl h))
  · match j, h with
    | .inl i, h => exact .inl (.inr (.inr ⟨.inl i, h⟩))
    | .inr (i, j), h =>
      rw [setRs_r] at h
      by_cases hi : i = r
      · rw [if_pos hi] at h; exact .inr (List.mem_of_getElem? h)
      · rw [if_neg hi] at h; exact .inl (.inr (.inr ⟨_, h⟩))
/-- new things go to a resource slot -/
theorem Stt.rsClaim {g : Gh} {σ : St} {H : Hp} {r : Nat} {as bs : List Addr} {φ : Bz → (Addr → Prop) → Hp → Prop} (s : Stt (apD g (as ++ bs)) σ H) (nd : (as ++ bs).Nodup) (nm : ∀ a ∈ as, ¬ g.M a ∧ g.H0 a = none) (ok : RsOk as φ) (h : φ g.z (apD g (as ++ bs)).M H) :
    Stt (apD { g with ow := setRs g.ow r as, S := g.S.set r (.rs as φ) } bs) σ H := by
  have hd := List.nodup_append.mp nd
  have sub : ∀ b, (apD { g with ow := setRs g.ow r as, S := g.S.set r (.rs as φ) } bs).M b → (apD g (as ++ bs)).M b := fun b h => by
    rcases apD_M.mp h with h | h
    · rcases mo_rs h with h | h
      · exact apD_M.mpr (.inl h)
      · exact apD_M.mpr (.inr (List.mem_append_left _ h))
    · exact apD_M.mpr (.inr (List.mem_append_right _ h))
  have tr : Tr (apD g (as ++ bs)).M H (apD { g with ow := setRs g.ow r as, S := g.S.set r (.rs as φ) } bs).M H := Tr.of fun b u n e => ⟨e, fun h => n (sub b h)⟩
  have nown : ∀ (j : Ix) (a : Addr), a ∈ as → g.ow j = some a → False := fun j a ha e => (nm a ha).1 (.inr (.inr ⟨j, e⟩))
  refine ⟨fun j cs ψ e => ?_, by show (g.S.set r _).length = _; have := s.len; simpa [apD] using this, fun j d' e => ?_, fun j d' e => ?_, fun j k c e1 e2 => ?_, fun j c e => ?_, fun c h => s.alive c (sub c h), s.keep, s.bag, s.ex.e0, fun b q => ?_, s.ex.ea, (s.ex.set (ow := setRs g.ow r as) (i := r) (x := .rs as φ) (fun _ _ q => by cases q) fun _ q => by cases q).el, (s.ex.set (ow := setRs g.ow r as) (i := r) (x := .rs as φ) (fun _ _ q => by cases q) fun _ q => by cases q).ez, fun b h => s.ex.en b (h.imp id fun h => List.mem_append_right _ h)⟩
  · have e' : (g.S.set r (.rs as φ))[j]? = some (.rs cs ψ) := e
    rw [List.getElem?_set] at e'
    by_cases hij : r = j
    · subst hij
      rw [if_pos rfl] at e'
      split at e'
      · cases e'
        refine ⟨ok, fun a ha => ?_, ok _ _ _ _ _ h tr fun _ _ _ q => q⟩
        obtain ⟨j, hj⟩ := List.getElem?_of_mem ha
        exact ⟨j, by show setRs g.ow r as (.inr (r, j)) = some a; rw [setRs_r, if_pos rfl]; exact hj⟩
      · cases e'
    · rw [if_neg hij] at e'
      refine (s.rs j cs ψ e').tr tr (fun _ _ _ q => q) rfl fun k => ?_
      show setRs g.ow r as (.inr (j, k)) = g.ow (.inr (j, k))
      rw [setRs_r, if_neg (Ne.symm hij)]
  · have e' : (g.S.set r (.rs as φ))[j]? = some (.val d') := e
    rw [List.getElem?_set] at e'
    by_cases hij : r = j
    · subst hij
      rw [if_pos rfl] at e'
      split at e' <;> cases e'
    · rw [if_neg hij] at e'
      obtain ⟨u, e1, r1⟩ := s.val j d' e'
      exact ⟨u, e1, r1.tr tr⟩
  · have e' : (g.S.set r (.rs as φ))[j]? = some (.own d') := e
    rw [List.getElem?_set] at e'
    by_cases hij : r = j
    · subst hij
      rw [if_pos rfl] at e'
      split at e' <;> cases e'
    · rw [if_neg hij] at e'
      obtain ⟨u, e1, e2, r1⟩ := s.own j d' e'
      exact ⟨u, e1, e2, r1.tr tr fun w q => q⟩
  · have cs : ∀ (j : Ix) (c : Addr), setRs g.ow r as j = some c → (g.ow j = some c ∧ c ∉ as) ∨ ∃ n, j = .inr (r, n) ∧ as[n]? = some c := fun j c e => by
      match j, e with
      | .inl i, e => exact .inl ⟨e, fun h => nown _ c h e⟩
      | .inr (i, n), e =>
        rw [setRs_r] at e
        by_cases hi : i = r
        · rw [if_pos hi] at e; exact .inr ⟨n, by rw [hi], e⟩
        · rw [if_neg hi] at e; exact .inl ⟨e, fun h => nown _ c h e⟩
    rcases cs j c e1 with ⟨h1, h2⟩ | ⟨n, rfl, h1⟩ <;> rcases cs k c e2 with ⟨h3, h4⟩ | ⟨m, rfl, h3⟩
    · exact s.inj j k c h1 h3
    · exact absurd (List.mem_of_getElem? h3) h2
    · exact absurd (List.mem_of_getElem? h1) h4
    · have : n = m := by
        obtain ⟨l1, g1⟩ := List.getElem?_eq_some_iff.mp h1
        obtain ⟨l2, g2⟩ := List.getElem?_eq_some_iff.mp h3
        exact nodup_ix hd.1 l1 l2 (g1.trans g2.symm)
      rw [this]
  · have e' : setRs g.ow r as j = some c := e
    have key : g.ow j = some c ∨ c ∈ as := by
      match j, e' with
      | .inl i, e => exact .inl e
      | .inr (i, n), e =>
        rw [setRs_r] at e
        by_cases hi : i = r
        · rw [if_pos hi] at e; exact .inr (List.mem_of_getElem? e)
        · rw [if_neg hi] at e; exact .inl e
    rcases key with k | k
    · obtain ⟨q1, q2, q3⟩ := s.new j c k
      exact ⟨q1, fun h => q2 (h.imp id fun h => List.mem_append_right _ h), q3⟩
    · obtain ⟨n1, n2⟩ := nm c k
      exact ⟨n2, fun h => h.elim (fun h => n1 (.inl h)) fun h => hd.2.2 c k c h rfl, fun h => n1 (res_M h)⟩
  · rcases s.ex.em b q with hm | hm
    · exact .inl hm
    · rcases List.mem_append.mp hm with hm | hm
      · exfalso
        obtain ⟨n1, n2⟩ := nm b hm
        have h2 : g.X0 b ≠ none := s.ex.ea b q
        cases e0 : g.X0 b with
        | none => exact h2 e0
        | some o =>
          have h1 : g.H0 b = some o := s.ex.e0 b o e0 fun hb => n1 (res_M hb.res)
          rw [n2] at h1
          cases h1
      · exact .inr hm
/-- what slot r owned is owned no more -/
theorem Stt.rsFree {g : Gh} {σ : St} {H : Hp} {r : Nat} {as : List Addr} {φ : Bz → (Addr → Prop) → Hp → Prop} (s : Stt g σ H) (e : g.S[r]? = some (.rs as φ)) : ∃ ow, Stt { g with ow := ow, S := g.S.set r .no } σ H ∧ (∀ a ∈ as, ¬ Mo g.M0 g.z ow a) ∧ ∀ b, Mo g.M0 g.z ow b → g.M b := by
  obtain ⟨ow, how⟩ : ∃ ow : Ix → Option Addr, ow = fun j => match j with | .inl i => g.ow (.inl i) | .inr (i, j) => if i = r then none else g.ow (.inr (i, j)) := ⟨_, rfl⟩
  have le : ∀ (j : Ix) (c : Addr), ow j = some c → g.ow j = some c ∧ ∀ n, j ≠ .inr (r, n) := fun j c h => by
    rw [how] at h
    match j, h with
    | .inl i, h => exact ⟨h, fun n q => nomatch q⟩
    | .inr (i, n), h =>
      have h' : (if i = r then none else g.ow (.inr (i, n))) = some c := h
      split at h'
      · cases h'
      · rename_i hi; exact ⟨h', fun m q => by cases q; exact hi rfl⟩
  have sub : ∀ b, Mo g.M0 g.z ow b → g.M b := fun b h => by
    rcases h with h | h | ⟨j, h⟩
    · exact .inl h
    · exact .inr (.inl h)
    · exact .inr (.inr ⟨j, (le j b h).1⟩)
  have tr : Tr g.M H (Mo g.M0 g.z ow) H := Tr.of fun b u n e => ⟨e, fun q => n (sub b q)⟩
  have set_no : ∀ {j : Nat} {x : Sl}, (g.S.set r .no)[j]? = some x → x ≠ .no → g.S[j]? = some x ∧ r ≠ j := fun {j x} h n => by
    rw [List.getElem?_set] at h
    by_cases hij : r = j
    · subst hij
      rw [if_pos rfl] at h
      split at h
      · exact absurd (Option.some.inj h).symm n
      · cases h
    · rw [if_neg hij] at h; exact ⟨h, hij⟩
  refine ⟨ow, ⟨fun j bs ψ e' => ?_, by simpa using s.len, fun j d' e' => ?_, fun j d' e' => ?_, fun j k c e1 e2 => s.inj j k c (le _ _ e1).1 (le _ _ e2).1, fun j c e1 => s.new j c (le _ _ e1).1, fun c h => s.alive c (sub c h), s.keep, s.bag, s.ex.set (fun _ _ q => by cases q) fun _ q => by cases q⟩, fun a ha h => ?_, sub⟩
  · obtain ⟨e1, n1⟩ := set_no e' (by intro h; cases h)
    refine (s.rs j bs ψ e1).tr tr (fun _ _ _ q => q) rfl fun k => ?_
    show ow (.inr (j, k)) = g.ow (.inr (j, k))
    rw [how]
    exact if_neg (Ne.symm n1)
  · obtain ⟨e1, n1⟩ := set_no e' (by intro h; cases h)
    obtain ⟨u, e2, r1⟩ := s.val j d' e1
    exact ⟨u, e2, r1.tr tr⟩
  · obtain ⟨e1, n1⟩ := set_no e' (by intro h; cases h)
    obtain ⟨u, e2, e3, r1⟩ := s.own j d' e1
    refine ⟨u, e2, ?_, r1.tr tr fun w q => q⟩
    show ow (.inl j) = some u
    rw [how]; exact e3
  · obtain ⟨q1, q2, q3⟩ := s.rsNew e ha
    obtain ⟨n, en⟩ := (s.rs r as φ e).ow a ha
    rcases h with h | h | ⟨j, h⟩
    · exact q2 h
    · exact q3 h
    · obtain ⟨h1, h2⟩ := le j a h
      exact h2 n (s.inj _ _ a h1 en)
abbrev TDR := SS → (Addr → List Addr → (Bz → (Addr → Prop) → Hp → Prop) → Prop) → Prop
def lR (t : TDR) : TE := fun σ H Q => ∃ (g : Gh) (Qd : Addr → List Addr → (Bz → (Addr → Prop) → Hp → Prop) → Prop), Stt g σ H ∧ t g.S Qd ∧ ∀ a as φ H', Qd a as φ → Ext g.z H H' → Stt g σ H' → (a :: as).Nodup → (∀ b ∈ a :: as, H b = none ∧ Nt H' b) → RsOk (a :: as) φ → φ g.z (fun b => g.M b ∨ b ∈ a :: as) H' → Q (.ref a) H'
inductive K3 where
  | kept (d : D)
  | own (d : D)
  | res (r : Nat) (a : Addr) (as : List Addr) (φ : Bz → (Addr → Prop) → Hp → Prop)
inductive K3L (z : Bz) (M : MS) (H : Hp) : List V → List K3 → Prop
  | nil : K3L z M H [] []
  | kept {v : V} {vs : List V} {d : D} {ks : List K3} : Rp z M H v d → K3L z M H vs ks → K3L z M H (v :: vs) (.kept d :: ks)
  | own {a : Addr} {vs : List V} {d : D} {ks : List K3} : Ow z M H a d → K3L z M H vs ks → K3L z M H (.ref a :: vs) (.own d :: ks)
  | res {r : Nat} {a : Addr} {as : List Addr} {φ : Bz → (Addr → Prop) → Hp → Prop} {vs : List V} {ks : List K3} : RsOk (a :: as) φ → φ z M H → K3L z M H vs ks → K3L z M H (.ref a :: vs) (.res r a as φ :: ks)
def new3 : List V → List K3 → List Addr
  | _ :: vs, .kept _ :: ks => new3 vs ks
  | .ref a :: vs, .own _ :: ks => a :: new3 vs ks
  | _ :: vs, .res _ a as _ :: ks => (a :: as) ++ new3 vs ks
  | _, _ => []
theorem new3_kept (v : V) (vs : List V) (d : D) (ks : List K3) : new3 (v :: vs) (.kept d :: ks) = new3 vs ks := by cases v <;> rfl
theorem new3_res (v : V) (vs : List V) {r a as φ} (ks : List K3) : new3 (v :: vs) (.res r a as φ :: ks) = (a :: as) ++ new3 vs ks := by cases v <;> rfl
theorem K3L.tr {z : Bz} {M M' : MS} {H H' : Hp} (t : Tr M H M' H') : ∀ {vs : List V} {ks : List K3}, K3L z M H vs ks → (∀ a ∈ new3 vs ks, ∀ o, H a = some o → H' a = some o) → K3L z M' H' vs ks
  | _, _, .nil, _ => .nil
  | _, _, .kept r l, h => .kept (r.tr t) (l.tr t (by rw [new3_kept] at h; exact h))
  | _, _, .own o l, h => .own (o.tr t (h _ (by simp [new3]))) (l.tr t fun a ha => h a (by simp [new3, ha]))
  | _, _, .res k q l, h => .res k (k _ _ _ _ _ q t fun a ha => h a (by rw [new3_res]; exact List.mem_append_left _ ha)) (l.tr t fun a ha => h a (by rw [new3_res]; exact List.mem_append_right _ ha))
abbrev TD3 := SS → (List K3 → Prop) → Prop
def l3 (t : TD3) : TA := fun σ H Q => ∃ (g : Gh) (Qd : List K3 → Prop), Stt g σ H ∧ t g.S Qd ∧ ∀ ks vs H', Qd ks → Ext g.z H H' → Stt (apD g (new3 vs ks)) σ H' → (new3 vs ks).Nodup → (∀ a ∈ new3 vs ks, H a = none) → K3L g.z (apD g (new3 vs ks)).M H' vs ks → Q vs H'
def d3Nil : TD3 := fun _ Q => Q []
def d3E (te : TDE) (t : TD3) : TD3 := fun S Q => te S fun d => t S fun ks => Q (.kept d :: ks)
def d3F (te : TDE) (t : TD3) : TD3 := fun S Q => te S fun d => t S fun ks => Q (.own d :: ks)
def d3R (r : Nat) (tr : TDR) (t : TD3) : TD3 := fun S Q => tr S fun a as φ => t S fun ks => Q (.res r a as φ :: ks)
section
variable {X : Cx} {e : Expr} {es : List Expr} {te : TDE} {ts : TD3} {tr : TDR} {r : Nat}
theorem d3_nil : PA X [] (l3 d3Nil) := PA.imp pa_nil fun σ H Q ⟨g, Qd, s, w, k⟩ => k [] [] H w .refl (by rw [show new3 [] [] = [] from rfl, apD_nil]; exact s) List.nodup_nil (fun _ h => nomatch h) .nil
theorem d3_E (he : PE X e (lE te)) (hr : PA X es (l3 ts)) (hs : starEach (e :: es) X.env = (false, eval e X.env) :: starEach es X.env := by rfl) : PA X (e :: es) (l3 (d3E te ts)) := PA.imp (pa_cons he hr hs) fun σ H Q ⟨g, Qd, s, w, k⟩ =>
  ⟨g, _, s, w, fun d v H1 w1 x1 s1 r1 => ⟨g, _, s1, w1, fun ks vs H2 w2 x2 s2 nd hn l => by
    refine k (.kept d :: ks) (v :: vs) H2 w2 (x1.trans x2) (by rw [new3_kept]; exact s2) (by rw [new3_kept]; exact nd) (by rw [new3_kept]; exact fun a ha => x1.none_of (hn a ha) fun h => s1.fresh (hn a ha) (res_M h.res)) ?_
    rw [new3_kept]
    refine .kept (r1.tr (Tr.of fun b o n e => ⟨x2 b o e fun h => n (res_M h.res), fun h => (apD_M.mp h).elim n fun h => by rw [hn b h] at e; cases e⟩)) l⟩⟩
theorem apD_app (g : Gh) (as bs : List Addr) : apD (apD g as) bs = apD g (as ++ bs) := by
  unfold apD
  congr 1
  funext b
  simp [or_assoc]
theorem d3_R (he : PE X e (lR tr)) (hr : PA X es (l3 ts)) (hs : starEach (e :: es) X.env = (false, eval e X.env) :: starEach es X.env := by rfl) : PA X (e :: es) (l3 (d3R r tr ts)) := PA.imp (pa_cons he hr hs) fun σ H Q ⟨g, Qd, s, w, k⟩ =>
  ⟨g, _, s, w, fun a as φ H1 w1 x1 s1 nd1 fr ok h1 => by
    have sp : Stt (apD g (a :: as)) σ H1 := s.apart x1 s1.bag (fun b hb => (fr b hb).1) fun b hb => (fr b hb).2
    refine ⟨apD g (a :: as), _, sp, w1, fun ks vs H2 w2 x2 s2 nd hn l => ?_⟩
    have hpn : ∀ b ∈ a :: as, b ∉ new3 vs ks := fun b hb h => (fr b hb).2.ne (hn b h)
    rw [apD_app] at s2 l
    have nb : ∀ b ∈ a :: as, ¬ isB g.z b := fun b hb h => s.fresh (fr b hb).1 (res_M h.res)
    refine k (.res r a as φ :: ks) (.ref a :: vs) H2 w2 (x1.trans x2) (by rw [new3_res]; exact s2) ?_ (fun b hb => ?_) ?_
    · rw [new3_res]
      exact List.nodup_append.mpr ⟨nd1, nd, fun b hb c hc e => hpn b hb (e ▸ hc)⟩
    · rw [new3_res] at hb
      rcases List.mem_append.mp hb with hb | hb
      · exact (fr b hb).1
      · exact x1.none_of (hn b hb) fun h => sp.fresh (hn b hb) (res_M (g := apD g (a :: as)) h.res)
    · rw [new3_res]
      refine .res ok (ok _ _ _ _ _ h1 (Tr.of fun b u n e => ⟨x2 b u e fun h => n (.inl (res_M h.res)), fun h => ?_⟩) fun b hb u q => x2 b u q (nb b hb)) l
      rcases apD_M.mp h with h | h
      · exact n (.inl h)
      · rcases List.mem_append.mp h with h | h
        · exact n (.inr h)
        · rw [hn b h] at e; cases e⟩
end
def set3 : SS → List Nat → List K3 → SS
  | S, i :: is, .kept d :: ks => set3 (S.set i (.val d)) is ks
  | S, i :: is, .own d :: ks => set3 (S.set i (.own d)) is ks
  | S, i :: is, .res r a as φ :: ks => set3 ((S.set r (.rs (a :: as) φ)).set i (.val (.raw (.ref a)))) is ks
  | S, _, _ => S
theorem stt_set3 : ∀ (is : List Nat) {g : Gh} {σ : St} {H : Hp} {vs : List V} {ks : List K3} {as : List Addr}, as = new3 vs ks → Stt (apD g as) σ H → as.Nodup → (∀ a ∈ as, ¬ g.M a ∧ g.H0 a = none) → K3L g.z (apD g as).M H vs ks → ks.length = is.length →
    ∃ ow, Stt { g with ow := ow, S := set3 g.S is ks } (setV σ is vs) H := by
  intro is
  induction is with
  | nil =>
    intro g σ H vs ks as ea s nd hn l hl
    cases l with
    | nil =>
      have ea' : as = [] := ea
      rw [ea', apD_nil] at s
      exact ⟨g.ow, s⟩
    | kept _ _ => cases hl
    | own _ _ => cases hl
    | res _ _ _ => cases hl
  | cons i is ih =>
    intro g σ H vs ks as ea s nd hn l hl
    cases l with
    | nil => cases hl
    | @kept v vs d ks r l =>
      rw [new3_kept] at ea
      have s2 : Stt (apD { g with S := g.S.set i (.val d) } as) (σ.set i (some v)) H := s.setVal (g := apD g as) r
      obtain ⟨ow, s3⟩ := ih (g := { g with S := g.S.set i (.val d) }) ea s2 nd hn l (by simpa using hl)
      exact ⟨ow, s3⟩
    | @own a vs d ks o l =>
      have ea' : as = a :: new3 vs ks := ea
      subst ea'
      obtain ⟨n1, n2⟩ := List.nodup_cons.mp nd
      have s2 := s.claim (i := i) n1 (hn a (by simp)).1 (hn a (by simp)).2 o
      have sub : ∀ b, (apD { g with ow := setOw g.ow i (some a), S := g.S.set i (.own d) } (new3 vs ks)).M b → (apD g (a :: new3 vs ks)).M b := fun b h => by
        rcases apD_M.mp h with h | h
        · rcases mo_set h with h | h
          · exact apD_M.mpr (.inl h)
          · exact apD_M.mpr (.inr (by simp [h]))
        · exact apD_M.mpr (.inr (by simp [h]))
      obtain ⟨ow, s3⟩ := ih (g := { g with ow := setOw g.ow i (some a), S := g.S.set i (.own d) }) rfl s2 n2 (fun b hb => ⟨fun h => by
        rcases mo_set h with h | h
        · exact (hn b (by simp [hb])).1 h
        · subst h; exact n1 hb, (hn b (by simp [hb])).2⟩) (l.tr (Tr.of fun b u n e => ⟨e, fun h => n (sub b h)⟩) fun _ _ _ q => q) (by simpa using hl)
      exact ⟨ow, s3⟩
    | @res r a bs φ vs ks ok hφ l =>
      rw [new3_res] at ea
      subst ea
      have nd' := List.nodup_append.mp nd
      have s2 := s.rsClaim (r := r) nd (fun b hb => hn b (List.mem_append_left _ hb)) ok hφ
      have s3 : Stt (apD { g with ow := setRs g.ow r (a :: bs), S := (g.S.set r (.rs (a :: bs) φ)).set i (.val (.raw (.ref a))) } (new3 vs ks)) (σ.set i (some (.ref a))) H := s2.setVal (g := apD { g with ow := setRs g.ow r (a :: bs), S := g.S.set r (.rs (a :: bs) φ) } (new3 vs ks)) (i := i) (v := .ref a) (d := .raw (.ref a)) (.raw _)
      have sub : ∀ b, (apD { g with ow := setRs g.ow r (a :: bs), S := (g.S.set r (.rs (a :: bs) φ)).set i (.val (.raw (.ref a))) } (new3 vs ks)).M b → (apD g ((a :: bs) ++ new3 vs ks)).M b := fun b h => by
        rcases apD_M.mp h with h | h
        · rcases mo_rs h with h | h
          · exact apD_M.mpr (.inl h)
          · exact apD_M.mpr (.inr (List.mem_append_left _ h))
        · exact apD_M.mpr (.inr (List.mem_append_right _ h))
      obtain ⟨ow, s4⟩ := ih (g := { g with ow := setRs g.ow r (a :: bs), S := (g.S.set r (.rs (a :: bs) φ)).set i (.val (.raw (.ref a))) }) rfl s3 nd'.2.1 (fun b hb => ⟨fun h => by
        rcases mo_rs h with h | h
        · exact (hn b (List.mem_append_right _ hb)).1 h
        · exact nd'.2.2 b h b hb rfl, (hn b (List.mem_append_right _ hb)).2⟩) (l.tr (Tr.of fun b u n e => ⟨e, fun h => n (sub b h)⟩) fun _ _ _ q => q) (by simpa using hl)
      exact ⟨ow, s4⟩
def dsMul3 (is : List Nat) (ts : TD3) : TDS := fun De S => ts S fun ks => ks.length = is.length ∧ De.nx (set3 S is ks)
theorem K3L.length {z : Bz} {M : MS} {H : Hp} : ∀ {vs : List V} {ks : List K3}, K3L z M H vs ks → vs.length = ks.length
  | _, _, .nil => rfl
  | _, _, .kept _ l => by simp [l.length]
  | _, _, .own _ l => by simp [l.length]
  | _, _, .res _ _ l => by simp [l.length]
theorem mul3_imp {is : List Nat} {ts : TD3} {D : Ends} {σ : St} {H : Hp} (h : lS (dsMul3 is ts) D σ H) : l3 ts σ H fun vs H1 => vs.length = is.length ∧ D.nx (setV σ is vs) H1 := by
  obtain ⟨g, De, s, w, l⟩ := h
  refine ⟨g, _, s, w, fun ks vs H' q x s' nd hn kl => ⟨by rw [kl.length]; exact q.1, ?_⟩⟩
  obtain ⟨ow, s3⟩ := stt_set3 is rfl s' nd (fun a ha => ⟨s.fresh (hn a ha), s.keep.none_of (hn a ha) fun h => s.fresh (hn a ha) (res_M h.res)⟩) kl q.1
  exact l.nx ow _ _ H' s3 q.2
/-- x = e, e a new resource: its state goes to slot r -/
def dsRes (i r : Nat) (tr : TDR) : TDS := fun De S => tr S fun a as φ => De.nx ((S.set r (.rs (a :: as) φ)).set i (.val (.raw (.ref a))))
end L2.DL
namespace L2.DL
open PySem PySem.Spec PyProof.Rows
mutual
/-- a tuple of tuples of whole numbers, as a key -/
def nkD : D → Option NestedKey
  | .int i => some (.num i)
  | .tup ds => (nkDs ds).map .tup
  | .non => none
  | .bl _ => none
  | .str _ => none
  | .lst _ => none
  | .dic .. => none
  | .ins .. => none
  | .raw _ => none
  | .bag => none
  | .clo _ => none
def nkDs : List D → Option (List NestedKey)
  | [] => some []
  | d :: ds => (nkD d).bind fun k => (nkDs ds).map (k :: ·)
end
/-- may be a key -/
def keyNk : D → Bool
  | .tup ds => match nkDs ds with
    | some ks => decide ((NestedKey.tup ks).depth ≤ 8)
    | none => false
  | _ => false
structure NestR (a : Addr) (ks vs : List D) (z : Bz) (M : MS) (H : Hp) (kvs : List NKV) : Prop where
  at_ : H a = some (nestO a kvs)
  kr : RpL z M H (kvs.map fun p => .ref p.2.1) ks
  vr : RpL z M H (kvs.map fun p => p.2.2) vs
  kk : ks.map nkD = kvs.map fun p => some p.1
  ok : ∀ d ∈ ks, keyNk d = true
  nd : ks.Nodup
/-- the dict at a, its keys and values -/
def nestR (a : Addr) (ks vs : List D) : Bz → (Addr → Prop) → Hp → Prop := fun z M H => ∃ kvs, NestR a ks vs z M H kvs
def nestS (a : Addr) (ks vs : List D) : Sl := .rs [a] (nestR a ks vs)
section
variable {X : Cx} {o i e : Expr} {pos pos' cpos : Pos} {tk tv : TDE} {j r : Nat}
/-- {k: v} -/
def dDispN (tk tv : TDE) : TDR := fun S Q => tk S fun k => tv S fun v => keyNk k = true ∧ ∀ a, Q a [] (nestR a [k] [v])
/-- d[k] = v, the key new -/
def dsNPut (j r : Nat) (tk tv : TDE) : TDS := fun De S => ∃ a, S[j]? = some (.val (.raw (.ref a))) ∧ tv S fun v => tk S fun k => ∃ ks vs, S[r]? = some (nestS a ks vs) ∧ keyNk k = true ∧ k ∉ ks ∧ ks.length < sizeLine ∧ De.nx (S.set r (nestS a (ks ++ [k]) (vs ++ [v])))
/-- k not in d, k in d -/
def dNIn (neg : Bool) (j r : Nat) (tk : TDE) : TDT := fun S Q => ∃ a, S[j]? = some (.val (.raw (.ref a))) ∧ tk S fun k => ∃ ks vs, S[r]? = some (nestS a ks vs) ∧ keyNk k = true ∧ (k ∈ ks → Q !neg) ∧ (k ∉ ks → Q neg)
/-- d[k] -/
def dNGet (j r : Nat) (tk : TDE) : TDE := fun S Q => ∃ a, S[j]? = some (.val (.raw (.ref a))) ∧ tk S fun k => ∃ ks vs, S[r]? = some (nestS a ks vs) ∧ keyNk k = true ∧ ∃ (n : Nat) (v : D), ks[n]? = some k ∧ vs[n]? = some v ∧ Q v
end
end L2.DL
namespace L2.DL
open PySem PySem.Spec PyProof.Rows
structure DeepR (a : Addr) (as : List Addr) (ds : List (List D)) (z : Bz) (M : MS) (H : Hp) : Prop where
  nd : (a :: as).Nodup
  at_ : H a = some (.lst (as.map .ref))
  len : as.length = ds.length
  it : ∀ (k : Nat) b d, as[k]? = some b → ds[k]? = some d → ∃ xs, H b = some (.lst xs) ∧ RpL z M H xs d
def deepR (a : Addr) (as : List Addr) (ds : List (List D)) : Bz → (Addr → Prop) → Hp → Prop := fun z M H => DeepR a as ds z M H
def deepS (a : Addr) (as : List Addr) (ds : List (List D)) : Sl := .rs (a :: as) (deepR a as ds)
theorem deepR_ok {a : Addr} {as : List Addr} {ds : List (List D)} : RsOk (a :: as) (deepR a as ds) := fun z M M' H H' r t k => ⟨r.nd, k a (by simp) _ r.at_, r.len, fun n b d h1 h2 => by
  obtain ⟨xs, e, l⟩ := r.it n b d h1 h2
  exact ⟨xs, k b (List.mem_cons_of_mem _ (List.mem_of_getElem? h1)) _ e, l.tr t⟩⟩
section
variable {X : Cx} {tg iter : Expr} {scope : Scope} {own : List (Str × Nat)} {pos pos' : Pos} {is : List Nat} {ti : TDI} {tgd : TDG}
/-- [[] for x in it] -/
def dDeep (ti : TDI) (tgd : TDG) (vs : List Nat) : TDR := fun S Q => ti S fun ds => ds.length ≤ sizeLine ∧ wpMap (fun d k => tgd d (wipeS S vs) fun _ => k [.non]) ds fun rs => ∀ a as, as.length = rs.length → Q a as (deepR a as (List.replicate rs.length []))
structure DAcc (z : Bz) (A : Addr) (H1 : Hp) (H : Hp) (r : List D) : Prop where
  ex : ∃ as : List Addr, as.length = r.length ∧ H A = some (.lst (as.map .ref)) ∧ (A :: as).Nodup ∧ ∀ b ∈ as, H1 b = none ∧ H b = some (.lst [])
  kp : ∀ b o, H1 b = some o → ¬ isB z b → H b = some o
theorem deep_imp {wi : TI} {vs : List Nat} (hw : WalkOk ti wi) (hv : ∀ j ∈ is, j ∈ vs) {σ : St} {H : Hp} {Q : VK} (h : lR (dDeep ti tgd vs) σ H Q) : tLc wi (lG is tgd) (lT dtsNil) (lF (dLst daNil)) vs σ H Q := by
  obtain ⟨g, Qd, s, w, k⟩ := h
  refine hw g σ H _ _ s w fun ds J H1 w1 x1 s1 wk A hA => ?_
  have hr : ¬ resB g.z A := fun h => s1.fresh hA (res_M h)
  have h0 : g.H0 A = none := s1.keep.none_of hA fun h => hr h.res
  have nb1 : ∀ b, H1 b = none → ¬ isB g.z b := fun b e h => s1.fresh e (res_M h.res)
  refine acc_gen (g := withD g A) (B := lcB A (lT dtsNil) (lF (dLst daNil))) (fB := fun _ Q => Q [.non]) (rs0 := []) (Acc := DAcc g.z A H1) (fun H r ⟨⟨as, _, e, _⟩, _⟩ => ⟨_, e, trivial⟩) (fun H H' r ⟨⟨as, e1, e2, e3, e4⟩, kp⟩ x => ⟨⟨as, e1, x A _ e2 fun h => hr h.res, e3, fun b hb => ⟨(e4 b hb).1, x b _ (e4 b hb).2 (nb1 b (e4 b hb).1)⟩⟩, fun b o e n => x b o (kp b o e n) n⟩)
    (s1.withD hA) (.inr rfl) h0 (wk.A hA) hv 1 ?_ ⟨⟨[], rfl, upd_same, by simp, fun _ h => nomatch h⟩, fun b o e n => by rw [upd_ne (ne_of_none e hA)]; exact e⟩ (by simpa using w1.1) w1.2 ?_
  · intro S' σ' H' rs Qr Nx s' ⟨⟨as, e1, e2, e3, e4⟩, kp⟩ hz w' kk
    refine ⟨_, fun b => b = true, s', rfl, fun b H3 w3 x3 s3 => ?_⟩
    subst w3
    have e23 : H3 A = some (.lst (as.map .ref)) := x3 A _ e2 fun h => hr h.res
    rw [if_pos rfl]
    refine ⟨_, fun d => d = .lst [], s3, ⟨Nat.zero_le _, rfl⟩, fun d p H4 w4 x4 s4 hn nm o => ?_⟩
    subst w4
    have e24 : H4 A = some (.lst (as.map .ref)) := x4 A _ e23 fun h => hr h.res
    have ep : H4 p = some (.lst []) := by
      cases o with
      | lst h l => cases l; exact h
    have hp1 : H1 p = none := by
      cases q : H1 p with
      | none => rfl
      | some u =>
        exfalso
        have np : ¬ isB g.z p := fun h => nm (res_M h.res)
        rw [x3 p u (kp p u q np) np] at hn
        cases hn
    have pn : p ∉ as := fun h => by rw [x3 p _ (e4 p h).2 (nb1 p (e4 p h).1)] at hn; cases hn
    have pA : p ≠ A := by rintro rfl; rw [e23] at hn; cases hn
    refine ⟨_, e24, by rw [List.length_map, e1]; omega, ?_⟩
    refine kk _ [.non] (ExtA.upd (x3.trans x4).A) (s4.bag.mut hr fun c q e => by rw [e24] at e; cases e) ⟨⟨as ++ [p], by simp [e1], by rw [upd_same]; simp, ?_, fun b hb => ?_⟩, fun b o e n => by rw [upd_ne (ne_of_none e hA)]; exact x4 b o (x3 b o (kp b o e n) n) n⟩ (by simp) w'
    · obtain ⟨m1, m2⟩ := List.nodup_cons.mp e3
      refine List.nodup_cons.mpr ⟨fun h => ?_, List.nodup_append.mpr ⟨m2, by simp, fun c hc d hd e => pn (by rw [List.mem_singleton.mp hd] at e; exact e ▸ hc)⟩⟩
      rcases List.mem_append.mp h with h | h
      · exact m1 h
      · exact pA (List.mem_singleton.mp h).symm
    · rcases List.mem_append.mp hb with hb | hb
      · have bA : b ≠ A := fun h => (List.nodup_cons.mp e3).1 (h ▸ hb)
        exact ⟨(e4 b hb).1, by rw [upd_ne bA]; exact x4 b _ (x3 b _ (e4 b hb).2 (nb1 b (e4 b hb).1)) (nb1 b (e4 b hb).1)⟩
      · rw [List.mem_singleton.mp hb]
        exact ⟨hp1, by rw [upd_ne pA]; exact ep⟩
  · intro H2 r x b ⟨⟨as, e1, e2, e3, e4⟩, kp⟩ _ q
    rw [List.nil_append] at e1
    have x2 : Ext g.z H1 H2 := kp
    refine k A as _ H2 (q A as e1) (x1.trans x2) (s1.ext x2 b) e3 (fun c hc => ?_) deepR_ok ⟨e3, e2, by rw [e1, List.length_replicate], fun n b d h1 h2 => ?_⟩
    · rcases List.mem_cons.mp hc with rfl | hc
      · exact ⟨x1.none_of hA fun h => hr h.res, _, e2, trivial⟩
      · exact ⟨x1.none_of (e4 c hc).1 (nb1 c (e4 c hc).1), _, (e4 c hc).2, trivial⟩
    · have hd : d = [] := List.eq_of_mem_replicate (List.mem_of_getElem? h2)
      subst hd
      exact ⟨[], (e4 b (List.mem_of_getElem? h1)).2, .nil⟩
end
/-- d[k].append(e) -/
def dsDApp (j r : Nat) (tk te : TDE) : TDS := fun De S => ∃ a, S[j]? = some (.val (.raw (.ref a))) ∧ tk S fun k => ∃ (n : Nat) (as : List Addr) (ds : List (List D)) (xs : List D), k = .int n ∧ S[r]? = some (deepS a as ds) ∧ ds[n]? = some xs ∧ te S fun d => xs.length < sizeLine ∧ De.nx (S.set r (deepS a as (ds.set n (xs ++ [d]))))
theorem atI_natR {α : Type} {xs : List α} {n : Nat} {x : α} (h : xs[n]? = some x) : L2.atI xs (n : Int) = some x := by
  have hl : n < xs.length := (List.getElem?_eq_some_iff.mp h).1
  unfold L2.atI ixN
  simp [h, hl]
  exact (List.getElem?_eq_some_iff.mp h).2
section
variable {X : Cx} {o i e : Expr} {pos ap cp ip : Pos} {tk te : TDE} {j r : Nat}
theorem ds_dapp (ho : PE X o (tVar j)) (hk : PE X i (lE tk)) (he : PE X e (lE te)) (hix : PlainIx i := by exact fun _ _ => rfl)
    (hbase : attributeBase (.Subscript o i ip) "append" X.env (eval (.Subscript o i ip) X.env) = eval (.Subscript o i ip) X.env := by rfl)
    (hfew : ((backTo cp (starEach [e] X.env)).all (fun x => !x.1) && (backToKw cp (keywordEach [] X.env)).all (fun x => x.1.isSome)
      && decide ([e].length + ([] : List Keyword).length + (if ([] : List Keyword).isEmpty then 0 else 1) < 30)) = true := by rfl)
    (hline : (ap.endLine == cp.line) = true := by rfl) (hs : starEach [e] X.env = (false, eval e X.env) :: starEach [] X.env := by rfl)
    (hsw : swapsWith (.Call (.Attribute (.Subscript o i ip) "append" ap) [e] [] cp) none pos.line X.env = pure false := by rfl) :
    PS X (.Expr (.Call (.Attribute (.Subscript o i ip) "append" ap) [e] [] cp) pos) (lS (dsDApp j r tk te)) :=
  PS.imp (ps_expr (pe_bm PySem.F.plainAttrs_list PySem.F.slot_list_append PySem.F.type_list_append mt_append (pe_ix ix_list ho hk hix) (pa_cons he pa_nil hs) hbase hfew hline hs (by rfl)) hsw) fun D σ H ⟨g, De, s, ⟨a, ea, w⟩, l⟩ => by
    obtain ⟨u, e1, ru⟩ := s.val j _ ea
    cases ru.raw_inv
    refine ⟨.ref a, e1, g, _, s, w, fun k y H1 w1 x1 s1 r1 => ?_⟩
    obtain ⟨n, as, ds, xs, rfl, er, hn, w1⟩ := w1
    cases r1.int_inv
    have R := (s1.rs r _ _ er).at_
    have hb : ∃ b, as[n]? = some b := by
      have h1 : n < ds.length := (List.getElem?_eq_some_iff.mp hn).1
      have h2 : n < as.length := by rw [R.len]; exact h1
      exact ⟨as[n], List.getElem?_eq_getElem h2⟩
    obtain ⟨b, hb⟩ := hb
    obtain ⟨vs, eb, lb⟩ := R.it n b xs hb hn
    refine ⟨a, _, _, .ref b, rfl, rfl, .of R.at_, atI_natR (by rw [List.getElem?_map, hb]; rfl), .inl ⟨rfl, _, .of eb⟩, g, _, s1, w1, fun d v H2 w2 x2 s2 r2 => ?_⟩
    have R2 := (s2.rs r _ _ er).at_
    obtain ⟨vs2, eb2, lb2⟩ := R2.it n b xs hb hn
    obtain ⟨jo, ej⟩ := (s2.rs r _ _ er).ow b (List.mem_cons_of_mem _ (List.mem_of_getElem? hb))
    have tr : Tr g.M H2 g.M (upd H2 b (.lst (vs2 ++ [v]))) := tr_mut (.inr (.inr ⟨_, ej⟩)) _
    have ba : b ≠ a := fun h => (List.nodup_cons.mp R2.nd).1 (h ▸ List.mem_of_getElem? hb)
    refine ⟨b, vs2, v, rfl, rfl, eb2, by rw [lb2.length]; exact w2.1, ?_⟩
    refine l.nx g.ow _ σ _ (s2.rsMut er (List.mem_cons_of_mem _ (List.mem_of_getElem? hb)) deepR_ok trivial (fun c q e => by rw [eb2] at e; cases e) ⟨R2.nd, by rw [upd_ne (Ne.symm ba)]; exact R2.at_, by rw [List.length_set]; exact R2.len, fun m c d' h1 h2 => ?_⟩) w2.2
    by_cases hm : m = n
    · subst hm
      rw [hb] at h1
      cases h1
      rw [List.getElem?_set_self (List.getElem?_eq_some_iff.mp hn).1] at h2
      cases h2
      exact ⟨_, upd_same, (lb2.append (.one r2)).tr tr⟩
    · have cb : c ≠ b := fun h => by
        subst h
        obtain hl1 := List.getElem?_eq_some_iff.mp h1
        obtain hl2 := List.getElem?_eq_some_iff.mp hb
        exact hm (nodup_ix (List.nodup_cons.mp R2.nd).2 hl1.1 hl2.1 (hl1.2.trans hl2.2.symm))
      rw [List.getElem?_set_ne (Ne.symm hm)] at h2
      obtain ⟨xs', e', l'⟩ := R2.it m c d' h1 h2
      exact ⟨xs', by rw [upd_ne cb]; exact e', l'.tr tr⟩
/-- what was changed in its places is kept from here on -/
def dsFrzD (j r : Nat) (t : TDS) : TDS := fun De S => ∃ a as ds, S[j]? = some (.val (.raw (.ref a))) ∧ S[r]? = some (deepS a as ds) ∧ t De ((S.set r .no).set j (.val (.lst (ds.map .lst))))
theorem set_same {σ : St} {j : Nat} {v : V} (h : σ[j]? = some (some v)) : σ.set j (some v) = σ := by
  apply List.ext_getElem?
  intro k
  rw [List.getElem?_set]
  by_cases hk : j = k
  · subst hk
    rw [if_pos rfl, h, if_pos (List.getElem?_eq_some_iff.mp h).1]
  · rw [if_neg hk]
theorem deep_rpl {z : Bz} {M M' : MS} {H : Hp} (t : Tr M H M' H) : ∀ {as : List Addr} {ds : List (List D)}, as.length = ds.length → (∀ b ∈ as, ¬ M' b) → (∀ (k : Nat) b d, as[k]? = some b → ds[k]? = some d → ∃ xs, H b = some (.lst xs) ∧ RpL z M H xs d) → RpL z M' H (as.map V.ref) (ds.map D.lst)
  | [], [], _, _, _ => .nil
  | b :: as, d :: ds, l, n, h => by
    obtain ⟨xs, e, lx⟩ := h 0 b d rfl rfl
    exact .cons (.lst e (n b List.mem_cons_self) (lx.tr t)) (deep_rpl t (by simpa using l) (fun c hc => n c (List.mem_cons_of_mem _ hc)) fun k c d' h1 h2 => h (k + 1) c d' (by simpa using h1) (by simpa using h2))
  | [], _ :: _, l, _, _ => by simp at l
  | _ :: _, [], l, _, _ => by simp at l
theorem ds_frzD {sts : List Stmt} {t : TDS} (j r : Nat) (h : PSs X sts (lS t)) : PSs X sts (lS (dsFrzD j r t)) := PSs.imp h fun D σ H ⟨g, De, s, ⟨a, as, ds, ea, er, w⟩, l⟩ => by
  obtain ⟨u, e1, ru⟩ := s.val j _ ea
  cases ru.raw_inv
  have R := (s.rs r _ _ er).at_
  obtain ⟨ow, s2, nm, sub⟩ := s.rsFree er
  have tr : Tr g.M H (Mo g.M0 g.z ow) H := Tr.of fun b o n e => ⟨e, fun q => n (sub b q)⟩
  have rp : Rp g.z (Mo g.M0 g.z ow) H (.ref a) (.lst (ds.map .lst)) := .lst R.at_ (nm a List.mem_cons_self) (deep_rpl tr R.len (fun b hb => nm b (List.mem_cons_of_mem _ hb)) R.it)
  have s3 := s2.setVal (g := { g with ow := ow, S := g.S.set r .no }) (i := j) (v := .ref a) (d := .lst (ds.map .lst)) rp
  rw [set_same e1] at s3
  exact ⟨_, De, s3, w, l.back⟩
end
end L2.DL
namespace L2.DL
open PySem PySem.Spec PyProof.Rows
def dsMulT3 (is : List Nat) (ts : TD3) : TDS := fun De S => ts S fun ks => ks.length = is.length ∧ ks.length ≤ sizeLine ∧ De.nx (set3 S is ks)
theorem mulT3_imp {is : List Nat} {ts : TD3} {D : Ends} {σ : St} {H : Hp} (h : lS (dsMulT3 is ts) D σ H) : l3 ts σ H fun vs H1 => vs.length ≤ sizeLine ∧ ∀ p, H1 p = none → vs.length = is.length ∧ D.nx (setV σ is vs) (upd H1 p (.tup vs)) := by
  obtain ⟨g, De, s, w, l⟩ := h
  refine ⟨g, _, s, w, fun ks vs H' q x s' nd hn kl => ⟨by rw [kl.length]; exact q.2.1, fun p hp => ⟨by rw [kl.length]; exact q.1, ?_⟩⟩⟩
  have kl' : K3L g.z (apD g (new3 vs ks)).M (upd H' p (.tup vs)) vs ks := kl.tr (Ext.trM (g := apD g (new3 vs ks)) (.new hp)) fun a _ o e => by
    rw [upd_ne (fun z => by subst z; rw [hp] at e; cases e)]
    exact e
  obtain ⟨ow, s3⟩ := stt_set3 is rfl (s'.alloc hp) nd (fun a ha => ⟨s.fresh (hn a ha), s.keep.none_of (hn a ha) fun h => s.fresh (hn a ha) (res_M h.res)⟩) kl' q.1
  exact l.nx ow _ _ _ s3 q.2.2
end L2.DL
namespace L2.DL
open PySem PySem.Spec PyProof.Rows
theorem rpl_frg {z : Bz} {M : MS} {H : Hp} : ∀ {as : List Addr} {ds : List D}, as.length = ds.length → (∀ (i : Nat) (a : Addr) (d : D), as[i]? = some a → ds[i]? = some d → Rp z M H (.ref a) d) → RpL z M H (as.map .ref) ds
  | [], [], _, _ => .nil
  | a :: as, d :: ds, hl, h => .cons (h 0 a d rfl rfl) (rpl_frg (by simpa using hl) fun i a' d' h1 h2 => h (i + 1) a' d' (by simpa using h1) (by simpa using h2))
theorem FrG.rp {z : Bz} {M : MS} {H0 H : Hp} {p : Addr} {as : List Addr} {ds : List D} (f : FrG z M H0 H p as ds) : Rp z M H (.ref p) (.tup ds) :=
  .tup f.at_ (f.fr p (by simp)).2 (rpl_frg f.len fun i a d h1 h2 => (f.ow i a d h1 h2).rp (Tr.of fun b u n e => ⟨e, fun h => n (.inl h)⟩) (f.fr a (List.mem_cons_of_mem _ (List.mem_of_getElem? h1))).2)
/-- return x, y: both owned -/
def dsRetG (i j : Nat) : TDS := fun De S => ∃ d e, i ≠ j ∧ S[i]? = some (.own d) ∧ S[j]? = some (.own e) ∧ De.rg [d, e]
section
variable {X : Cx} {e : Expr} {es : List Expr} {x : Str} {p pos pos' ipos : Pos} {ts : TDA} {k n j : Nat} {f : Addr} {fd : FuncData} {ps : List Str} {dvs : List V} {dds : List D} {tf : TDX} {E : XK}
/-- f(..)[0], f gives a new tuple of new things -/
def dFnG0 (j : Nat) (E : XK) (tf : TDX) (dds : List D) (ts : TDA) : TDE := fun S Q => ts S fun ds => ∃ Ed, S[j]? = some (.ex E Ed) ∧ tf (ds ++ dds) (fun d => ∃ e es, d = .tup (e :: es) ∧ Q e) Ed
end
end L2.DL
namespace L2.DL
open PySem PySem.Spec PyProof.Rows
section
variable {X : Cx} {e : Expr} {p pos : Pos} {ts : TDA}
def rSumD : RDC
  | [.lst x], Q => ∃ ns, intsD x = some ns ∧ Q (.int ns.sum)
  | _, _ => False
end
end L2.DL
namespace L2.DL
open PySem PySem.Spec PyProof.Rows
abbrev TDEP := SS → (SS → D → Prop) → Prop
def lEP (t : TDEP) : TE := fun σ H Q => ∃ (g : Gh) (Qd : SS → D → Prop), Stt g σ H ∧ t g.S Qd ∧ ∀ (ow : Ix → Option Addr) S' d v H', Qd S' d → Tr g.M H (Mo g.M0 g.z ow) H' → Stt { g with ow := ow, S := S' } σ H' → Rp g.z (Mo g.M0 g.z ow) H' v d → Q v H'
theorem rpl_last {z : Bz} {M : MS} {H : Hp} : ∀ {ds : List D} {d : D} {xs : List V}, RpL z M H xs (ds ++ [d]) → RpL z M H xs.dropLast ds ∧ ∃ y, xs[xs.length - 1]? = some y ∧ Rp z M H y d
  | [], d, _, .cons r .nil => ⟨.nil, _, rfl, r⟩
  | e :: ds, d, x :: xs, .cons r l => by
    obtain ⟨h1, y, h2, h3⟩ := rpl_last (ds := ds) l
    cases xs with
    | nil => simp at h2
    | cons x2 xs =>
      refine ⟨.cons r h1, y, ?_, h3⟩
      simpa using h2
def dPop (i : Nat) : TDEP := fun S Q => ∃ ds d, S[i]? = some (.own (.lst (ds ++ [d]))) ∧ Q (S.set i (.own (.lst ds))) d
section
variable {X : Cx} {o a b e tg iter : Expr} {es : List Expr} {i : Nat} {is : List Nat} {ta : TDE} {tb te : TDEP} {t : TDG} {apos cpos pos : Pos} {body : List Stmt} {tbd : TDS} {tgd : TDG}
theorem de_pop (ho : PE X o (tVar i)) (hbase : attributeBase o "pop" X.env (eval o X.env) = eval o X.env := by rfl) (hline : (apos.endLine == cpos.line) = true := by rfl) : PE X (.Call (.Attribute o "pop" apos) [] [] cpos) (lEP (dPop i)) :=
  PE.imp (pe_bm0 PySem.F.plainAttrs_list PySem.F.slot_list_pop PySem.F.type_list_pop mt_pop ho hbase hline) fun σ H Q ⟨g, Qd, s, ⟨ds, d, e1, w⟩, k⟩ => by
    obtain ⟨p, ea, eo, o⟩ := s.own i _ e1
    cases o with
    | lst h1 l1 =>
      obtain ⟨l2, y, hy, ry⟩ := rpl_last l1
      exact ⟨.ref p, ea, .inl ⟨rfl, _, .of h1⟩, p, _, y, rfl, rfl, h1, hy, k g.ow _ d y _ w (tr_mut (.inr (.inr ⟨_, eo⟩)) _) (s.mutate e1 ea (.inr rfl) (.lst upd_same (l2.tr (tr_mut (.inr (.inr ⟨_, eo⟩)) _)))) (ry.tr (tr_mut (.inr (.inr ⟨_, eo⟩)) _))⟩
/-- target = e, e changes what a name owns -/
def dsAsgP (te : TDEP) (t : TDG) : TDS := fun De S => te S fun S' d => t d S' De.nx
theorem ds_asgP (he : PE X e (lEP te)) (hg : PG X tg (lG is t)) (hs : swapsWithSole [tg] e pos.line X.env = pure false := by rfl) (hw : swappedStores [tg] e X.env = pure none := by rfl)
    (h1 : (assignEach [tg] X.env).map (·.2) = [assign tg X.env] := by rfl) : PS X (.Assign [tg] e pos) (lS (dsAsgP te t)) := PS.imp (ps_asg he hg hs hw h1) fun D σ H ⟨g, De, s, w, l⟩ =>
  ⟨g, _, s, w, fun ow S1 d v H1 w1 x1 s1 r1 => ⟨{ g with ow := ow, S := S1 }, d, _, s1, r1, w1, fun S' σ' s' _ _ q => l.nx ow S' σ' H1 s' q⟩⟩
/-- a[b], b changes what a name owns -/
def dItemP (ta : TDE) (tb : TDEP) : TDEP := fun S Q => ta S fun x => tb S fun S' y => ∃ i d xs, x = .lst xs ∧ y = .int i ∧ atI xs i = some d ∧ Q S' d
theorem de_itemP (ha : PE X a (lE ta)) (hb : PE X b (lEP tb)) (hs : PlainIx b := by exact fun _ _ => rfl) : PE X (.Subscript a b pos) (lEP (dItemP ta tb)) :=
  PE.imp (pe_ix ix_all ha hb hs) fun σ H Q ⟨g, Qd, s, w, k⟩ => ⟨g, _, s, w, fun x v H1 w1 x1 s1 r1 => ⟨g, _, s1, w1, fun ow S' y u H2 w2 t2 s2 r2 => by
    obtain ⟨i, d, xs, rfl, rfl, e, q⟩ := w2
    cases r2
    have r1' := r1.tr t2
    cases r1' with
    | lst h n l =>
      obtain ⟨v2, e2, r⟩ := l.atI e
      exact .inl ⟨_, _, _, v2, rfl, rfl, .of h, e2, k ow S' d v2 H2 q (Tr.of fun b o n e => t2.ex b o n (x1 b o e fun h => n (res_M h.res))) s2 r⟩⟩⟩
/-- for target in e: .., e changes what a name owns -/
def dsForP (te : TDEP) (tg : TDG) (tb : TDS) : TDS := fun De S => te S fun S' d => ∃ ds, itemsD d = some ds ∧ wpFor (fun d De' S' => tg d S' fun S2 => tb De' S2) ds De S'
theorem for_core {g : Gh} {Dn : Ends} {De : EndsD} {σ : St} {H1 : Hp} {J : It} {ds : List D} (l : LE g De Dn) (s1 : Stt g σ H1) (w1 : wpFor (fun d De' S' => tgd d S' fun S2 => tbd De' S2) ds De g.S) (wk : Wk g H1 J ds) :
    ∃ W : Nat → Nat → St → Hp → Prop, (∃ m, W 0 m σ H1) ∧ ∀ i m σ H, W i m σ H →
  (J.stop i H ∧ Dn.nx σ H) ∨ (J.go i H ∧ ∃ N : St → Hp → Prop, (∀ σ' H', N σ' H' → ∃ m', m' < m ∧ W (i + 1) m' σ' H') ∧ ∀ x H', J.yld i H x H' → (lG is tgd) x σ H' fun σ2 H2 => (lS tbd) { Dn with nx := N, ct := N, bk := Dn.nx } σ2 H2) := by
  refine ⟨fun i m σ' H' => m = ds.length - i ∧ i ≤ ds.length ∧ ∃ (ow : Ix → Option Addr) (S : SS), Stt { reb g H1 with ow := ow, S := S } σ' H' ∧ wpFor (fun d De' S' => tgd d S' fun S2 => tbd De' S2) (ds.drop i) De S,
    ⟨ds.length, by simp, Nat.zero_le _, g.ow, g.S, s1.reb, w1⟩, ?_⟩
  rintro i m σ' H' ⟨rfl, hi, ow, S, s', w'⟩
  by_cases hlt : i < ds.length
  · have ed : ds.drop i = ds[i] :: ds.drop (i + 1) := List.drop_eq_getElem_cons hlt
    rw [ed] at w'
    refine .inr ⟨wk.go i H' (lat_of (σ := σ') s') hlt, fun σ2 H2 => ∃ (ow : Ix → Option Addr) (S : SS), Stt { reb g H1 with ow := ow, S := S } σ2 H2 ∧ wpFor (fun d De' S' => tgd d S' fun S2 => tbd De' S2) (ds.drop (i + 1)) De S,
      fun σ2 H2 ⟨ow2, S2, s2, w2⟩ => ⟨ds.length - (i + 1), by omega, rfl, hlt, ow2, S2, s2, w2⟩, fun x H'' y => ?_⟩
    obtain ⟨gr, rp⟩ := wk.yld i H' x H'' ds[i] (lat_of (σ := σ') s') y (List.getElem?_eq_getElem hlt)
    have r := rp _ (tr_of (σ := σ') s') s'.alive
    have s'' : Stt { reb g H1 with ow := ow, S := S } σ' H'' := s'.ext (fun a o e _ => gr a o e) (s'.bag.grow gr)
    refine ⟨_, ds[i], _, s'', r, w', fun S3 σ3 s3 _ _ w3 => ?_⟩
    refine ⟨{ reb g H1 with ow := ow, S := S3 }, _, s3, w3, ⟨fun ow4 S4 σ4 H4 s4 w4 => ⟨ow4, S4, s4, w4⟩, fun ow4 S4 σ4 H4 s4 w4 => l.nx ow4 S4 σ4 H4 (s1.unreb s4) w4, fun ow4 S4 σ4 H4 s4 w4 => ⟨ow4, S4, s4, w4⟩, fun d v H4 q x b r => ?_, fun d a H4 q x b hn nm o => ?_, fun ds' p as H4 q x b fr => ?_⟩⟩
    · refine l.rt d v H4 q (fun a o e n => ?_) b r
      refine x a o ?_ n
      show (reb g H1).H0 a = some o
      rw [reb_at fun ⟨j, h⟩ => by rw [(s1.new j a h).1] at e; cases e]
      exact s1.keep a o e n
    · have kk : ∀ a o, g.H0 a = some o → ¬ isB g.z a → (reb g H1).H0 a = some o := fun a o e n => by
        rw [reb_at fun ⟨j, h⟩ => by rw [(s1.new j a h).1] at e; cases e]
        exact s1.keep a o e n
      refine l.rf d a H4 q (fun a o e n => x a o (kk a o e n) n) b ?_ nm o
      cases q0 : g.H0 a with
      | none => rfl
      | some u =>
        have h1 := kk a u q0 fun h => nm (.inr (.inl h.res))
        have h2 : (reb g H1).H0 a = none := hn
        rw [h1] at h2; cases h2
    · have kk : ∀ a o, g.H0 a = some o → ¬ isB g.z a → (reb g H1).H0 a = some o := fun a o e n => by
        rw [reb_at fun ⟨j, h⟩ => by rw [(s1.new j a h).1] at e; cases e]
        exact s1.keep a o e n
      refine l.rg ds' p as H4 q (fun a o e n => x a o (kk a o e n) n) b ⟨fr.at_, fr.nd, fun a ha => ⟨?_, (fr.fr a ha).2⟩, fr.len, fr.ow⟩
      cases q0 : g.H0 a with
      | none => rfl
      | some u =>
        have h1 := kk a u q0 fun h => (fr.fr a ha).2 (.inr (.inl h.res))
        have h2 : (reb g H1).H0 a = none := (fr.fr a ha).1
        rw [h1] at h2; cases h2
  · have e : i = ds.length := by omega
    subst e
    rw [List.drop_length] at w'
    exact .inl ⟨wk.stop H' (lat_of (σ := σ') s'), l.nx ow S σ' H' (s1.unreb s') w'⟩
theorem ds_forP (he : PE X iter (lEP te)) (hg : PG X tg (lG is tgd)) (hb : PSs X body (lS tbd)) (hp : PassesOwn (model X.prog X.w) X.A X.env X.xe := by exact PassesOwn.never) (hc : X.calm = true := by rfl)
    (hs : ∀ x, foldedSetIterable iter X.env x = pure x := by intro _; rfl) : PS X (.For tg iter body [] pos) (lS (dsForP te tgd tbd)) :=
  PS.imp (ps_for hp hc (pi_any he) hg hb hs) fun D σ H ⟨g, De, s, w, l⟩ => ⟨g, _, s, w, fun ow S d v H1 w1 _ s1 r1 => by
    obtain ⟨ds, hd, w1⟩ := w1
    have l' : LE { g with ow := ow, S := S } De D := ⟨l.nx, l.bk, l.ct, l.rt, l.rf, l.rg⟩
    cases r1 <;> simp [itemsD] at hd
    · rename_i z
      subst hd
      exact .inr (.inr ⟨_, rfl, for_core l' s1 w1 (Wk.str z)⟩)
    · rename_i h n l
      subst hd
      exact .inl ⟨_, _, rfl, h, for_core l' s1 w1 (Wk.list h n l)⟩
    · rename_i h n l
      subst hd
      exact .inr (.inl ⟨_, _, rfl, h, for_core l' s1 w1 (Wk.tup h n l)⟩)⟩
end
section
variable {X : Cx} {tg iter : Expr} {pos : Pos} {is : List Nat} {ti : TDI} {tgd : TDG} {scope : Scope} {own : List (Str × Nat)} {i r : Nat}
/-- y = [[] for .. in ..] -/
theorem ds_resLc {lp : Pos} {y : Str} {py spos : Pos} (hi : DI X tg iter ti) (hN : X.N.Nodup) (hy : X.N[i]? = some y) (hyl : X.env.scope.names.lookup y = some .local) (hsw : swapsWith (.ListComp (.List [] lp) [⟨tg, iter, [], 0⟩] scope pos) (some (.Name y py)) spos.line X.env = pure true) (ok : BlkOk X.N X.env.scope scope own) (hg : BlkA X scope fun Y => PG Y tg (lG is tgd))
    (hv : ∀ j ∈ is, j ∈ own.map (·.2) := by decide) (hc : X.calm = true := by rfl) (hs : ∀ x, foldedSetIterable iter X.env x = pure x := by intro _; rfl) : PS X (.Assign [.Name y py] (.ListComp (.List [] lp) [⟨tg, iter, [], 0⟩] scope pos) spos) (lS (dsRes i r (dDeep ti tgd (own.map (·.2))))) := by
  obtain ⟨wi, hpi, hw⟩ := hi
  exact PS.imp (ps_setLc hc hN hy hyl hsw hpi ok hg (fun _ _ _ _ _ => dts_nil) (fun _ _ _ _ _ => df_lst da_nil) hs) fun D σ H ⟨g, De, s, w, l⟩ => deep_imp hw hv ⟨g, _, s, w, fun a as φ H1 w1 x1 s1 nd fr ok h1 => by
    have sp : Stt (apD g (a :: as)) σ H1 := s.apart x1 s1.bag (fun b hb => (fr b hb).1) fun b hb => (fr b hb).2
    obtain ⟨ow, s3⟩ := stt_set3 [i] (g := g) (vs := [.ref a]) (ks := [.res r a as φ]) (as := (a :: as) ++ []) (by rw [new3_res]; rfl) (by rw [List.append_nil]; exact sp) (by rw [List.append_nil]; exact nd) (fun b hb => by
      rw [List.append_nil] at hb
      exact ⟨s.fresh (fr b hb).1, s.keep.none_of (fr b hb).1 fun h => s.fresh (fr b hb).1 (res_M h.res)⟩) (.res ok (ok _ _ _ _ _ h1 (Tr.of fun b u n e => ⟨e, fun h => by
        rw [List.append_nil] at h
        exact n (apD_M.mp h)⟩) fun _ _ _ q => q) .nil) rfl
    exact l.nx ow _ _ H1 s3 w1⟩
end
end L2.DL
namespace L2.DL
open PySem PySem.Spec PyProof.Rows
section
variable {X : Cx} {o e f : Expr} {td ty tx : TE} {apos cpos : Pos}
/-- the statement, d owned -/
def dsDSetd (j : Nat) (tk tv : TDE) : TDS := fun De S => ∃ ks vs, S[j]? = some (.own (.dic true false ks vs)) ∧ tk S fun k => keyOk true k = true ∧ tv S fun v => ks.length < sizeLine ∧ ((dgetD ks vs k).isSome = true → De.nx S) ∧ (dgetD ks vs k = none → De.nx (S.set j (.own (.dic true false (dputK ks k) (dputV ks vs k v)))))
end
section
variable {X : Cx} {pos : Pos} {x y z : Str} {i j k : Nat} {a b c : Expr} {ts : TD3}
theorem ds_mul2R {px py pt : Pos} {kt k2 pt2} (hN : X.N.Nodup) (hi : X.N[i]? = some x) (hj : X.N[j]? = some y) (hij : i ≠ j) (hx : X.env.scope.names.lookup x = some .local) (hy : X.env.scope.names.lookup y = some .local) (ha : PA X [a, b] (l3 ts))
    (hw : swappedStores [.Tuple [.Name x px, .Name y py] kt pt] (.Tuple [a, b] k2 pt2) X.env = pure (some [x, y]) := by rfl) (hc : X.calm = true := by rfl)
    (hs : swapsWithSole [.Tuple [.Name x px, .Name y py] kt pt] (.Tuple [a, b] k2 pt2) pos.line X.env = pure false := by rfl) :
    PS X (.Assign [.Tuple [.Name x px, .Name y py] kt pt] (.Tuple [a, b] k2 pt2) pos) (lS (dsMul3 [i, j] ts)) := PS.imp (ps_par hc hN hi hj hij hx hy ha hw hs) fun D σ H h => by
  obtain ⟨g, Qd, s, w, kk⟩ := mul3_imp h
  refine ⟨g, Qd, s, w, fun ks vs H' q x s' nd hn kl => ?_⟩
  obtain ⟨hl, q⟩ := kk ks vs H' q x s' nd hn kl
  match vs, hl, q with
  | [v, v'], _, q => exact ⟨v, v', rfl, q⟩
end
end L2.DL
namespace L2.DL
open PySem PySem.Spec PyProof.Rows
section
variable {X : Cx} {pos : Pos} {x y u : Str} {i j k : Nat} {a b c : Expr} {ts : TD3}
/-- x, y, u = a, b, c, some of the names cells -/
theorem ds_mulT3R {px py pu pt : Pos} {kt k2 pt2} (hN : X.N.Nodup) (hi : X.N[i]? = some x) (hj : X.N[j]? = some y) (hk : X.N[k]? = some u) (hx : Loc X.env.scope x) (hy : Loc X.env.scope y) (hu : Loc X.env.scope u) (ha : PA X [a, b, c] (l3 ts))
    (hfx : X.fn x = true ∨ X.env.scope.names.lookup x = some .local := by first | exact .inl rfl | exact .inr rfl | assumption) (hfy : X.fn y = true ∨ X.env.scope.names.lookup y = some .local := by first | exact .inl rfl | exact .inr rfl | assumption)
    (hfu : X.fn u = true ∨ X.env.scope.names.lookup u = some .local := by first | exact .inl rfl | exact .inr rfl | assumption)
    (hc : X.calm = true := by rfl) (hs : swapsWithSole [.Tuple [.Name x px, .Name y py, .Name u pu] kt pt] (.Tuple [a, b, c] k2 pt2) pos.line X.env = pure false := by rfl) (hw : swappedStores [.Tuple [.Name x px, .Name y py, .Name u pu] kt pt] (.Tuple [a, b, c] k2 pt2) X.env = pure none := by rfl) :
    PS X (.Assign [.Tuple [.Name x px, .Name y py, .Name u pu] kt pt] (.Tuple [a, b, c] k2 pt2) pos) (lS (dsMulT3 [i, j, k] ts)) :=
  PS.imp (ps_asg (pe_tup ha) (pg_tup hc (pgs_cons (pg_name hN hi hx hfx) (pgs_cons (pg_name hN hj hy hfy) (pgs_cons (pg_name hN hk hu hfu) pgs_nil)))) hs hw) fun D σ H h => by
    obtain ⟨g, Qd, s, w, kk⟩ := mulT3_imp h
    refine ⟨g, Qd, s, w, fun ks vs H' q x s' nd hn kl => ?_⟩
    obtain ⟨hz, q⟩ := kk ks vs H' q x s' nd hn kl
    refine ⟨hz, fun p hp => ?_⟩
    obtain ⟨hl, q⟩ := q p hp
    match vs, hl, q with
    | [v1, v2, v3], _, q => exact ⟨p, [v1, v2, v3], rfl, .of upd_same, rfl, v1, [v2, v3], rfl, v2, [v3], rfl, v3, [], rfl, rfl, q⟩
end
end L2.DL
namespace L2.DL
open PySem PySem.Spec PyProof.Rows
end L2.DL
namespace L2.DL
open PySem PySem.Spec PyProof.Rows
end L2.DL
namespace L2
open PySem PySem.Spec PyProof.Rows
/-- list(o.values()), a dict whose keys are ints or texts -/
def tListVals (td : TE) : TE := fun σ H Q => td σ H fun x H1 => ∃ a kvs, x = V.ref a ∧ H1 a = some (.dK kvs) ∧ ∀ q, H1 q = none → Q (.ref q) (upd H1 q (.lst (kvs.map fun kv => kv.2)))
section
variable {X : Cx} {o : Expr} {p pos apos mpos : Pos} {td : TE}
theorem pe_listVals (hc : X.calm = true) (hg : Gl X "list") (hm : X.mg "list" = none) (hd : PE X o td) (hbase : attributeBase o "values" X.env (eval o X.env) = eval o X.env := by rfl) (hline : (apos.endLine == mpos.line) = true := by rfl)
    (na : starEach [Expr.Call (.Attribute o "values" apos) [] [] mpos] X.env = (false, eval (Expr.Call (.Attribute o "values" apos) [] [] mpos) X.env) :: starEach [] X.env := by rfl) :
    PE X (.Call (.Name "list" p) [.Call (.Attribute o "values" apos) [] [] mpos] [] pos) (tListVals td) := by
  refine ⟨fun pins s σ H Q I h => ?_⟩
  refine Call_ (ld_blt I hg hm boot_list (PyProof.Rows.callWith_type1 (args_cons (wpAny_Call_method0_late hbase hline (thn (hd.run pins s σ H _ I h) fun v s1 ⟨x, H1, I1, r1, a, kvs, ex, ha, q⟩ => ?_)) na) na))
  subst ex
  obtain rfl : v = Value.ref a := r1
  obtain ⟨hz, hsys, vs, rel, dof⟩ := dk_of I1.hok ha
  obtain ⟨ep, dat⟩ := dof.dictAt
  have dat' := dat
  obtain ⟨ob, es, ho, ex, hdat, hko, hpr, hnd⟩ := dat'
  refine ⟨"dict", "dict.values", F.plainAttrs_dict, F.slot_dict_values, F.type_dict_values, ⟨ob, ho, ex.1⟩, fun b e => ?_, Calls.callWith_builtin rfl (PySem.evalArgs_none ?_)⟩
  · cases e
    exact ⟨ob, ho, ex.2.1⟩
  refine call_meetsIn F.slot_dict_values ⟨ob, ho, ex.1⟩ F.entry_dict_values (F.args_dict_values_1 _) (meets_dict_values (mixKind X.prog X.w) a hsys) ⟨⟨vs, dof⟩, ?_⟩
  have k1 : ∀ b u, s1.heap.get? b = some u → (s1.heap.push { cls := .type "dict_values", data := .fields #[.ref a] }).get? b = some u := fun b u e => Heap.get?_push_of_some _ e
  have dat1 : (s1.heap.push { cls := .type "dict_values", data := .fields #[.ref a] }).DictAt (mixKind X.prog X.w) a vs ep := dat.keep k1
  have I2 : Inv X pins σ H1 { s1 with heap := s1.heap.push { cls := .type "dict_values", data := .fields #[.ref a] } } := I1.kept (t' := s1.toks) k1
  have hl : kvs.length = vs.length := KV.length rel
  refine args_nil ?_
  refine PySem.W.kdl_call (PySem.W.kdl_values (r := s1.heap.objs.size) (d := a) (knd := mixKind X.prog X.w) (kvs := vs) (ep := ep)) (I.ok.hd hc) ⟨⟨_, Heap.get?_push_size _ rfl, rfl, rfl⟩, dat1⟩ (by rw [← hl]; exact hz) fun h' tk acc' c' hkeep hS hacc => ?_
  refine ⟨V.ref (s1.heap.push { cls := .type "dict_values", data := .fields #[.ref a] }).objs.size, upd H1 (s1.heap.push { cls := .type "dict_values", data := .fields #[.ref a] }).objs.size (.lst (kvs.map fun kv => kv.2)), I2.laid hkeep (Nat.le_refl _) (show ObjOk X.prog X.w _ _ _ (.lst (kvs.map fun kv => kv.2)) from ⟨?_, acc'.toList, c', ?_, ?_⟩), rfl, q _ (I2.hok.fresh (Nat.le_refl _))⟩
  · rw [List.length_map]; exact hz
  · have el : acc'.toList.length = acc'.size := by simp
    refine vals_of_at (by rw [List.length_map, el, hacc.1, hl]) fun j x w h1 h2 => ?_
    obtain ⟨k, hky⟩ := hacc.2 j w (by rw [← Array.getElem?_toList]; exact h2)
    obtain ⟨y, e1, e2⟩ := KV.at' rel hky
    rw [List.getElem?_map, e1] at h1
    cases h1
    exact e2
  · rw [Array.toArray_toList]; exact hS
end
end L2
namespace L2.DL
open PySem PySem.Spec PyProof.Rows
/-- list(d.values()) -/
def dListV (ta : TDE) : TDE := fun S Q => ta S fun d => ∃ ks vs, d = .dic false false ks vs ∧ Q (.lst vs)
section
variable {X : Cx} {o : Expr} {p pos apos mpos : Pos} {ta : TDE}
theorem df_listVals (hm : X.mg "list" = none) (ha : PE X o (lP ta)) (hc : X.calm = true := by rfl) (hg : Gl X "list" := by rfl) (hbase : attributeBase o "values" X.env (eval o X.env) = eval o X.env := by rfl) (hline : (apos.endLine == mpos.line) = true := by rfl)
    (na : starEach [Expr.Call (.Attribute o "values" apos) [] [] mpos] X.env = (false, eval (Expr.Call (.Attribute o "values" apos) [] [] mpos) X.env) :: starEach [] X.env := by rfl) :
    PE X (.Call (.Name "list" p) [.Call (.Attribute o "values" apos) [] [] mpos] [] pos) (lF (dListV ta)) :=
  PE.imp (pe_listVals hc hg hm ha hbase hline na) fun σ H Q ⟨g, Qd, s, w, kk⟩ => ⟨g, _, s, w, fun d v H1 w1 x1 s1 r1 => by
    obtain ⟨ks, vs, rfl, q⟩ := w1
    obtain ⟨a, rfl, h⟩ := r1.dic
    rcases h with ⟨kvs, _, h1, rfl, l⟩ | ⟨kvs, h0, _⟩
    · refine ⟨a, kvs, rfl, h1, fun y hy => kk _ y _ q (x1.trans (.new hy)) (s1.alloc hy) (x1.none_of hy fun h => s1.fresh hy (res_M h.res)) (s1.fresh hy) (.lst upd_same ?_)⟩
      refine l.tr (Tr.of fun b o n e => ?_)
      have nb : b ≠ y := ne_of_none e hy
      exact ⟨by rw [upd_ne nb]; exact e, fun h => h.elim n nb⟩
    · cases h0⟩
end
end L2.DL
namespace L2.DL
open PySem PySem.Spec PyProof.Rows
end L2.DL
namespace L2.DL
open PySem PySem.Spec PyProof.Rows
end L2.DL
namespace L2.DL
open PySem PySem.Spec PyProof.Rows
end L2.DL
namespace L2.DL
open PySem PySem.Spec PyProof.Rows
end L2.DL
namespace L2.DL
open PySem PySem.Spec PyProof.Rows
/-- a list that begins with a whole number stands there -/
def LI (H : Hp) (a : Addr) : Prop := ∃ i xs, H a = some (.lst (V.int i :: xs))
def hdI : List D → Bool
  | .int _ :: _ => false
  | .raw _ :: _ => false
  | _ => true
mutual
/-- no list in it begins with a whole number -/
def noI : D → Bool
  | .lst es => hdI es && noIL es
  | .tup es => noIL es
  | .dic _ _ _ vs => noIL vs
  | .ins _ _ vs => noIL vs
  | .clo _ => false
  | _ => true
def noIL : List D → Bool
  | [] => true
  | d :: ds => noI d && noIL ds
end
theorem hdI_no {z : Bz} {M : MS} {H : Hp} {i : Int} {xs : List V} {ds : List D} (l : RpL z M H (V.int i :: xs) ds) : hdI ds = false := by
  cases l with
  | cons r _ => cases r <;> rfl
section
variable {z : Bz} {M : MS} {H : Hp}
theorem LkD.nli {lk : Bool} {a : Addr} {u : HO} (h : LkD lk H a u) (hu : isDic u = true) : ¬ LI H a := by
  rintro ⟨i, xs, e⟩
  exact h.ne e hu rfl
mutual
theorem noI_back : ∀ {v : V} {d : D}, Rp z M H v d → noI d = true → Rp z (fun b => M b ∨ LI H b) H v d
  | _, _, .non, _ => .non
  | _, _, .bl b, _ => .bl b
  | _, _, .int b, _ => .int b
  | _, _, .str b, _ => .str b
  | _, _, @Rp.lst _ _ _ a us ds r n l, h => by
    unfold noI at h
    rw [Bool.and_eq_true] at h
    refine .lst r (fun q => q.elim n fun ⟨i, xs, e⟩ => ?_) (noI_backL l h.2)
    rw [r] at e
    cases e
    rw [hdI_no l] at h
    cases h.1
  | _, _, .tup r n l, h => by
    unfold noI at h
    refine .tup r (fun q => q.elim n fun ⟨i, xs, e⟩ => ?_) (noI_backL l h)
    rw [r] at e
    cases e
  | _, _, .dicK r n l, h => by
    unfold noI at h
    exact .dicK r (fun q => q.elim n (r.nli rfl)) (noI_backL l h)
  | _, _, .dicT r n l, h => by
    unfold noI at h
    exact .dicT r (fun q => q.elim n (r.nli rfl)) (noI_backL l h)
  | _, _, .ins r q n l, h => by
    unfold noI at h
    refine .ins r q (fun q => q.elim n fun ⟨i, xs, e⟩ => ?_) (noI_backL l h)
    rw [r] at e
    cases e
  | _, _, .slf r n l, h => by
    unfold noI noIL at h
    rw [Bool.and_eq_true] at h
    refine .slf r (fun q => q.elim n fun ⟨i, xs, e⟩ => ?_) (noI_backL l h.2)
    rw [r] at e
    cases e
  | _, _, .raw v, _ => .raw v
  | _, _, .bag e, _ => .bag e
  | _, _, .clo c, h => by
    unfold noI at h
    cases h
theorem noI_backL : ∀ {v : List V} {d : List D}, RpL z M H v d → noIL d = true → RpL z (fun b => M b ∨ LI H b) H v d
  | _, _, .nil, _ => .nil
  | _, _, .cons a b, h => by
    unfold noIL at h
    rw [Bool.and_eq_true] at h
    exact .cons (noI_back a h.1) (noI_backL b h.2)
end
end
theorem noIL_iff : ∀ {ds : List D}, noIL ds = true ↔ ∀ d ∈ ds, noI d = true
  | [] => by simp [noIL]
  | d :: ds => by unfold noIL; rw [Bool.and_eq_true, noIL_iff]; simp
theorem noIL_map {α : Type} {f : α → D} {l : List α} (h : ∀ x ∈ l, noI (f x) = true) : noIL (l.map f) = true := noIL_iff.mpr fun d hd => by
  obtain ⟨x, hx, rfl⟩ := List.mem_map.mp hd
  exact h x hx
abbrev liD (L : List Int) : D := .lst (L.map .int)
theorem rpl_ints {z : Bz} {M : MS} {H : Hp} : ∀ {us : List V} {L : List Int}, RpL z M H us (L.map .int) → us = L.map V.int
  | _, [], .nil => rfl
  | _, i :: L, .cons r l => by
    cases r
    rw [rpl_ints l]
    rfl
theorem ints_rpl {z : Bz} {M : MS} {H : Hp} : ∀ {L : List Int}, RpL z M H (L.map V.int) (L.map .int)
  | [] => .nil
  | i :: L => .cons (.int i) ints_rpl
theorem rpl_li {z : Bz} {M : MS} {H : Hp} : ∀ {xs : List V} {Ls : List (List Int)}, RpL z M H xs (Ls.map liD) → ∃ as : List Addr, xs = as.map .ref ∧ as.length = Ls.length ∧ ∀ (k : Nat) b L, as[k]? = some b → Ls[k]? = some L → H b = some (.lst (L.map V.int)) ∧ ¬ M b
  | _, [], .nil => ⟨[], rfl, rfl, fun k b L h => by simp at h⟩
  | x :: xs, L :: Ls, .cons r l => by
    obtain ⟨as, e1, e2, e3⟩ := rpl_li l
    cases r with
    | @lst a us _ h n lu =>
      rw [rpl_ints lu] at h
      refine ⟨a :: as, by rw [e1]; rfl, by simp [e2], fun k b L' h1 h2 => ?_⟩
      cases k with
      | zero => simp at h1 h2; subst h1 h2; exact ⟨h, n⟩
      | succ k => exact e3 k b L' (by simpa using h1) (by simpa using h2)
theorem map_int_inj : ∀ {L L' : List Int}, L.map V.int = L'.map V.int → L = L'
  | [], [], _ => rfl
  | [], _ :: _, h => by simp at h
  | _ :: _, [], h => by simp at h
  | a :: L, b :: L', h => by
    rw [List.map_cons, List.map_cons] at h
    injection h with h1 h2
    cases h1
    rw [map_int_inj h2]
theorem nodup_of_ix {α : Type} : ∀ {l : List α}, (∀ (i j : Nat) x, l[i]? = some x → l[j]? = some x → i = j) → l.Nodup
  | [], _ => List.nodup_nil
  | a :: l, h => by
    refine List.nodup_cons.mpr ⟨fun hm => ?_, nodup_of_ix fun i j x h1 h2 => by
      have := h (i + 1) (j + 1) x (by simpa using h1) (by simpa using h2)
      omega⟩
    obtain ⟨k, hk⟩ := List.getElem?_of_mem hm
    have := h 0 (k + 1) a rfl (by simpa using hk)
    omega
/-- what the result must be -/
def DpOk (d : D) (Q : Addr → List Addr → (Bz → (Addr → Prop) → Hp → Prop) → Prop) : Prop := ∃ Ls : List (List Int), d = .lst (Ls.map liD) ∧ (∀ L ∈ Ls, L ≠ []) ∧ Ls.Nodup ∧ ∀ a as, as.length = Ls.length → Q a as (deepR a as (Ls.map fun L => L.map .int))
def LM (g : Gh) (H : Hp) : MS := fun b => g.M b ∨ LI H b
theorem LM_amb {g : Gh} {σ : St} {H : Hp} (s : Stt g σ H) : Amb g.z (LM g H) H := ⟨s.bag, fun a h => h.elim (s.alive a) fun ⟨i, xs, e⟩ => ⟨_, e, trivial⟩, fun a h => .inl (res_M h)⟩
theorem dp_end {g : Gh} {σ : St} {H H1 H' : Hp} {Qd : Addr → List Addr → (Bz → (Addr → Prop) → Hp → Prop) → Prop} {Q : VK} {d : D} {a : Addr} (s : Stt g σ H1) (x1 : Ext g.z H H1) (kk : ∀ a as φ H', Qd a as φ → Ext g.z H H' → Stt g σ H' → (a :: as).Nodup → (∀ b ∈ a :: as, H b = none ∧ Nt H' b) → RsOk (a :: as) φ → φ g.z (fun b => g.M b ∨ b ∈ a :: as) H' → Q (.ref a) H')
    (q : DpOk d Qd) (x : Ext g.z H1 H') (b : BagOk g.z H') (hn : H1 a = none) (o : OwF g.z (LM g H1) H' a d) : Q (.ref a) H' := by
  obtain ⟨Ls, rfl, ne, nd, q⟩ := q
  cases o with
  | lst e l =>
    obtain ⟨as, rfl, e2, e3⟩ := rpl_li l
    have at_ : ∀ (k : Nat) b, as[k]? = some b → ∃ L, Ls[k]? = some L ∧ L ≠ [] ∧ H' b = some (.lst (L.map V.int)) ∧ ¬ LM g H1 b := fun k b h => by
      have hl := (List.getElem?_eq_some_iff.mp h).1
      rw [e2] at hl
      have h2 : Ls[k]? = some Ls[k] := List.getElem?_eq_getElem hl
      obtain ⟨q1, q2⟩ := e3 k b _ h h2
      exact ⟨_, h2, ne _ (List.mem_of_getElem? h2), q1, fun q => q2 (.inl q)⟩
    have fr : ∀ b ∈ as, H1 b = none ∧ Nt H' b := fun b hb => by
      obtain ⟨k, hk⟩ := List.getElem?_of_mem hb
      obtain ⟨L, _, hne, q1, q2⟩ := at_ k b hk
      refine ⟨?_, _, q1, trivial⟩
      cases q0 : H1 b with
      | none => rfl
      | some u =>
        exfalso
        have h1 := x b u q0 fun h => q2 (.inl (res_M h.res))
        rw [q1] at h1
        cases h1
        match L, hne with
        | i :: L, _ => exact q2 (.inr ⟨i, L.map V.int, q0⟩)
    have nda : as.Nodup := nodup_of_ix fun i j b hi hj => by
      obtain ⟨L, l1, _, q1, _⟩ := at_ i b hi
      obtain ⟨L', l2, _, q2, _⟩ := at_ j b hj
      rw [q1] at q2
      injection q2 with q2
      injection q2 with q2
      rw [← map_int_inj q2] at l2
      obtain ⟨g1, g2⟩ := List.getElem?_eq_some_iff.mp l1
      obtain ⟨g3, g4⟩ := List.getElem?_eq_some_iff.mp l2
      exact nodup_ix nd g1 g3 (g2.trans g4.symm)
    have na : a ∉ as := fun h => by
      obtain ⟨k, hk⟩ := List.getElem?_of_mem h
      obtain ⟨L, _, hne, q1, _⟩ := at_ k a hk
      rw [e] at q1
      injection q1 with q1
      injection q1 with q1
      match as, L, hk, hne, q1 with
      | c :: as, i :: L, _, _, q1 =>
        rw [List.map_cons, List.map_cons] at q1
        injection q1 with q1
        cases q1
    have ndc : (a :: as).Nodup := List.nodup_cons.mpr ⟨na, nda⟩
    refine kk a as _ H' (q a as e2) (x1.trans x) (s.ext x b) ndc (fun c hc => ?_) deepR_ok ⟨ndc, e, by rw [List.length_map, e2], fun k c d' h1 h2 => ?_⟩
    · rcases List.mem_cons.mp hc with rfl | hc
      · exact ⟨x1.none_of hn fun h => s.fresh hn (res_M h.res), _, e, trivial⟩
      · exact ⟨x1.none_of (fr c hc).1 fun h => s.fresh (fr c hc).1 (res_M h.res), (fr c hc).2⟩
    · rw [List.getElem?_map] at h2
      obtain ⟨L, hL, rfl⟩ := Option.map_eq_some_iff.mp h2
      obtain ⟨L', l1, _, q1, _⟩ := at_ k c h1
      rw [hL] at l1
      cases l1
      exact ⟨_, q1, ints_rpl⟩
section
variable {X : Cx} {e o : Expr} {es : List Expr} {te to : TDE} {ts : TDA} {C f : Addr} {x m : Str} {pos p apos : Pos} {n k kf j r : Nat} {fd : FuncData} {ps : List Str} {tf : TDF} {dvs : List V} {dds : List D}
/-- f(..): a new list of new lists -/
def dFnDp (tf : TDF) (dds : List D) (ts : TDA) : TDR := fun S Q => ts S fun ds => noIL (ds ++ dds) = true ∧ tf (ds ++ dds) fun d => DpOk d Q
theorem dr_fnDp (F : FnOk X.prog X.w X.K X.mg X.base CX0 k f fd ps (spF n tf)) (hr : Room k X.A) (hm : X.mg x = some (.ref f)) (hk : PySem.W.keepIn X.K (.ref f) = true) (hb : ∃ dsv, Vals dvs dsv ∧ Binds X.K fd ps dsv) (hdd : ∀ z M H, RpL z M H dvs dds) (ha : PA X (e :: es) (lA ts)) (hn : ∀ ds Q, tf ds Q → ds.length = n) (hg : Gl X x := by rfl)
    (hdb : (x == ("__debug__" : Str)) = false := by decide) (he : starEach (e :: es) X.env = (false, eval e X.env) :: starEach es X.env := by rfl) (hpl : (backTo pos (starEach es X.env)).any (·.1) = false := by rfl) : PE X (.Call (.Name x p) (e :: es) [] pos) (lR (dFnDp tf dds ts)) := by
  obtain ⟨dsv, hd, hb⟩ := hb
  exact PE.imp (pe_call F hr hg hm hk hb hd pass0 ha hdb he hpl) fun σ H Q ⟨g, Qd, s, w, kk⟩ =>
    ⟨g, _, s, w, fun ds vs H1 w1 x1 s1 r1 => by
      have r2 := noI_backL (r1.append (hdd g.z g.M H1)) w1.1
      exact ⟨by rw [r2.length]; exact hn _ _ w1.2, g.z, LM g H1, _, _, LM_amb s1, r2, w1.2, fun d a H' q x b hna nm o => dp_end s1 x1 kk q x b hna o⟩⟩
def lAB (t : TDA) : TA := fun σ H Q => ∃ (g : Gh) (Qd : List D → Prop), Stt g σ H ∧ t g.S Qd ∧ ∀ ds vs H', Qd ds → Ext g.z H H' → Stt g σ H' → RpL g.z (MB g) H' vs ds → Q vs H'
theorem ab_nil : PA X [] (lAB daNil) := PA.imp pa_nil fun σ H Q ⟨g, Qd, s, w, k⟩ => k [] [] H w .refl s .nil
theorem MB_tr {g : Gh} {H : Hp} : Tr g.M H (MB g) H := Tr.of fun a o n e => ⟨e, fun q => n (MB_sub q)⟩
theorem MB_ext {g : Gh} {H H' : Hp} (x : Ext g.z H H') : Tr (MB g) H (MB g) H' := x.trMS fun a h => .inr h
theorem ab_P (he : PE X e (lP te)) (hr : PA X es (lAB ts)) (hs : starEach (e :: es) X.env = (false, eval e X.env) :: starEach es X.env := by rfl) : PA X (e :: es) (lAB (daCons te ts)) := PA.imp (pa_cons he hr hs) fun σ H Q ⟨g, Qd, s, w, k⟩ =>
  ⟨g, _, s, w, fun d v H1 w1 x1 s1 r1 => ⟨g, _, s1, w1, fun ds vs H2 w2 x2 s2 l2 => k (d :: ds) (v :: vs) H2 w2 (x1.trans x2) s2 (.cons (r1.borrow.tr (MB_ext x2)) l2)⟩⟩
def daDeep (j r : Nat) (ts : TDA) : TDA := fun S Q => ∃ a as dl, S[j]? = some (.val (.raw (.ref a))) ∧ S[r]? = some (deepS a as dl) ∧ ts S fun ds => Q (.lst (dl.map .lst) :: ds)
theorem deep_mb {g : Gh} {σ : St} {H : Hp} {a : Addr} {as : List Addr} {dl : List (List D)} (s : Stt g σ H) (er : g.S[r]? = some (deepS a as dl)) : Rp g.z (MB g) H (.ref a) (.lst (dl.map .lst)) := by
  have R := (s.rs r _ _ er).at_
  have nm : ∀ b ∈ a :: as, ¬ MB g b := fun b hb h => by
    obtain ⟨q1, q2, q3⟩ := s.rsNew er hb
    exact h.elim q2 q3
  exact .lst R.at_ (nm a (by simp)) (deep_rpl MB_tr R.len (fun b hb => nm b (by simp [hb])) R.it)
theorem ab_D (ho : PE X o (tVar j)) (hr : PA X es (lAB ts)) (hs : starEach (o :: es) X.env = (false, eval o X.env) :: starEach es X.env := by rfl) : PA X (o :: es) (lAB (daDeep j r ts)) := PA.imp (pa_cons ho hr hs) fun σ H Q ⟨g, Qd, s, ⟨a, as, dl, ea, er, w⟩, k⟩ => by
  obtain ⟨u, e1, ru⟩ := s.val j _ ea
  cases ru.raw_inv
  exact ⟨.ref a, e1, g, _, s, w, fun ds vs H2 w2 x2 s2 l2 => k (_ :: ds) (.ref a :: vs) H2 w2 x2 s2 (.cons (deep_mb s2 er) l2)⟩
theorem de_fnAB (F : FnOk X.prog X.w X.K X.mg X.base CX0 k f fd ps (spE n tf)) (hr : Room k X.A) (hm : X.mg x = some (.ref f)) (hk : PySem.W.keepIn X.K (.ref f) = true) (hb : ∃ dsv, Vals dvs dsv ∧ Binds X.K fd ps dsv) (hdd : ∀ z M H, RpL z M H dvs dds) (ha : PA X (e :: es) (lAB ts)) (hn : ∀ ds Q, tf ds Q → ds.length = n) (hg : Gl X x := by rfl)
    (hdb : (x == ("__debug__" : Str)) = false := by decide) (he : starEach (e :: es) X.env = (false, eval e X.env) :: starEach es X.env := by rfl) (hpl : (backTo pos (starEach es X.env)).any (·.1) = false := by rfl) : PE X (.Call (.Name x p) (e :: es) [] pos) (lE (dFnB tf dds ts)) := by
  obtain ⟨dsv, hd, hb⟩ := hb
  exact PE.imp (pe_call F hr hg hm hk hb hd pass0 ha hdb he hpl) fun σ H Q ⟨g, Qd, s, w, kk⟩ =>
    ⟨g, _, s, w, fun ds vs H1 w1 x1 s1 r1 => by
      have r2 := r1.append (hdd g.z (MB g) H1)
      exact ⟨by rw [r2.length]; exact hn _ _ w1, g.z, MB g, _, _, ⟨s1.bag, fun a h => s1.alive a (MB_sub h), fun a h => .inr h⟩, r2, w1, fun d v H' q x b rp => kk d v H' q.2 (x1.trans x) (s1.ext x b) (flat_back rp q.1)⟩⟩
end
end L2.DL
namespace L2.DL
open PySem PySem.Spec PyProof.Rows
section
variable {α : Type} {kf vf : α → D}
theorem dhas_no {P : List α} {k : D} (h : ∀ p ∈ P, kEq (kf p) k = false) : dhas (P.map kf) k = false := by
  unfold dhas
  rw [List.any_map, List.any_eq_false]
  intro p hp
  rw [Function.comp, h p hp]
  decide
theorem dfold_go : ∀ (L P : List α), (∀ p ∈ P, ∀ x ∈ L, kEq (kf p) (kf x) = false) → L.Pairwise (fun a b => kEq (kf a) (kf b) = false) →
    (L.map fun x => D.tup [kf x, vf x]).foldl dstep (P.map kf, P.map vf) = ((P ++ L).map kf, (P ++ L).map vf)
  | [], P, _, _ => by simp
  | x :: L, P, h, hp => by
    rw [List.map_cons, List.foldl_cons]
    have e : dstep (P.map kf, P.map vf) (D.tup [kf x, vf x]) = ((P ++ [x]).map kf, (P ++ [x]).map vf) := by
      have hn : dhas (P.map kf) (kf x) = false := dhas_no fun p hp => h p hp x (by simp)
      show (dputK (P.map kf) (kf x), dputV (P.map kf) (P.map vf) (kf x) (vf x)) = _
      unfold dputK dputV
      rw [hn]
      simp
    rw [e, dfold_go L (P ++ [x]) ?_ (List.pairwise_cons.mp hp).2]
    · simp
    · intro p hp' y hy
      rcases List.mem_append.mp hp' with q | q
      · exact h p q y (by simp [hy])
      · have : p = x := by simpa using q
        subst this
        exact (List.pairwise_cons.mp hp).1 y hy
theorem dfold_map {L : List α} (h : L.Pairwise fun a b => kEq (kf a) (kf b) = false) : dfold (L.map fun x => D.tup [kf x, vf x]) = (L.map kf, L.map vf) := by
  have := dfold_go (kf := kf) (vf := vf) L [] (fun _ h => nomatch h) h
  simpa [dfold] using this
theorem dget_map [DecidableEq α] {L : List α} {x : α} (hk : ∀ a b, kEq (kf a) (kf b) = decide (a = b)) : dgetD (L.map kf) (L.map vf) (kf x) = if x ∈ L then some (vf x) else none := by
  induction L with
  | nil => simp [dgetD]
  | cons y L ih =>
    rw [List.map_cons, List.map_cons, dgetD, hk, ih]
    by_cases e : y = x
    · subst e; simp
    · have e' : ¬ x = y := fun q => e q.symm
      simp [e, e']
theorem dput_map [DecidableEq α] {L : List α} {x : α} {v : D} (hk : ∀ a b, kEq (kf a) (kf b) = decide (a = b)) (hx : x ∈ L) : dputK (L.map kf) (kf x) = L.map kf ∧ dputV (L.map kf) (L.map vf) (kf x) v = L.map fun a => if a = x then v else vf a := by
  have h : dhas (L.map kf) (kf x) = true := by
    unfold dhas
    rw [List.any_map, List.any_eq_true]
    exact ⟨x, hx, by rw [Function.comp, hk]; simp⟩
  unfold dputK dputV
  rw [h]
  refine ⟨rfl, ?_⟩
  simp only [if_true]
  clear h hx
  induction L with
  | nil => rfl
  | cons y L ih =>
    rw [List.map_cons, List.map_cons, dmapV, hk, ih]
    by_cases e : y = x <;> simp [e]
theorem dput_new [DecidableEq α] {L : List α} {x : α} {v : D} (hk : ∀ a b, kEq (kf a) (kf b) = decide (a = b)) (hx : x ∉ L) : dputK (L.map kf) (kf x) = (L ++ [x]).map kf ∧ dputV (L.map kf) (L.map vf) (kf x) v = L.map vf ++ [v] := by
  have h : dhas (L.map kf) (kf x) = false := dhas_no fun p hp => by rw [hk]; exact decide_eq_false fun e => hx (e ▸ hp)
  unfold dputK dputV
  rw [h]
  simp
end
end L2.DL
namespace L2.DL
open PySem PySem.Spec PyProof.Rows
def tk (d : D) : List (Int ⊕ List Nat) := PySem.W.keyToks (toPy d)
theorem dle_def (a b : D) : dle a b = !PyProof.Rows.lexLt PyProof.Rows.itemOrd (tk b) (tk a) := rfl
theorem dle_total (a b : D) : (dle a b || dle b a) = true := by
  rw [dle_def, dle_def]
  cases h : PyProof.Rows.lexLt PyProof.Rows.itemOrd (tk b) (tk a)
  · rfl
  · cases h2 : PyProof.Rows.lexLt PyProof.Rows.itemOrd (tk a) (tk b)
    · rfl
    · exact absurd (PyProof.Rows.lex_trans (O := PyProof.Rows.itemOrd) _ _ _ h h2) (by rw [PyProof.Rows.lex_irrefl (O := PyProof.Rows.itemOrd)]; decide)
theorem dle_trans (a b c : D) (h1 : dle a b = true) (h2 : dle b c = true) : dle a c = true := by
  rw [dle_def, Bool.not_eq_true'] at *
  cases h : PyProof.Rows.lexLt PyProof.Rows.itemOrd (tk c) (tk a)
  · rfl
  · rcases PyProof.Rows.lex_negTrans (O := PyProof.Rows.itemOrd) (tk c) (tk b) (tk a) h with q | q
    · rw [q] at h2; cases h2
    · rw [q] at h1; cases h1
theorem dle_anti {a b : D} (h1 : dle a b = true) (h2 : dle b a = true) : tk a = tk b := by
  rw [dle_def, Bool.not_eq_true'] at *
  exact PyProof.Rows.lex_total (O := PyProof.Rows.itemOrd) _ _ h2 h1
theorem sortD_perm (ds : List D) : (sortD ds).Perm ds := List.mergeSort_perm ..
theorem sortD_mem {ds : List D} {d : D} : d ∈ sortD ds ↔ d ∈ ds := (sortD_perm ds).mem_iff
theorem sortD_length (ds : List D) : (sortD ds).length = ds.length := (sortD_perm ds).length_eq
theorem sortD_sorted (ds : List D) : (sortD ds).Pairwise fun a b => dle a b = true := List.pairwise_mergeSort dle_trans dle_total ds
theorem sorted_uniq {A B : List D} (p : A.Perm B) (hA : A.Pairwise fun a b => dle a b = true) (hB : B.Pairwise fun a b => dle a b = true) (inj : ∀ x ∈ A, ∀ y ∈ A, tk x = tk y → x = y) : A = B :=
  p.eq_of_pairwise (fun a b ha hb h1 h2 => inj a ha b (p.mem_iff.mpr hb) (dle_anti h1 h2)) hA hB
theorem sortD_eq {A B : List D} (p : A.Perm B) (inj : ∀ x ∈ A, ∀ y ∈ A, tk x = tk y → x = y) : sortD A = sortD B :=
  sorted_uniq ((sortD_perm A).trans (p.trans (sortD_perm B).symm)) (sortD_sorted A) (sortD_sorted B) fun x hx y hy => inj x (sortD_mem.mp hx) y (sortD_mem.mp hy)
theorem sortD_iff {A B : List D} (inj : ∀ x ∈ A, ∀ y ∈ A, tk x = tk y → x = y) : sortD A = sortD B ↔ A.Perm B :=
  ⟨fun h => (sortD_perm A).symm.trans (h ▸ sortD_perm B), fun h => sortD_eq h inj⟩
/-- rows of one shape -/
theorem canSort_map {α : Type} {f : α → D} {L : List α} (h1 : ∀ x ∈ L, plainD (f x) = true) (h2 : ∀ x ∈ L, dep (f x) ≤ 64) (h3 : ∀ x ∈ L, ∀ y ∈ L, PySem.W.alike (toPy (f x)) (toPy (f y)) = true)
    (h4 : ∀ x ∈ L, ∃ a r, toPy (f x) = .tuple (a :: r)) (h5 : L.length ≤ sizeLine) : CanSort (L.map f) where
  plain := fun d hd => by obtain ⟨x, hx, rfl⟩ := List.mem_map.mp hd; exact h1 x hx
  dep := fun d hd => by obtain ⟨x, hx, rfl⟩ := List.mem_map.mp hd; exact h2 x hx
  alike := fun d hd e he => by
    obtain ⟨d', hd', rfl⟩ := List.mem_map.mp hd
    obtain ⟨e', he', rfl⟩ := List.mem_map.mp he
    obtain ⟨x, hx, rfl⟩ := List.mem_map.mp hd'
    obtain ⟨y, hy, rfl⟩ := List.mem_map.mp he'
    exact h3 x hx y hy
  kind := .inl fun d hd => by
    obtain ⟨d', hd', rfl⟩ := List.mem_map.mp hd
    obtain ⟨x, hx, rfl⟩ := List.mem_map.mp hd'
    exact h4 x hx
  len := by rw [List.length_map]; exact h5
theorem dle_int (a b : Int) : dle (.int a) (.int b) = decide (a ≤ b) := congrFun (congrFun (PySem.W.dataLe_int (fun x : Int => x)) a) b
theorem tk_int {a b : Int} (h : tk (.int a) = tk (.int b)) : a = b := by simpa [tk, toPy, PySem.W.keyToks] using h
theorem wpMap_on {α : Type} {f : D → (List D → Prop) → Prop} {kf : α → D} (g : α → D) : ∀ {L : List α} {Q : List D → Prop}, (∀ x ∈ L, ∀ k : List D → Prop, k [g x] → f (kf x) k) → Q (L.map g) → wpMap f (L.map kf) Q
  | [], Q, _, q => q
  | x :: L, Q, h, q => h x (by simp) _ (wpMap_on g (L := L) (fun y hy => h y (by simp [hy])) q)
end L2.DL
namespace L2.DL.LW
open PySem PySem.Spec PyProof.Rows
theorem bools_map {α : Type} (f : α → Bool) : ∀ xs : List α, bools (xs.map fun x => .bl (f x)) = some (xs.map f)
  | [] => rfl
  | x :: xs => by simp [bools, bools_map f xs]
abbrev abcL : List Nat := [97, 98, 99, 100, 101, 102, 103, 104, 105, 106, 107, 108, 109, 110, 111, 112, 113, 114, 115, 116, 117, 118, 119, 120, 121, 122]
theorem letters_eq : (Str.ofString "abcdefghijklmnopqrstuvwxyz").cps.toList = abcL := by decide +kernel
theorem empty_eq : (Str.ofString "").cps.toList = [] := by decide +kernel
theorem atI_abc {n : Int} (h0 : 0 ≤ n) (h1 : n < 26) : atI abcL n = some (97 + n.toNat) := by
  have key : ∀ k : Fin 26, atI abcL (k.1 : Int) = some (97 + k.1) := by decide +kernel
  have := key ⟨n.toNat, by omega⟩
  rw [Int.toNat_of_nonneg h0] at this
  exact this
def lowL (c : Nat) : Bool := decide (c ∈ abcL)
theorem lowL_iff {c : Nat} : lowL c = true ↔ 97 ≤ c ∧ c ≤ 122 := by
  unfold lowL
  rw [decide_eq_true_iff]
  constructor
  · intro h
    simp only [abcL, List.mem_cons, List.not_mem_nil, or_false] at h
    omega
  · intro h
    have : ∀ k : Fin 26, 97 + k.1 ∈ abcL := by decide +kernel
    have := this ⟨c - 97, by omega⟩
    rwa [show 97 + (c - 97) = c by omega] at this
theorem lt1 (x y : Nat) : decide ([x] < [y]) = decide (x < y) := by
  congr 1
  simp [List.cons_lt_cons_iff]
def isNumD : D → Int → Int → Bool
  | .int i, lo, hi => decide (lo ≤ i) && decide (i ≤ hi)
  | _, _, _ => false
def lenOk : D → Prop
  | .str s => s.length ≤ sizeLine
  | _ => True
instance (d : D) : Decidable (lenOk d) := by
  cases d <;> unfold lenOk <;> infer_instance
def isWordD : D → Int → Bool
  | .str s, m => decide ((s.length : Int) ≤ m) && s.all lowL
  | _, _ => false
def isAlphaD : D → Bool
  | .str [x] => lowL x
  | .str [x, y] => lowL x && lowL y && decide (x < y)
  | .str [x, y, z] => lowL x && lowL y && lowL z && decide (x < y) && decide (y < z)
  | _ => false
def LowS (s : List Nat) : Prop := ∀ c ∈ s, lowL c = true
theorem deqv_str (x y : List Nat) : deqv (.str x) (.str y) = decide (x = y) := by
  show PyData.eqv _ _ = _
  simp only [toPy, PyData.eqv]
  by_cases h : x = y <;> simp [h]
theorem low_ok {s : List Nat} (h : LowS s) : okD (.str s) = true := by
  unfold okD
  rw [Bool.and_eq_true]
  refine ⟨?_, rfl⟩
  simp only [plainD, List.all_eq_true, decide_eq_true_eq]
  intro c hc
  have := lowL_iff.mp (h c hc)
  omega
/-- a transition: source, letter, target, safe -/
structure Row where
  s : Nat
  l : Nat
  t : Nat
  w : Bool
deriving DecidableEq
def wC (b : Bool) : List Nat := if b then [115, 97, 102, 101] else [115, 108, 105, 112]
theorem safe_eq : (Str.ofString "safe").cps.toList = wC true := by decide +kernel
theorem slip_eq : (Str.ofString "slip").cps.toList = wC false := by decide +kernel
def rowD (r : Row) : D := .tup [.int r.s, .str [r.l], .int r.t, .str (wC r.w)]
def pairD (r : Row) : D := .tup [.int r.t, .str (wC r.w)]
def keyA (k : Nat × Nat) : D := .tup [.int k.1, .str [k.2]]
def keysA (al : List Nat) (n : Nat) : List (Nat × Nat) := (List.range n).flatMap fun s => al.map fun l => (s, l)
def atA (rs : List Row) (k : Nat × Nat) : List Row := rs.filter fun r => decide ((r.s, r.l) = k)
def movA (rs : List Row) (k : Nat × Nat) : D := .lst (sortD ((atA rs k).map pairD))
def autD (C : Addr) (al : List Nat) (n : Nat) (i : Nat) (rs : List Row) : D :=
  .ins C ["alphabet", "size", "initial", "own_moves"] [.str al, .int n, .int i, .dic true true ((keysA al n).map keyA) ((keysA al n).map (movA rs))]
/-- what __init__ asks -/
structure GoodA (al : List Nat) (n : Nat) (i : Nat) (rs : List Row) : Prop where
  alp : isAlphaD (.str al) = true
  lo : 1 ≤ n
  hi : n ≤ 65
  len : rs.length ≤ 80000
  src : ∀ r ∈ rs, r.s < n
  let' : ∀ r ∈ rs, r.l ∈ al
  tgt : ∀ r ∈ rs, r.t < n
  nd : (rs.map fun r => (r.s, r.l, r.t)).Nodup
  full : ∀ k ∈ keysA al n, atA rs k ≠ []
  ini : i < n
theorem alpha_len {s : List Nat} (h : isAlphaD (.str s) = true) : s.length ≤ 3 := by
  match s, h with
  | [_], _ => simp
  | [_, _], _ => simp
  | [_, _, _], _ => simp
theorem inStr_mem (c : Nat) (al : List Nat) : inStr [c] al = decide (c ∈ al) := rfl
theorem keyA_eq (a b : Nat × Nat) : kEq (keyA a) (keyA b) = decide (a = b) := by
  obtain ⟨a1, a2⟩ := a
  obtain ⟨b1, b2⟩ := b
  simp only [keyA, kEq, kEqL, Bool.and_true]
  by_cases h1 : a1 = b1 <;> by_cases h2 : a2 = b2 <;> simp [h1, h2]
  omega
theorem comp_keys (al : List Nat) (n : Nat) : (((List.range (n : Int).toNat).map fun i : Nat => D.int (0 + (i : Int))).flatMap fun d => al.map fun c => D.tup [D.tup [d, D.str [c]], D.lst []]) = (keysA al n).map fun k => D.tup [keyA k, D.lst []] := by
  simp [keysA, List.flatMap_map, List.map_flatMap, keyA, Function.comp_def]
theorem keysA_succ (al : List Nat) (n : Nat) : keysA al (n + 1) = keysA al n ++ al.map fun l => (n, l) := by
  simp [keysA, List.range_succ]
theorem keysA_mem {al : List Nat} {n : Nat} {k : Nat × Nat} : k ∈ keysA al n ↔ k.1 < n ∧ k.2 ∈ al := by
  obtain ⟨a, b⟩ := k
  simp only [keysA, List.mem_flatMap, List.mem_range, List.mem_map, Prod.mk.injEq]
  constructor
  · rintro ⟨s, hs, l, hl, rfl, rfl⟩
    exact ⟨hs, hl⟩
  · rintro ⟨h1, h2⟩
    exact ⟨a, h1, b, h2, rfl, rfl⟩
theorem keysA_nd {al : List Nat} (h : al.Nodup) (n : Nat) : (keysA al n).Nodup := by
  induction n with
  | zero => simp [keysA]
  | succ n ih =>
    rw [keysA_succ, List.nodup_append]
    refine ⟨ih, ?_, fun x hx y hy e => ?_⟩
    · rw [List.Nodup, List.pairwise_map]
      exact h.imp fun q e => q (by simpa using e)
    · subst e
      obtain ⟨l, _, rfl⟩ := List.mem_map.mp hy
      have := (keysA_mem.mp hx).1
      simp at this
theorem alpha_nd {s : List Nat} (h : isAlphaD (.str s) = true) : s.Nodup := by
  match s, h with
  | [_], _ => simp
  | [x, y], h => simp [isAlphaD] at h; simp; omega
  | [x, y, z], h => simp [isAlphaD] at h; simp; omega
theorem keysA_pw {al : List Nat} (h : isAlphaD (.str al) = true) (n : Nat) : (keysA al n).Pairwise fun a b => kEq (keyA a) (keyA b) = false :=
  (keysA_nd (alpha_nd h) n).imp fun q => by rw [keyA_eq]; exact decide_eq_false q
def key3 (k : Nat × Nat × Nat) : D := .tup [.int k.1, .str [k.2.1], .int k.2.2]
def k3 (r : Row) : Nat × Nat × Nat := (r.s, r.l, r.t)
theorem key3_eq (a b : Nat × Nat × Nat) : kEq (key3 a) (key3 b) = decide (a = b) := by
  obtain ⟨a1, a2, a3⟩ := a
  obtain ⟨b1, b2, b3⟩ := b
  simp only [key3, kEq, kEqL, Bool.and_true]
  by_cases h1 : a1 = b1 <;> by_cases h2 : a2 = b2 <;> by_cases h3 : a3 = b3 <;> simp [h1, h2, h3] <;> omega
theorem enum_row {rs : List Row} {m j : Nat} {d : D} (h : (enumD m (rs.map rowD))[j]? = some d) : ∃ r, rs[j]? = some r ∧ d = .tup [.int ((m + j : Nat) : Int), rowD r] := by
  induction rs generalizing m j with
  | nil => simp [enumD] at h
  | cons r rs ih =>
    rw [List.map_cons, enumD] at h
    cases j with
    | zero => simp at h; exact ⟨r, rfl, by rw [← h]; rfl⟩
    | succ j =>
      rw [List.getElem?_cons_succ] at h
      obtain ⟨r', e, rfl⟩ := ih h
      exact ⟨r', by simpa using e, by rw [show m + 1 + j = m + (j + 1) by omega]⟩
theorem alpha_lowS {s : List Nat} (h : isAlphaD (.str s) = true) : LowS s := by
  unfold LowS
  match s, h with
  | [_], h => simpa [isAlphaD] using h
  | [x, y], h => simp [isAlphaD] at h; simp [h]
  | [x, y, z], h => simp [isAlphaD] at h; simp [h]
theorem nodup_at {α β : Type} {f : α → β} {L : List α} {j : Nat} {x : α} (h : (L.map f).Nodup) (e : L[j]? = some x) : f x ∉ (L.take j).map f := by
  obtain ⟨hl, rfl⟩ := List.getElem?_eq_some_iff.mp e
  have e1 : L = L.take j ++ L[j] :: L.drop (j + 1) := by rw [← List.drop_eq_getElem_cons hl, List.take_append_drop]
  rw [e1, List.map_append, List.nodup_append] at h
  intro hm
  exact h.2.2 _ hm (f L[j]) (by rw [List.map_cons]; exact List.mem_cons_self ..) rfl
theorem atA_take {rs : List Row} {j : Nat} {r : Row} (e : rs[j]? = some r) (k : Nat × Nat) : atA (rs.take (j + 1)) k = if (r.s, r.l) = k then atA (rs.take j) k ++ [r] else atA (rs.take j) k := by
  unfold atA
  rw [List.take_add_one, e, Option.toList_some, List.filter_append]
  by_cases h : (r.s, r.l) = k <;> simp [h, List.filter_cons]
theorem keysA_len (al : List Nat) (n : Nat) : (keysA al n).length = n * al.length := by
  induction n with
  | zero => simp [keysA]
  | succ n ih => rw [keysA_succ, List.length_append, ih, List.length_map, Nat.succ_mul]
theorem pair_plain (r : Row) : plainD (pairD r) = true := by
  obtain ⟨_, _, _, w⟩ := r
  cases w <;> rfl
theorem pairs_plain (L : List Row) : plainL (L.map pairD) = true := plainL_iff.mpr fun d hd => by
  obtain ⟨r, _, rfl⟩ := List.mem_map.mp hd
  exact pair_plain r
theorem pair_dep (r : Row) : dep (pairD r) = 1 := rfl
theorem depL_pairs (L : List Row) : depL (L.map pairD) ≤ 1 := by
  induction L with
  | nil => decide
  | cons r L ih => rw [List.map_cons, depL, pair_dep]; omega
theorem pairs_ok (L : List Row) : okD (.lst (L.map pairD)) = true := by
  unfold okD
  rw [Bool.and_eq_true, decide_eq_true_eq]
  refine ⟨pairs_plain L, ?_⟩
  have := depL_pairs L
  rw [dep]; omega
theorem pairs_ne {L : List Row} (h : L ≠ []) : deqv (.lst (L.map pairD)) (.lst []) = false := by
  cases L with
  | nil => exact absurd rfl h
  | cons r L => rfl
theorem pair_alike (r q : Row) : PySem.W.alike (toPy (pairD r)) (toPy (pairD q)) = true := rfl
theorem pairs_can {L : List Row} (h : L.length ≤ 80000) : CanSort (L.map pairD) :=
  canSort_map (fun r _ => pair_plain r) (fun r _ => by rw [pair_dep]; decide) (fun r _ q _ => pair_alike r q) (fun r _ => ⟨_, _, rfl⟩) (by show _ ≤ 16777216; omega)
end L2.DL.LW
namespace L2.DL.LW
open PySem PySem.Spec PyProof.Rows
mutual
def sharp : D → Bool
  | .int _ => true
  | .str _ => true
  | .lst xs => sharpL xs
  | .tup xs => sharpL xs
  | _ => false
def sharpL : List D → Bool
  | [] => true
  | x :: xs => sharp x && sharpL xs
end
mutual
theorem deqv_sharp : ∀ {d e : D}, sharp d = true → sharp e = true → (deqv d e = true ↔ d = e)
  | .int i, .int j, _, _ => by
    show PyData.eqv _ _ = true ↔ _
    simp [toPy, PyData.eqv]
  | .int i, .str j, _, _ => by
    show PyData.eqv _ _ = true ↔ _
    simp [toPy, PyData.eqv]
  | .int i, .lst j, _, _ => by
    show PyData.eqv _ _ = true ↔ _
    simp [toPy, PyData.eqv]
  | .int i, .tup j, _, _ => by
    show PyData.eqv _ _ = true ↔ _
    simp [toPy, PyData.eqv]
  | .str i, .int j, _, _ => by
    show PyData.eqv _ _ = true ↔ _
    simp [toPy, PyData.eqv]
  | .str i, .str j, _, _ => by rw [deqv_str]; simp
  | .str i, .lst j, _, _ => by
    show PyData.eqv _ _ = true ↔ _
    simp [toPy, PyData.eqv]
  | .str i, .tup j, _, _ => by
    show PyData.eqv _ _ = true ↔ _
    simp [toPy, PyData.eqv]
  | .lst i, .int j, _, _ => by
    show PyData.eqv _ _ = true ↔ _
    simp [toPy, PyData.eqv]
  | .lst i, .str j, _, _ => by
    show PyData.eqv _ _ = true ↔ _
    simp [toPy, PyData.eqv]
  | .lst i, .lst j, h, k => by
    have := deqvL_sharp (ds := i) (es := j) (by simpa [sharp] using h) (by simpa [sharp] using k)
    show PyData.eqv _ _ = true ↔ _
    simp only [toPy, PyData.eqv]
    rw [show PyData.eqvAll (toPyL i) (toPyL j) = deqvL i j from rfl, this]
    simp
  | .lst i, .tup j, _, _ => by
    show PyData.eqv _ _ = true ↔ _
    simp [toPy, PyData.eqv]
  | .tup i, .int j, _, _ => by
    show PyData.eqv _ _ = true ↔ _
    simp [toPy, PyData.eqv]
  | .tup i, .str j, _, _ => by
    show PyData.eqv _ _ = true ↔ _
    simp [toPy, PyData.eqv]
  | .tup i, .lst j, _, _ => by
    show PyData.eqv _ _ = true ↔ _
    simp [toPy, PyData.eqv]
  | .tup i, .tup j, h, k => by
    have := deqvL_sharp (ds := i) (es := j) (by simpa [sharp] using h) (by simpa [sharp] using k)
    show PyData.eqv _ _ = true ↔ _
    simp only [toPy, PyData.eqv]
    rw [show PyData.eqvAll (toPyL i) (toPyL j) = deqvL i j from rfl, this]
    simp
theorem deqvL_sharp : ∀ {ds es : List D}, sharpL ds = true → sharpL es = true → (deqvL ds es = true ↔ ds = es)
  | [], [], _, _ => by simp [deqvL, toPyL, PyData.eqvAll]
  | [], _ :: _, _, _ => by simp [deqvL, toPyL, PyData.eqvAll]
  | _ :: _, [], _, _ => by simp [deqvL, toPyL, PyData.eqvAll]
  | d :: ds, e :: es, h, k => by
    simp only [sharpL, Bool.and_eq_true] at h k
    have h1 := deqv_sharp h.1 k.1
    have h2 := deqvL_sharp h.2 k.2
    show PyData.eqvAll (toPyL (d :: ds)) (toPyL (e :: es)) = true ↔ _
    simp only [toPyL, PyData.eqvAll, Bool.and_eq_true]
    rw [show PyData.eqv (toPy d) (toPy e) = deqv d e from rfl, show PyData.eqvAll (toPyL ds) (toPyL es) = deqvL ds es from rfl, h1, h2]
    simp
end
theorem sharpL_map {α : Type} {f : α → D} (h : ∀ x, sharp (f x) = true) : ∀ L : List α, sharpL (L.map f) = true
  | [] => rfl
  | x :: L => by simp [sharpL, h x, sharpL_map h L]
theorem sharpL_iff : ∀ {L : List D}, sharpL L = true ↔ ∀ d ∈ L, sharp d = true
  | [] => by simp [sharpL]
  | x :: L => by simp [sharpL, sharpL_iff (L := L)]
theorem pairD_sharp (r : Row) : sharp (pairD r) = true := rfl
theorem wC_inj {a b : Bool} (h : wC a = wC b) : a = b := by
  cases a <;> cases b <;> simp [wC] at h ⊢
theorem tk_row {r q : Row} (h : tk (rowD r) = tk (rowD q)) : rowD r = rowD q := by
  obtain ⟨a, b, c, d⟩ := r
  obtain ⟨a', b', c', d'⟩ := q
  simp [tk, rowD, toPy, toPyL, PySem.W.keyToks, PySem.W.keyToksAll] at h ⊢
  exact h
theorem tk_pair {r q : Row} (h : tk (pairD r) = tk (pairD q)) : pairD r = pairD q := by
  obtain ⟨a, b, c, d⟩ := r
  obtain ⟨a', b', c', d'⟩ := q
  simp [tk, pairD, toPy, toPyL, PySem.W.keyToks, PySem.W.keyToksAll] at h ⊢
  exact h
theorem sort_rows (A B : List Row) : sortD (A.map rowD) = sortD (B.map rowD) ↔ (A.map rowD).Perm (B.map rowD) := sortD_iff fun x hx y hy h => by
  obtain ⟨r, _, rfl⟩ := List.mem_map.mp hx
  obtain ⟨q, _, rfl⟩ := List.mem_map.mp hy
  exact tk_row h
theorem sort_pairs (A B : List Row) : sortD (A.map pairD) = sortD (B.map pairD) ↔ (A.map pairD).Perm (B.map pairD) := sortD_iff fun x hx y hy h => by
  obtain ⟨r, _, rfl⟩ := List.mem_map.mp hx
  obtain ⟨q, _, rfl⟩ := List.mem_map.mp hy
  exact tk_pair h
theorem perm_of_map {α β : Type} {f : α → β} (g : β → α) {A B : List α} (hA : ∀ x ∈ A, g (f x) = x) (hB : ∀ x ∈ B, g (f x) = x) (h : (A.map f).Perm (B.map f)) : A.Perm B := by
  have := h.map g
  rw [List.map_map, List.map_map] at this
  have e : ∀ L : List α, (∀ x ∈ L, g (f x) = x) → L.map (g ∘ f) = L := fun L hL => by
    conv => rhs; rw [← List.map_id L]
    exact List.map_congr_left fun x hx => hL x hx
  rwa [e A hA, e B hB] at this
def unPair (k : Nat × Nat) : D → Row
  | .tup [.int c, .str d] => ⟨k.1, k.2, c.toNat, decide (d = wC true)⟩
  | _ => ⟨0, 0, 0, false⟩
theorem unPair_pair {k : Nat × Nat} {r : Row} (h : (r.s, r.l) = k) : unPair k (pairD r) = r := by
  obtain ⟨a, b, c, d⟩ := r
  subst h
  cases d <;> simp [unPair, pairD, wC]
theorem atA_key {rs : List Row} {k : Nat × Nat} {r : Row} (h : r ∈ atA rs k) : (r.s, r.l) = k := by
  simpa [atA] using (List.mem_filter.mp h).2
theorem pairs_perm {A B : List Row} {k : Nat × Nat} : ((atA A k).map pairD).Perm ((atA B k).map pairD) ↔ (atA A k).Perm (atA B k) :=
  ⟨perm_of_map (unPair k) (fun _ h => unPair_pair (atA_key h)) fun _ h => unPair_pair (atA_key h), fun h => h.map _⟩
theorem perm_at {A B : List Row} {ks : List (Nat × Nat)} (hA : ∀ r ∈ A, (r.s, r.l) ∈ ks) (hB : ∀ r ∈ B, (r.s, r.l) ∈ ks) : A.Perm B ↔ ∀ k ∈ ks, (atA A k).Perm (atA B k) := by
  constructor
  · intro h k _
    exact h.filter _
  · intro h
    rw [List.perm_iff_count]
    intro r
    have cf : ∀ L : List Row, List.count r (atA L (r.s, r.l)) = List.count r L := fun L => by
      unfold atA
      rw [List.count_filter (by simp)]
    by_cases hk : (r.s, r.l) ∈ ks
    · rw [← cf A, ← cf B]
      exact (List.perm_iff_count.mp (h _ hk)) r
    · rw [List.count_eq_zero_of_not_mem fun q => hk (hA r q), List.count_eq_zero_of_not_mem fun q => hk (hB r q)]
theorem dhits_map {α : Type} [DecidableEq α] {kf vf vf' : α → D} (hk : ∀ a b, kEq (kf a) (kf b) = decide (a = b)) {L : List α} : ∀ M : List α, (∀ x ∈ M, x ∈ L) → (dhits (L.map kf) (L.map vf') (M.map kf) (M.map vf) = true ↔ ∀ x ∈ M, deqv (vf x) (vf' x) = true)
  | [], _ => by simp [dhits]
  | x :: M, h => by
    rw [List.map_cons, List.map_cons, dhits, dget_map hk, if_pos (h x (by simp)), Bool.and_eq_true, dhits_map hk M fun y hy => h y (by simp [hy])]
    simp
theorem movA_sharp (rs : List Row) (k : Nat × Nat) : sharp (movA rs k) = true := by
  unfold movA
  simp only [sharp]
  rw [sharpL_iff]
  intro d hd
  obtain ⟨r, _, rfl⟩ := List.mem_map.mp (sortD_mem.mp hd)
  exact pairD_sharp r
theorem movA_eq {A B : List Row} {k : Nat × Nat} : deqv (movA A k) (movA B k) = true ↔ (atA A k).Perm (atA B k) := by
  rw [deqv_sharp (movA_sharp A k) (movA_sharp B k)]
  unfold movA
  rw [D.lst.injEq, sort_pairs, pairs_perm]
theorem eq_moves {al : List Nat} {n : Nat} {A B : List Row} (hA : ∀ r ∈ A, (r.s, r.l) ∈ keysA al n) (hB : ∀ r ∈ B, (r.s, r.l) ∈ keysA al n) :
    deqDic ((keysA al n).map keyA) ((keysA al n).map (movA A)) ((keysA al n).map keyA) ((keysA al n).map (movA B)) = decide (A.Perm B) := by
  rw [Bool.eq_iff_iff, decide_eq_true_iff]
  unfold deqDic
  rw [Bool.and_eq_true, dhits_map keyA_eq _ fun _ h => h, perm_at hA hB]
  simp only [beq_self_eq_true, true_and]
  exact ⟨fun h k hk => movA_eq.mp (h k hk), fun h k hk => movA_eq.mpr (h k hk)⟩
theorem GoodA.key {al : List Nat} {n i : Nat} {rs : List Row} (g : GoodA al n i rs) : ∀ r ∈ rs, (r.s, r.l) ∈ keysA al n := fun r hr => keysA_mem.mpr ⟨g.src r hr, g.let' r hr⟩
def unT : D → List D
  | .tup q => q
  | _ => []
/-- all rows, key by key -/
theorem perm_keys : ∀ {ks : List (Nat × Nat)} {rs : List Row}, ks.Nodup → (∀ r ∈ rs, (r.s, r.l) ∈ ks) → (ks.flatMap fun k => atA rs k).Perm rs
  | [], rs, _, h => by
    cases rs with
    | nil => exact .nil
    | cons r rs => exact absurd (h r (by simp)) (by simp)
  | k :: ks, rs, hn, h => by
    rw [List.flatMap_cons]
    have hn' := List.nodup_cons.mp hn
    have e : (ks.flatMap fun j => atA rs j) = ks.flatMap fun j => atA (rs.filter fun r => !decide ((r.s, r.l) = k)) j := by
      refine congrArg List.flatten (List.map_congr_left fun j hj => ?_)
      unfold atA
      rw [List.filter_filter]
      refine List.filter_congr fun r _ => ?_
      by_cases q : (r.s, r.l) = j
      · have : ¬ (r.s, r.l) = k := fun z => hn'.1 (by rw [← z, q]; exact hj)
        simp [q]
        intro z
        exact this (by rw [q]; exact z)
      · simp [q]
    rw [e]
    refine (List.Perm.append_left _ (perm_keys hn'.2 fun r hr => ?_)).trans ?_
    · rw [List.mem_filter] at hr
      rcases List.mem_cons.mp (h r hr.1) with q | q
      · simp [q] at hr
      · exact q
    · exact List.filter_append_perm _ rs
theorem trans_perm {al : List Nat} {n i : Nat} {rs : List Row} (g : GoodA al n i rs) : ((keysA al n).flatMap fun k => (sortD ((atA rs k).map pairD)).map fun p => D.tup ([D.int k.1, D.str [k.2]] ++ unT p)).Perm (rs.map rowD) := by
  have p1 := (perm_keys (keysA_nd (alpha_nd g.alp) n) g.key).map rowD
  refine List.Perm.trans ?_ p1
  rw [List.map_flatMap]
  clear p1
  induction keysA al n with
  | nil => exact .nil
  | cons k ks ih =>
    rw [List.flatMap_cons, List.flatMap_cons]
    refine List.Perm.append ?_ ih
    refine ((sortD_perm _).map _).trans ?_
    rw [List.map_map]
    have : (atA rs k).map ((fun p => D.tup ([D.int k.1, D.str [k.2]] ++ unT p)) ∘ pairD) = (atA rs k).map rowD := by
      refine List.map_congr_left fun r hr => ?_
      have := atA_key hr
      subst this
      rfl
    rw [this]
end L2.DL.LW
namespace L2.DL.LW
open PySem PySem.Spec PyProof.Rows
structure Part (n : Nat) (g : Bool) (ks : List (Nat × Nat)) (rs : List Row) : Prop where
  key : ∀ r ∈ rs, (r.s, r.l) ∈ ks
  tgt : ∀ r ∈ rs, r.t < n
  nd : (rs.map fun r => (r.s, r.l, r.t)).Nodup
  full : ∀ k ∈ ks, atA rs k ≠ []
  det : g = false → ∀ k ∈ ks, (atA rs k).length = 1
  len : rs.length ≤ 3 * ks.length
  three : ∀ k ∈ ks, (atA rs k).length ≤ 3
theorem Part.nil {n : Nat} {g : Bool} : Part n g [] [] := ⟨by simp, by simp, by simp, by simp, by simp, by simp, by simp⟩
theorem atA_app (A B : List Row) (k : Nat × Nat) : atA (A ++ B) k = atA A k ++ atA B k := List.filter_append ..
theorem atA_none {A : List Row} {k : Nat × Nat} (h : ∀ r ∈ A, (r.s, r.l) ≠ k) : atA A k = [] := by
  unfold atA
  rw [List.filter_eq_nil_iff]
  intro r hr
  simpa using h r hr
theorem atA_all {A : List Row} {k : Nat × Nat} (h : ∀ r ∈ A, (r.s, r.l) = k) : atA A k = A := by
  unfold atA
  rw [List.filter_eq_self]
  intro r hr
  simpa using h r hr
theorem zip_mem {k : Nat × Nat} : ∀ {ts : List Nat} {ws : List Bool}, ∀ r ∈ List.zipWith (fun t w => Row.mk k.1 k.2 t w) ts ws, (r.s, r.l) = k ∧ r.t ∈ ts
  | [], ws, r, h => by simp at h
  | t :: ts, [], r, h => by simp at h
  | t :: ts, w :: ws, r, h => by
    rw [List.zipWith_cons_cons] at h
    rcases List.mem_cons.mp h with rfl | h
    · exact ⟨rfl, by simp⟩
    · have := zip_mem (k := k) r h
      exact ⟨this.1, by simp [this.2]⟩
theorem zip_t {k : Nat × Nat} : ∀ {ts : List Nat} {ws : List Bool}, ws.length = ts.length → (List.zipWith (fun t w => Row.mk k.1 k.2 t w) ts ws).map (fun r => (r.s, r.l, r.t)) = ts.map fun t => (k.1, k.2, t)
  | [], [], _ => rfl
  | [], _ :: _, h => by simp at h
  | _ :: _, [], h => by simp at h
  | t :: ts, w :: ws, h => by
    rw [List.zipWith_cons_cons, List.map_cons, List.map_cons, zip_t (by simpa using h)]
theorem Part.step {n : Nat} {g : Bool} {ks : List (Nat × Nat)} {rs : List Row} {k : Nat × Nat} (h : Part n g ks rs) (hk : k ∉ ks) {ts : List Nat} {ws : List Bool} (hw : ws.length = ts.length) (nd : ts.Nodup) (lt : ∀ t ∈ ts, t < n) (ne : ts ≠ []) (l3 : ts.length ≤ 3) (l1 : g = false → ts.length = 1) :
    Part n g (ks ++ [k]) (rs ++ List.zipWith (fun t w => Row.mk k.1 k.2 t w) ts ws) := by
  have hz := fun r hr => zip_mem (k := k) (ts := ts) (ws := ws) r hr
  have hzt := zip_t (k := k) hw
  have hl : (List.zipWith (fun t w => Row.mk k.1 k.2 t w) ts ws).length = ts.length := by rw [List.length_zipWith, hw]; simp
  have a1 : atA (List.zipWith (fun t w => Row.mk k.1 k.2 t w) ts ws) k = List.zipWith (fun t w => Row.mk k.1 k.2 t w) ts ws := atA_all fun r hr => (hz r hr).1
  have a2 : ∀ k' ∈ ks, atA (List.zipWith (fun t w => Row.mk k.1 k.2 t w) ts ws) k' = [] := fun k' hk' => atA_none fun r hr e => hk (by rw [← (hz r hr).1, e]; exact hk')
  have a3 : atA rs k = [] := atA_none fun r hr e => hk (e ▸ h.key r hr)
  generalize List.zipWith (fun t w => Row.mk k.1 k.2 t w) ts ws = N at *
  have nN : N ≠ [] := fun e => ne (by rw [e] at hl; simpa using hl.symm)
  refine ⟨?_, ?_, ?_, ?_, ?_, ?_, ?_⟩
  · intro r hr
    rcases List.mem_append.mp hr with q | q
    · exact List.mem_append_left _ (h.key r q)
    · rw [(hz r q).1]; simp
  · intro r hr
    rcases List.mem_append.mp hr with q | q
    · exact h.tgt r q
    · exact lt _ (hz r q).2
  · rw [List.map_append, List.nodup_append]
    refine ⟨h.nd, ?_, ?_⟩
    · rw [hzt]
      exact List.pairwise_map.mpr (nd.imp fun q e => q (by simpa using e))
    · intro x hx y hy e
      subst e
      obtain ⟨r, hr, rfl⟩ := List.mem_map.mp hx
      rw [hzt] at hy
      obtain ⟨t, _, e⟩ := List.mem_map.mp hy
      have := h.key r hr
      apply hk
      simp only [Prod.mk.injEq] at e
      rw [← e.1, ← e.2.1] at this
      exact this
  · intro k' hk'
    rw [atA_app]
    rcases List.mem_append.mp hk' with q | q
    · have := h.full k' q
      simp [this]
    · obtain rfl : k' = k := by simpa using q
      rw [a1]
      simp [nN]
  · intro hg k' hk'
    rw [atA_app, List.length_append]
    rcases List.mem_append.mp hk' with q | q
    · rw [h.det hg k' q, a2 k' q]
      rfl
    · obtain rfl : k' = k := by simpa using q
      rw [a1, a3, hl, l1 hg]
      rfl
  · rw [List.length_append, List.length_append, hl]
    have := h.len
    simp
    omega
  · intro k' hk'
    rw [atA_app, List.length_append]
    rcases List.mem_append.mp hk' with q | q
    · rw [a2 k' q, List.length_nil]
      exact h.three k' q
    · obtain rfl : k' = k := by simpa using q
      rw [a1, a3, hl, List.length_nil]
      omega
theorem atA_perm {A B : List Row} (p : A.Perm B) (k : Nat × Nat) : (atA A k).Perm (atA B k) := p.filter _
theorem Part.perm {n : Nat} {g : Bool} {ks : List (Nat × Nat)} {A B : List Row} (h : Part n g ks A) (p : B.Perm A) : Part n g ks B where
  key := fun r hr => h.key r (p.mem_iff.mp hr)
  tgt := fun r hr => h.tgt r (p.mem_iff.mp hr)
  nd := (p.map _).nodup_iff.mpr h.nd
  full := fun k hk e => h.full k hk (by have := atA_perm p k; rw [e] at this; exact this.symm.eq_nil)
  det := fun hg k hk => by rw [(atA_perm p k).length_eq]; exact h.det hg k hk
  len := by rw [p.length_eq]; exact h.len
  three := fun k hk => by rw [(atA_perm p k).length_eq]; exact h.three k hk
theorem Part.good {al : List Nat} {n i : Nat} {g : Bool} {rs : List Row} (h : Part n g (keysA al n) rs) (ha : isAlphaD (.str al) = true) (h1 : 1 ≤ n) (h2 : n ≤ 65) (hi : i < n) : GoodA al n i rs where
  alp := ha
  lo := h1
  hi := h2
  len := by
    have := h.len
    rw [keysA_len] at this
    have := Nat.mul_le_mul h2 (alpha_len ha)
    omega
  src := fun r hr => (keysA_mem.mp (h.key r hr)).1
  let' := fun r hr => (keysA_mem.mp (h.key r hr)).2
  tgt := h.tgt
  nd := h.nd
  full := h.full
  ini := hi
theorem perm_map_go {α β : Type} {f : α → β} {A B : List β} (h : A.Perm B) : ∀ L : List α, A = L.map f → ∃ L' : List α, B = L'.map f ∧ L'.Perm L := by
  induction h with
  | nil =>
    intro L e
    cases L with
    | nil => exact ⟨[], rfl, .nil⟩
    | cons x L => simp at e
  | cons x p ih =>
    intro L e
    cases L with
    | nil => simp at e
    | cons y L =>
      rw [List.map_cons] at e
      obtain ⟨e1, e2⟩ := List.cons.inj e
      obtain ⟨L', h1, h2⟩ := ih L e2
      exact ⟨y :: L', by rw [List.map_cons, e1, h1], h2.cons y⟩
  | swap x y l =>
    intro L e
    match L, e with
    | [], e => simp at e
    | [a], e => simp at e
    | a :: b :: L, e =>
      simp only [List.map_cons, List.cons.injEq] at e
      obtain ⟨e1, e2, e3⟩ := e
      exact ⟨b :: a :: L, by simp [e1, e2, e3], .swap a b L⟩
  | trans p q ih1 ih2 =>
    intro L e
    obtain ⟨L1, h1, h2⟩ := ih1 L e
    obtain ⟨L2, h3, h4⟩ := ih2 L1 h1
    exact ⟨L2, h3, h4.trans h2⟩
theorem perm_map_ex {α β : Type} {f : α → β} {L : List α} {ys : List β} (h : ys.Perm (L.map f)) : ∃ L' : List α, ys = L'.map f ∧ L'.Perm L := perm_map_go h.symm L rfl
theorem mem_atA {rs : List Row} {k : Nat × Nat} {r : Row} : r ∈ atA rs k ↔ r ∈ rs ∧ (r.s, r.l) = k := by
  simp [atA, List.mem_filter]
theorem atA_ne {rs : List Row} {k : Nat × Nat} : atA rs k ≠ [] ↔ ∃ r ∈ rs, (r.s, r.l) = k := by
  constructor
  · intro h
    obtain ⟨r, hr⟩ := List.exists_mem_of_ne_nil _ h
    exact ⟨r, mem_atA.mp hr⟩
  · rintro ⟨r, hr⟩ e
    have := mem_atA.mpr hr
    rw [e] at this
    simp at this
theorem GoodA.more {al : List Nat} {n i : Nat} {rs : List Row} (g : GoodA al n i rs) (hn : n + 1 ≤ 65) (h5 : rs.length + 3 ≤ 80000) : GoodA al (n + 1) i (rs ++ al.map fun l => Row.mk n l 0 true) where
  alp := g.alp
  lo := by omega
  hi := hn
  len := by
    have := alpha_len g.alp
    simp
    omega
  src := fun r hr => (List.mem_append.mp hr).elim (fun h => by have := g.src r h; omega) fun h => by
    obtain ⟨l, _, rfl⟩ := List.mem_map.mp h
    show n < n + 1
    omega
  let' := fun r hr => (List.mem_append.mp hr).elim (g.let' r) fun h => by
    obtain ⟨l, hl, rfl⟩ := List.mem_map.mp h
    exact hl
  tgt := fun r hr => (List.mem_append.mp hr).elim (fun h => by have := g.tgt r h; omega) fun h => by
    obtain ⟨l, _, rfl⟩ := List.mem_map.mp h
    show 0 < n + 1
    omega
  nd := by
    rw [List.map_append, List.nodup_append]
    refine ⟨g.nd, ?_, fun x hx y hy e => ?_⟩
    · rw [List.map_map]
      exact List.pairwise_map.mpr ((alpha_nd g.alp).imp fun q e => q (by simpa using e))
    · subst e
      obtain ⟨r, hr, rfl⟩ := List.mem_map.mp hx
      rw [List.map_map] at hy
      obtain ⟨l, _, e⟩ := List.mem_map.mp hy
      have := g.src r hr
      simp at e
      omega
  full := fun k hk => by
    rw [keysA_succ] at hk
    rw [atA_ne]
    rcases List.mem_append.mp hk with h | h
    · obtain ⟨r, hr, e⟩ := atA_ne.mp (g.full k h)
      exact ⟨r, List.mem_append_left _ hr, e⟩
    · obtain ⟨l, hl, rfl⟩ := List.mem_map.mp h
      exact ⟨⟨n, l, 0, true⟩, List.mem_append_right _ (List.mem_map_of_mem hl), rfl⟩
  ini := by have := g.ini; omega
theorem GoodA.permA {al : List Nat} {n i : Nat} {A B : List Row} (g : GoodA al n i A) (p : B.Perm A) : GoodA al n i B where
  alp := g.alp
  lo := g.lo
  hi := g.hi
  len := by rw [p.length_eq]; exact g.len
  src := fun r hr => g.src r (p.mem_iff.mp hr)
  let' := fun r hr => g.let' r (p.mem_iff.mp hr)
  tgt := fun r hr => g.tgt r (p.mem_iff.mp hr)
  nd := (p.map _).nodup_iff.mpr g.nd
  full := fun k hk e => g.full k hk (by have := atA_perm p k; rw [e] at this; exact this.symm.eq_nil)
  ini := g.ini
theorem wpMap_draw {α β : Type} {f : D → (List D → Prop) → Prop} {kf : α → D} (h : α → β → D) : ∀ {L : List α} {Q : List D → Prop}, (∀ x ∈ L, ∀ k : List D → Prop, (∀ w : β, k [h x w]) → f (kf x) k) → (∀ ws : List β, ws.length = L.length → Q (List.zipWith h L ws)) → wpMap f (L.map kf) Q
  | [], Q, _, q => q [] rfl
  | x :: L, Q, hf, q => hf x (by simp) _ fun w => wpMap_draw h (L := L) (fun y hy => hf y (by simp [hy])) fun ws hw => by
    have := q (w :: ws) (by simp [hw])
    rwa [List.zipWith_cons_cons] at this
theorem wpMap_onF {α : Type} {f : D → (List D → Prop) → Prop} {kf : α → D} (g : α → List D) : ∀ {L : List α} {Q : List D → Prop}, (∀ x ∈ L, ∀ k : List D → Prop, k (g x) → f (kf x) k) → Q (L.flatMap g) → wpMap f (L.map kf) Q
  | [], Q, _, q => q
  | x :: L, Q, h, q => by
    unfold wpMap
    refine h x (by simp) _ (wpMap_onF g (L := L) (fun y hy => h y (by simp [hy])) ?_)
    simpa using q
theorem fn_alphabet_size : (("alphabet" : Str) = "size") = False := by decide +kernel
theorem fn_alphabet_initial : (("alphabet" : Str) = "initial") = False := by decide +kernel
theorem fn_alphabet_own_moves : (("alphabet" : Str) = "own_moves") = False := by decide +kernel
theorem fn_size_alphabet : (("size" : Str) = "alphabet") = False := by decide +kernel
theorem fn_size_initial : (("size" : Str) = "initial") = False := by decide +kernel
theorem fn_size_own_moves : (("size" : Str) = "own_moves") = False := by decide +kernel
theorem fn_initial_alphabet : (("initial" : Str) = "alphabet") = False := by decide +kernel
theorem fn_initial_size : (("initial" : Str) = "size") = False := by decide +kernel
theorem fn_initial_own_moves : (("initial" : Str) = "own_moves") = False := by decide +kernel
theorem fn_own_moves_alphabet : (("own_moves" : Str) = "alphabet") = False := by decide +kernel
theorem fn_own_moves_size : (("own_moves" : Str) = "size") = False := by decide +kernel
theorem fn_own_moves_initial : (("own_moves" : Str) = "initial") = False := by decide +kernel
def detRow (al : List Nat) (s : Nat) (r : List (Nat × Bool)) : List Row := List.zipWith (fun l p => Row.mk s l p.1 p.2) al r
def detRows (al : List Nat) : Nat → List (List (Nat × Bool)) → List Row
  | _, [] => []
  | s, r :: rs => detRow al s r ++ detRows al (s + 1) rs
structure GoodD (al : List Nat) (rows : List (List (Nat × Bool))) (i : Nat) : Prop where
  alp : isAlphaD (.str al) = true
  lo : 1 ≤ rows.length
  hi : rows.length ≤ 65
  len : ∀ r ∈ rows, r.length = al.length
  tgt : ∀ r ∈ rows, ∀ p ∈ r, p.1 < rows.length
  ini : i < rows.length
theorem detRow_part {n : Nat} {g : Bool} {s : Nat} : ∀ {al : List Nat} {r : List (Nat × Bool)} {ks : List (Nat × Nat)} {rs : List Row}, al.Nodup → r.length = al.length → (∀ p ∈ r, p.1 < n) → (∀ l ∈ al, (s, l) ∉ ks) → Part n g ks rs → Part n g (ks ++ al.map fun l => (s, l)) (rs ++ detRow al s r)
  | [], r, ks, rs, _, h, _, _, hp => by
    simpa [detRow] using hp
  | l :: al, [], ks, rs, _, h, _, _, hp => by simp at h
  | l :: al, p :: r, ks, rs, nd, h, ht, hk, hp => by
    rw [List.nodup_cons] at nd
    have h1 := hp.step (k := (s, l)) (hk l (by simp)) (ts := [p.1]) (ws := [p.2]) rfl (by simp) (by simpa using ht p (by simp)) (by simp) (by simp) (fun _ => rfl)
    have h2 := detRow_part (s := s) nd.2 (by simpa using h) (fun q hq => ht q (by simp [hq])) (ks := ks ++ [(s, l)]) (fun l' hl' hm => by
      rcases List.mem_append.mp hm with q | q
      · exact hk l' (by simp [hl']) q
      · simp at q
        exact nd.1 (q ▸ hl')) h1
    simpa [detRow, List.append_assoc] using h2
theorem detRows_part {n : Nat} {g : Bool} {al : List Nat} (ha : isAlphaD (.str al) = true) : ∀ {rows : List (List (Nat × Bool))} {s : Nat} {ks : List (Nat × Nat)} {rs : List Row}, Part n g ks rs → (∀ k ∈ ks, k.1 < s) → (∀ r ∈ rows, r.length = al.length) → (∀ r ∈ rows, ∀ p ∈ r, p.1 < n) →
    Part n g (ks ++ (List.range' s rows.length).flatMap fun s => al.map fun l => (s, l)) (rs ++ detRows al s rows) ∧ (detRows al s rows).length = rows.length * al.length
  | [], s, ks, rs, hp, _, _, _ => by simpa [detRows] using hp
  | r :: rows, s, ks, rs, hp, hk, hl, ht => by
    have h1 := detRow_part (s := s) (alpha_nd ha) (hl r (by simp)) (ht r (by simp)) (fun l _ hm => by have := hk _ hm; simp at this) hp
    obtain ⟨h2, h3⟩ := detRows_part ha (rows := rows) (s := s + 1) h1 (fun k hm => by
      rcases List.mem_append.mp hm with q | q
      · have := hk _ q; omega
      · obtain ⟨l, _, rfl⟩ := List.mem_map.mp q
        show s < s + 1
        omega) (fun q hq => hl q (by simp [hq])) (fun q hq => ht q (by simp [hq]))
    refine ⟨by simpa [detRows, List.range'_succ, List.append_assoc] using h2, ?_⟩
    rw [detRows, List.length_append, h3]
    unfold detRow
    rw [List.length_zipWith, hl r (by simp), Nat.min_self, List.length_cons, Nat.succ_mul]
    omega
theorem GoodD.part {al : List Nat} {rows : List (List (Nat × Bool))} {i : Nat} (g : GoodD al rows i) : Part rows.length false (keysA al rows.length) (detRows al 0 rows) := by
  have := (detRows_part (n := rows.length) (g := false) g.alp (rows := rows) (s := 0) Part.nil (by simp) g.len g.tgt).1
  simpa [keysA, List.range_eq_range'] using this
theorem GoodD.good {al : List Nat} {rows : List (List (Nat × Bool))} {i : Nat} (g : GoodD al rows i) : GoodA al rows.length i (detRows al 0 rows) := g.part.good g.alp g.lo g.hi g.ini
theorem GoodA.pos {al : List Nat} {n i : Nat} {rs : List Row} (g : GoodA al n i rs) : 0 < rs.length := by
  have : ∃ l, l ∈ al := by
    have := g.alp
    match al, this with
    | x :: _, _ => exact ⟨x, by simp⟩
  obtain ⟨l, hl⟩ := this
  have h := g.full (0, l) (keysA_mem.mpr ⟨by have := g.lo; omega, hl⟩)
  obtain ⟨r, hr, _⟩ := atA_ne.mp h
  exact List.length_pos_of_mem hr
theorem row_plain {al : List Nat} (ha : LowS al) {r : Row} (h : r.l ∈ al) : plainD (rowD r) = true := by
  have h1 := okD.plain (low_ok (s := [r.l]) fun c hc => ha c (by rw [List.mem_singleton.mp hc]; exact h))
  show plainL [_, _, _, _] = true
  simp only [plainL, h1, Bool.and_true, Bool.true_and]
  cases r.w <;> rfl
theorem rows_can {al : List Nat} {n i : Nat} {L : List Row} (g : GoodA al n i L) : CanSort (L.map rowD) :=
  canSort_map (fun r hr => row_plain (alpha_lowS g.alp) (g.let' r hr)) (fun r _ => by show 1 ≤ 64; decide) (fun r _ q _ => rfl) (fun r _ => ⟨_, _, rfl⟩) (by have := g.len; show _ ≤ 16777216; omega)
theorem cut_take' {α : Type} (l : List α) (k : Nat) : cut l none (some (k : Int)) = l.take k := by
  have e : HT.sIx l.length l.length (some (k : Int)) = min k l.length := by
    simp only [HT.sIx]
    rw [if_neg (by omega)]
    simp
  have e0 : HT.sIx l.length 0 none = 0 := rfl
  unfold cut
  rw [e0, e]
  simp
theorem deqv_int (x y : Int) : deqv (.int x) (.int y) = decide (x = y) := by
  show PyData.eqv _ _ = _
  simp only [toPy, PyData.eqv]
  by_cases h : x = y <;> simp [h]
theorem ati0 {α : Type} {x : α} {r : List α} : atI (x :: r) 0 = some x := atI_nat (j := 0) rfl
theorem ati1 {α : Type} {x y : α} {r : List α} : atI (x :: y :: r) 1 = some y := atI_nat (j := 1) rfl
theorem ati2 {α : Type} {x y z : α} {r : List α} : atI (x :: y :: z :: r) 2 = some z := atI_nat (j := 2) rfl
theorem ati3 {α : Type} {x y z w : α} {r : List α} : atI (x :: y :: z :: w :: r) 3 = some w := atI_nat (j := 3) rfl
end L2.DL.LW
namespace L2.DL.LW
/-- l for ever -/
def lam (l : List Nat) (i : Nat) : Nat := l.getD (i % l.length) 0
/-- p, then l for ever -/
def inf (p l : List Nat) (i : Nat) : Nat := if i < p.length then p.getD i 0 else lam l (i - p.length)
def Per (u : Nat → Nat) (d : Nat) : Prop := ∀ i, u (i + d) = u i
theorem Per.mul {u : Nat → Nat} {d : Nat} (h : Per u d) : ∀ k i, u (i + d * k) = u i
  | 0, i => by simp
  | k + 1, i => by rw [Nat.mul_succ, ← Nat.add_assoc, h, h.mul k]
theorem Per.mod {u : Nat → Nat} {a b : Nat} (ha : Per u a) (hb : Per u b) : Per u (a % b) := fun i => by
  have h1 := hb.mul (a / b) (i + a % b)
  have h2 : i + a % b + b * (a / b) = i + a := by have := Nat.mod_add_div a b; omega
  rw [h2, ha] at h1
  exact h1.symm
theorem inf_pre {p l : List Nat} {i : Nat} (h : i < p.length) : inf p l i = p[i] := by
  unfold inf
  rw [if_pos h, List.getD_eq_getElem?_getD, List.getElem?_eq_getElem h]
  rfl
end L2.DL.LW
namespace L2.DL.LW
end L2.DL.LW
namespace L2.DL.LW
end L2.DL.LW
namespace L2.DL.LW
open PySem PySem.Spec PyProof.Rows
theorem iteAnd {Q : D → Prop} {a b : Bool} : (if a = true then Q (.bl b) else Q (.bl false)) = Q (.bl (a && b)) := by cases a <;> simp
theorem iteOr {Q : D → Prop} {a b : Bool} : (if a = true then Q (.bl true) else Q (.bl b)) = Q (.bl (a || b)) := by cases a <;> simp
theorem ex_eq {α : Sort u} {a : α} {p : α → Prop} : (∃ x, a = x ∧ p x) ↔ p a := ⟨fun ⟨_, e, h⟩ => e ▸ h, fun h => ⟨a, rfl, h⟩⟩
local macro_rules | `(tactic| walk_at "ev") => `(tactic| simp only [dsNil, dsSeq, dsDrop, dsRet, dsRetF, dsRetN, dsRetO, dsIf, dsSet, dsOwn, dsFrz, dsPar, dsMul, setK, dkE, dkF, dkNil, rLenSet, rSortD, rMaxD, dFnK, dsAug, augD, dsApp, dsAsg, dsFor, dsBreak, dsCont, dgName, dgTup, dgCons, dgNil, dVar, dPeek, dC, d1, d2, d3, dAnd, dOr, dNot, dTest, dTestB, truD, dtAnd, dtOr, dtNot, dIf, dLst, dTup, dCall, dFn, daCons, daNil, rAddD, rMulD, rMulF, rII, rEqDD, rNeDD, rOrdD, rInDD, rIxD, rSlD, dSl, dSlF, doSome, doNone, rLenD, rIntD, rMM, rAllD, rListD, rTupD, rStrI, rIsiD, rIsiLT, rNegD, dJoin, rJoinD, diSeq, diRng1, diRng2, diEnum, diZip, itemsD, dLc, lcF, dtsNil, dLc2, lcF2, Sl.dat, tyN, isNon, knownD, isIntD, isBoolD, isStrD, isListD, isTupD, isSeqD,
  List.getElem?_cons_succ, List.getElem?_cons_zero, List.set_cons_succ, List.set_cons_zero, List.cons_append, List.nil_append, List.append_nil, List.replicate_succ, List.replicate_zero, List.length_cons, List.length_nil, Nat.reduceAdd, Nat.reduceSub, Int.reduceToNat, Int.reducePow, wipeS, List.map_cons, List.map_nil, Option.bind_some, Option.some.injEq, D.int.injEq, D.bl.injEq, D.str.injEq, D.lst.injEq, D.tup.injEq, Sl.val.injEq, Sl.own.injEq, List.cons.injEq, and_true, true_and, ex_eq, exists_eq_left, exists_eq_left', exists_eq, exists_eq', and_assoc, exists_and_left, if_true, if_false, ite_true, ite_false, Bool.false_eq_true, Bool.not_true, Bool.not_false, reduceCtorEq, ↓reduceIte, Option.isSome_some, Option.isSome_none, false_and, and_false, exists_false, D.ins.injEq, D.raw.injEq, V.ref.injEq, eq_self, dFld, dsFld, dMeth, dOp2, dRadd, dGet, dEqI, rIsiC, rIsiX, dFmt, dFmtR, dJoined, dJs, dOwn1, rStrO, rLenO, rReprS, rListS, dSS, rSS, dEqX, dNeX, okOther, dsDput, dGetR, dInR, dsFrzL, dLk, diKeys, dDc, dcF, dDc2, dcF2, dsIns, rEqDic, rLenDic, D.dic.injEq, id, getF, putN, putV, permL_cons, permL_nil, Option.toList_some, iteAnd, iteOr, wpFor, wpMap])
local macro_rules | `(tactic| walk_at "yes") => `(tactic| repeat (refine ⟨by first | decide | decide +kernel | omega, ?_⟩))
local macro_rules | `(tactic| walk_at "sd") => `(tactic| first | omega | (show _ ≤ 16777216; omega) | (show _ < 16777216; omega) | (show _ ≤ 16777216; simp only [repL_length, List.length_append, List.length_map, List.length_range, List.length_cons, List.length_nil, List.length_drop, List.length_take, Int.reduceToNat]; omega) | (show _ < 16777216; simp only [repL_length, List.length_append, List.length_map, List.length_range, List.length_cons, List.length_nil, List.length_drop, List.length_take, Int.reduceToNat]; omega) | (simp only [repL_length, List.length_append, List.length_map, List.length_range, List.length_cons, List.length_nil, List.length_drop, List.length_take, Int.reduceToNat]; omega) | decide | with_reducible assumption)
local macro_rules | `(tactic| walk_at "au") => `(tactic| repeat (refine ⟨by walk_at "sd", ?_⟩))
local macro_rules | `(tactic| walk_at "tg") => `(tactic| simp only [dgName, dgTup, dgCons, dgNil, itemsD, List.set_cons_succ, List.set_cons_zero, Option.some.injEq, D.tup.injEq, exists_eq_left', List.cons.injEq, and_true, true_and, List.length_cons, List.length_nil, Nat.reduceAdd])
local macro_rules | `(tactic| walk_at "lm") => `(tactic| simp only [lamS, wipeO, List.map_cons, List.map_nil, List.set_cons_succ, List.set_cons_zero])
abbrev N__law_draws : List Str := ["_law_script", "_law_seed", "_law_cell"]
theorem sc__law_draws : FnScope N__law_draws ["_law_script"] (defScope s__law_draws) := ⟨rfl, rfl, rfl, by decide +kernel, rfl, by decide +kernel, by decide +kernel⟩
abbrev N__law_pull : List Str := ["_law_bag", "_law_sides", "_law_cell", "_law_digit", "_law_seed"]
theorem sc__law_pull : FnScope N__law_pull ["_law_bag", "_law_sides"] (defScope s__law_pull) := ⟨rfl, rfl, rfl, by decide +kernel, rfl, by decide +kernel, by decide +kernel⟩
abbrev N__law_any : List Str := ["_law_bag", "_law_rows_here"]
theorem sc__law_any : FnScope N__law_any ["_law_bag", "_law_rows_here"] (defScope s__law_any) := ⟨rfl, rfl, rfl, by decide +kernel, rfl, by decide +kernel, by decide +kernel⟩
abbrev N_is_number : List Str := ["value", "least", "most"]
theorem sc_is_number : FnScope N_is_number ["value", "least", "most"] (defScope s_is_number) := ⟨rfl, rfl, rfl, by decide +kernel, rfl, by decide +kernel, by decide +kernel⟩
abbrev N_is_word : List Str := ["value", "most", "letter"]
theorem sc_is_word : FnScope N_is_word ["value", "most"] (defScope s_is_word) := ⟨rfl, rfl, rfl, by decide +kernel, rfl, by decide +kernel, by decide +kernel⟩
abbrev N_is_alphabet : List Str := ["value", "at"]
theorem sc_is_alphabet : FnScope N_is_alphabet ["value"] (defScope s_is_alphabet) := ⟨rfl, rfl, rfl, by decide +kernel, rfl, by decide +kernel, by decide +kernel⟩
abbrev N__law_like : List Str := ["_law_a", "_law_b", "_law_same", "_law_c", "_law_d"]
theorem sc__law_like : FnScope N__law_like ["_law_a", "_law_b"] (defScope s__law_like) := ⟨rfl, rfl, rfl, by decide +kernel, rfl, by decide +kernel, by decide +kernel⟩
abbrev N__law_alphabet : List Str := ["_law_bag", "_law_most", "_law_abc", "_law_many", "_law_first", "_law_second", "_law_at"]
theorem sc__law_alphabet : FnScope N__law_alphabet ["_law_bag", "_law_most"] (defScope s__law_alphabet) := ⟨rfl, rfl, rfl, by decide +kernel, rfl, by decide +kernel, by decide +kernel⟩
abbrev N_is_transition : List Str := ["value", "alphabet", "size", "source", "letter", "target", "word"]
theorem sc_is_transition : FnScope N_is_transition ["value", "alphabet", "size"] (defScope s_is_transition) := ⟨rfl, rfl, rfl, by decide +kernel, rfl, by decide +kernel, by decide +kernel⟩
abbrev N_Automaton___init__ : List Str := ["self", "alphabet", "size", "transitions", "initial", "state", "letter", "targets", "seen", "at", "row", "key"]
theorem sc_Automaton___init__ : FnScope N_Automaton___init__ ["self", "alphabet", "size", "transitions", "initial"] (defScope s_Automaton___init__) := ⟨rfl, rfl, rfl, by decide +kernel, rfl, by decide +kernel, by decide +kernel⟩
abbrev N_Automaton_check_state : List Str := ["self", "state"]
theorem sc_Automaton_check_state : FnScope N_Automaton_check_state ["self", "state"] (defScope s_Automaton_check_state) := ⟨rfl, rfl, rfl, by decide +kernel, rfl, by decide +kernel, by decide +kernel⟩
abbrev N_Automaton_check_letter : List Str := ["self", "letter"]
theorem sc_Automaton_check_letter : FnScope N_Automaton_check_letter ["self", "letter"] (defScope s_Automaton_check_letter) := ⟨rfl, rfl, rfl, by decide +kernel, rfl, by decide +kernel, by decide +kernel⟩
abbrev N_Automaton_moves : List Str := ["self", "state", "letter"]
theorem sc_Automaton_moves : FnScope N_Automaton_moves ["self", "state", "letter"] (defScope s_Automaton_moves) := ⟨rfl, rfl, rfl, by decide +kernel, rfl, by decide +kernel, by decide +kernel⟩
abbrev N_Automaton_targets : List Str := ["self", "state", "letter", "word", "target", "told"]
theorem sc_Automaton_targets : FnScope N_Automaton_targets ["self", "state", "letter", "word"] (defScope s_Automaton_targets) := ⟨rfl, rfl, rfl, by decide +kernel, rfl, by decide +kernel, by decide +kernel⟩
abbrev N_Automaton_transitions : List Str := ["self", "key", "pair"]
theorem sc_Automaton_transitions : FnScope N_Automaton_transitions ["self"] (defScope s_Automaton_transitions) := ⟨rfl, rfl, rfl, by decide +kernel, rfl, by decide +kernel, by decide +kernel⟩
abbrev N_Automaton___eq__ : List Str := ["self", "other"]
theorem sc_Automaton___eq__ : FnScope N_Automaton___eq__ ["self", "other"] (defScope s_Automaton___eq__) := ⟨rfl, rfl, rfl, by decide +kernel, rfl, by decide +kernel, by decide +kernel⟩
abbrev N_finishing_order : List Str := ["many", "edges", "seen", "found", "root", "stack", "node", "at", "late"]
theorem sc_finishing_order : FnScope N_finishing_order ["many", "edges"] (defScope s_finishing_order) := ⟨rfl, rfl, rfl, by decide +kernel, rfl, by decide +kernel, by decide +kernel⟩
abbrev N_strong_parts : List Str := ["many", "edges", "back", "node", "late", "part", "number", "root", "stack", "early", "_", "%r_back"]
theorem sc_strong_parts : FnScope N_strong_parts ["many", "edges"] (defScope s_strong_parts) := ⟨rfl, rfl, rfl, by decide +kernel, rfl, by decide +kernel, by decide +kernel⟩
abbrev N_safe_edges : List Str := ["automaton", "edges", "state", "letter", "late"]
theorem sc_safe_edges : FnScope N_safe_edges ["automaton"] (defScope s_safe_edges) := ⟨rfl, rfl, rfl, by decide +kernel, rfl, by decide +kernel, by decide +kernel⟩
abbrev N_normal : List Str := ["automaton", "part", "rows", "source", "letter", "target", "word"]
theorem sc_normal : FnScope N_normal ["automaton"] (defScope s_normal) := ⟨rfl, rfl, rfl, by decide +kernel, rfl, by decide +kernel, by decide +kernel⟩
abbrev N_components : List Str := ["automaton", "part", "lots", "state"]
theorem sc_components : FnScope N_components ["automaton"] (defScope s_components) := ⟨rfl, rfl, rfl, by decide +kernel, rfl, by decide +kernel, by decide +kernel⟩
abbrev N__law_mixed : List Str := ["_law_bag", "_law_rows_here", "_law_found", "_law_row"]
theorem sc__law_mixed : FnScope N__law_mixed ["_law_bag", "_law_rows_here"] (defScope s__law_mixed) := ⟨rfl, rfl, rfl, by decide +kernel, rfl, by decide +kernel, by decide +kernel⟩
abbrev N__law_rows : List Str := ["_law_bag", "_law_alphabet_here", "_law_size", "_law_guesses", "_law_safe", "_law_rows_here", "_law_state", "_law_letter", "_law_many", "_law_goals_here", "_law_goal"]
theorem sc__law_rows : FnScope N__law_rows ["_law_bag", "_law_alphabet_here", "_law_size", "_law_guesses", "_law_safe"] (defScope s__law_rows) := ⟨rfl, rfl, rfl, by decide +kernel, rfl, by decide +kernel, by decide +kernel⟩
abbrev N__law_spec : List Str := ["_law_bag", "_law_most", "_law_guesses", "_law_alphabet_here", "_law_size", "_law_rows_here"]
theorem sc__law_spec : FnScope N__law_spec ["_law_bag", "_law_most", "_law_guesses"] (defScope s__law_spec) := ⟨rfl, rfl, rfl, by decide +kernel, rfl, by decide +kernel, by decide +kernel⟩
abbrev N__law_made : List Str := ["_law_spec_here"]
theorem sc__law_made : FnScope N__law_made ["_law_spec_here"] (defScope s__law_made) := ⟨rfl, rfl, rfl, by decide +kernel, rfl, by decide +kernel, by decide +kernel⟩
abbrev N__law_steps : List Str := ["_law_spec_here", "_law_steps_here", "_law_state", "_law_letter", "_law_row"]
theorem sc__law_steps : FnScope N__law_steps ["_law_spec_here"] (defScope s__law_steps) := ⟨rfl, rfl, rfl, by decide +kernel, rfl, by decide +kernel, by decide +kernel⟩
abbrev N__law_goals : List Str := ["_law_steps_here", "_law_states", "_law_letter", "_law_words", "_law_found", "_law_state", "_law_goal", "_law_word"]
theorem sc__law_goals : FnScope N__law_goals ["_law_steps_here", "_law_states", "_law_letter", "_law_words"] (defScope s__law_goals) := ⟨rfl, rfl, rfl, by decide +kernel, rfl, by decide +kernel, by decide +kernel⟩
abbrev N__law_reach : List Str := ["_law_spec_here", "_law_start", "_law_words", "_law_steps_here", "_law_found", "_law_here", "_law_turn", "_law_late", "_law_letter", "_law_goal"]
theorem sc__law_reach : FnScope N__law_reach ["_law_spec_here", "_law_start", "_law_words"] (defScope s__law_reach) := ⟨rfl, rfl, rfl, by decide +kernel, rfl, by decide +kernel, by decide +kernel⟩
abbrev N__law_lots : List Str := ["_law_spec_here", "_law_state", "_law_far", "_law_lots_here", "_law_lot", "_law_late"]
theorem sc__law_lots : FnScope N__law_lots ["_law_spec_here"] (defScope s__law_lots) := ⟨rfl, rfl, rfl, by decide +kernel, rfl, by decide +kernel, by decide +kernel⟩
abbrev N__law_normal : List Str := ["_law_spec_here", "_law_far", "_law_rows_here", "_law_state", "_law_row"]
theorem sc__law_normal : FnScope N__law_normal ["_law_spec_here"] (defScope s__law_normal) := ⟨rfl, rfl, rfl, by decide +kernel, rfl, by decide +kernel, by decide +kernel⟩
abbrev N__law_is : List Str := ["_law_made_z", "_law_spec_here"]
theorem sc__law_is : FnScope N__law_is ["_law_made_z", "_law_spec_here"] (defScope s__law_is) := ⟨rfl, rfl, rfl, by decide +kernel, rfl, by decide +kernel, by decide +kernel⟩
abbrev N_law : List Str := ["_law_script", "_law_bag", "_law_turn", "_law_spec_here", "_law_made_z", "_law_told", "_law_calm", "%r__law_told"]
theorem sc_law : FnScope N_law ["_law_script"] (defScope s_law) := ⟨rfl, rfl, rfl, by decide +kernel, rfl, by decide +kernel, by decide +kernel⟩
structure Adr where
  f__law_draws : Addr
  fd__law_draws : FuncData
  f__law_pull : Addr
  fd__law_pull : FuncData
  f__law_any : Addr
  fd__law_any : FuncData
  f_is_number : Addr
  fd_is_number : FuncData
  f_is_word : Addr
  fd_is_word : FuncData
  f_is_alphabet : Addr
  fd_is_alphabet : FuncData
  f__law_like : Addr
  fd__law_like : FuncData
  f__law_alphabet : Addr
  fd__law_alphabet : FuncData
  f_is_transition : Addr
  fd_is_transition : FuncData
  f_Automaton___init__ : Addr
  fd_Automaton___init__ : FuncData
  f_Automaton_check_state : Addr
  fd_Automaton_check_state : FuncData
  f_Automaton_check_letter : Addr
  fd_Automaton_check_letter : FuncData
  f_Automaton_moves : Addr
  fd_Automaton_moves : FuncData
  f_Automaton_targets : Addr
  fd_Automaton_targets : FuncData
  f_Automaton_transitions : Addr
  fd_Automaton_transitions : FuncData
  f_Automaton___eq__ : Addr
  fd_Automaton___eq__ : FuncData
  f_finishing_order : Addr
  fd_finishing_order : FuncData
  f_strong_parts : Addr
  fd_strong_parts : FuncData
  f_safe_edges : Addr
  fd_safe_edges : FuncData
  f_normal : Addr
  fd_normal : FuncData
  f_components : Addr
  fd_components : FuncData
  f__law_mixed : Addr
  fd__law_mixed : FuncData
  f__law_rows : Addr
  fd__law_rows : FuncData
  f__law_spec : Addr
  fd__law_spec : FuncData
  f__law_made : Addr
  fd__law_made : FuncData
  f__law_steps : Addr
  fd__law_steps : FuncData
  f__law_goals : Addr
  fd__law_goals : FuncData
  f__law_reach : Addr
  fd__law_reach : FuncData
  f__law_lots : Addr
  fd__law_lots : FuncData
  f__law_normal : Addr
  fd__law_normal : FuncData
  f__law_is : Addr
  fd__law_is : FuncData
  f_law : Addr
  fd_law : FuncData
  C_Automaton : Addr
structure Txt (K : PySem.W.Frag) (mg : Str → Option Value) (a : Adr) : Prop where
  F__law_draws : FunD K "_law_draws" "_law_draws" (defArgs s__law_draws) (defBody s__law_draws) (defScope s__law_draws) [] [] a.f__law_draws a.fd__law_draws
  g__law_draws : mg "_law_draws" = some (.ref a.f__law_draws)
  F__law_pull : FunD K "_law_pull" "_law_pull" (defArgs s__law_pull) (defBody s__law_pull) (defScope s__law_pull) [] [] a.f__law_pull a.fd__law_pull
  g__law_pull : mg "_law_pull" = some (.ref a.f__law_pull)
  F__law_any : FunD K "_law_any" "_law_any" (defArgs s__law_any) (defBody s__law_any) (defScope s__law_any) [] [] a.f__law_any a.fd__law_any
  g__law_any : mg "_law_any" = some (.ref a.f__law_any)
  F_is_number : FunD K "is_number" "is_number" (defArgs s_is_number) (defBody s_is_number) (defScope s_is_number) [] [] a.f_is_number a.fd_is_number
  g_is_number : mg "is_number" = some (.ref a.f_is_number)
  F_is_word : FunD K "is_word" "is_word" (defArgs s_is_word) (defBody s_is_word) (defScope s_is_word) [V.int 200] [] a.f_is_word a.fd_is_word
  g_is_word : mg "is_word" = some (.ref a.f_is_word)
  F_is_alphabet : FunD K "is_alphabet" "is_alphabet" (defArgs s_is_alphabet) (defBody s_is_alphabet) (defScope s_is_alphabet) [] [] a.f_is_alphabet a.fd_is_alphabet
  g_is_alphabet : mg "is_alphabet" = some (.ref a.f_is_alphabet)
  F__law_like : FunD K "_law_like" "_law_like" (defArgs s__law_like) (defBody s__law_like) (defScope s__law_like) [] [] a.f__law_like a.fd__law_like
  g__law_like : mg "_law_like" = some (.ref a.f__law_like)
  F__law_alphabet : FunD K "_law_alphabet" "_law_alphabet" (defArgs s__law_alphabet) (defBody s__law_alphabet) (defScope s__law_alphabet) [] [] a.f__law_alphabet a.fd__law_alphabet
  g__law_alphabet : mg "_law_alphabet" = some (.ref a.f__law_alphabet)
  F_is_transition : FunD K "is_transition" "is_transition" (defArgs s_is_transition) (defBody s_is_transition) (defScope s_is_transition) [] [] a.f_is_transition a.fd_is_transition
  g_is_transition : mg "is_transition" = some (.ref a.f_is_transition)
  F_Automaton___init__ : FunD K "__init__" "Automaton.__init__" (defArgs s_Automaton___init__) (defBody s_Automaton___init__) (defScope s_Automaton___init__) [] [("initial", V.int 0)] a.f_Automaton___init__ a.fd_Automaton___init__
  m_Automaton___init__ : Meth K a.C_Automaton "__init__" a.f_Automaton___init__
  F_Automaton_check_state : FunD K "check_state" "Automaton.check_state" (defArgs s_Automaton_check_state) (defBody s_Automaton_check_state) (defScope s_Automaton_check_state) [] [] a.f_Automaton_check_state a.fd_Automaton_check_state
  m_Automaton_check_state : Meth K a.C_Automaton "check_state" a.f_Automaton_check_state
  F_Automaton_check_letter : FunD K "check_letter" "Automaton.check_letter" (defArgs s_Automaton_check_letter) (defBody s_Automaton_check_letter) (defScope s_Automaton_check_letter) [] [] a.f_Automaton_check_letter a.fd_Automaton_check_letter
  m_Automaton_check_letter : Meth K a.C_Automaton "check_letter" a.f_Automaton_check_letter
  F_Automaton_moves : FunD K "moves" "Automaton.moves" (defArgs s_Automaton_moves) (defBody s_Automaton_moves) (defScope s_Automaton_moves) [] [] a.f_Automaton_moves a.fd_Automaton_moves
  m_Automaton_moves : Meth K a.C_Automaton "moves" a.f_Automaton_moves
  F_Automaton_targets : FunD K "targets" "Automaton.targets" (defArgs s_Automaton_targets) (defBody s_Automaton_targets) (defScope s_Automaton_targets) [V.non] [] a.f_Automaton_targets a.fd_Automaton_targets
  m_Automaton_targets : Meth K a.C_Automaton "targets" a.f_Automaton_targets
  F_Automaton_transitions : FunD K "transitions" "Automaton.transitions" (defArgs s_Automaton_transitions) (defBody s_Automaton_transitions) (defScope s_Automaton_transitions) [] [] a.f_Automaton_transitions a.fd_Automaton_transitions
  m_Automaton_transitions : Meth K a.C_Automaton "transitions" a.f_Automaton_transitions
  F_Automaton___eq__ : FunD K "__eq__" "Automaton.__eq__" (defArgs s_Automaton___eq__) (defBody s_Automaton___eq__) (defScope s_Automaton___eq__) [] [] a.f_Automaton___eq__ a.fd_Automaton___eq__
  m_Automaton___eq__ : Meth K a.C_Automaton "__eq__" a.f_Automaton___eq__
  F_finishing_order : FunD K "finishing_order" "finishing_order" (defArgs s_finishing_order) (defBody s_finishing_order) (defScope s_finishing_order) [] [] a.f_finishing_order a.fd_finishing_order
  g_finishing_order : mg "finishing_order" = some (.ref a.f_finishing_order)
  F_strong_parts : FunD K "strong_parts" "strong_parts" (defArgs s_strong_parts) (defBody s_strong_parts) (defScope s_strong_parts) [] [] a.f_strong_parts a.fd_strong_parts
  g_strong_parts : mg "strong_parts" = some (.ref a.f_strong_parts)
  F_safe_edges : FunD K "safe_edges" "safe_edges" (defArgs s_safe_edges) (defBody s_safe_edges) (defScope s_safe_edges) [] [] a.f_safe_edges a.fd_safe_edges
  g_safe_edges : mg "safe_edges" = some (.ref a.f_safe_edges)
  F_normal : FunD K "normal" "normal" (defArgs s_normal) (defBody s_normal) (defScope s_normal) [] [] a.f_normal a.fd_normal
  g_normal : mg "normal" = some (.ref a.f_normal)
  F_components : FunD K "components" "components" (defArgs s_components) (defBody s_components) (defScope s_components) [] [] a.f_components a.fd_components
  g_components : mg "components" = some (.ref a.f_components)
  F__law_mixed : FunD K "_law_mixed" "_law_mixed" (defArgs s__law_mixed) (defBody s__law_mixed) (defScope s__law_mixed) [] [] a.f__law_mixed a.fd__law_mixed
  g__law_mixed : mg "_law_mixed" = some (.ref a.f__law_mixed)
  F__law_rows : FunD K "_law_rows" "_law_rows" (defArgs s__law_rows) (defBody s__law_rows) (defScope s__law_rows) [] [] a.f__law_rows a.fd__law_rows
  g__law_rows : mg "_law_rows" = some (.ref a.f__law_rows)
  F__law_spec : FunD K "_law_spec" "_law_spec" (defArgs s__law_spec) (defBody s__law_spec) (defScope s__law_spec) [] [] a.f__law_spec a.fd__law_spec
  g__law_spec : mg "_law_spec" = some (.ref a.f__law_spec)
  F__law_made : FunD K "_law_made" "_law_made" (defArgs s__law_made) (defBody s__law_made) (defScope s__law_made) [] [] a.f__law_made a.fd__law_made
  g__law_made : mg "_law_made" = some (.ref a.f__law_made)
  F__law_steps : FunD K "_law_steps" "_law_steps" (defArgs s__law_steps) (defBody s__law_steps) (defScope s__law_steps) [] [] a.f__law_steps a.fd__law_steps
  g__law_steps : mg "_law_steps" = some (.ref a.f__law_steps)
  F__law_goals : FunD K "_law_goals" "_law_goals" (defArgs s__law_goals) (defBody s__law_goals) (defScope s__law_goals) [] [] a.f__law_goals a.fd__law_goals
  g__law_goals : mg "_law_goals" = some (.ref a.f__law_goals)
  F__law_reach : FunD K "_law_reach" "_law_reach" (defArgs s__law_reach) (defBody s__law_reach) (defScope s__law_reach) [] [] a.f__law_reach a.fd__law_reach
  g__law_reach : mg "_law_reach" = some (.ref a.f__law_reach)
  F__law_lots : FunD K "_law_lots" "_law_lots" (defArgs s__law_lots) (defBody s__law_lots) (defScope s__law_lots) [] [] a.f__law_lots a.fd__law_lots
  g__law_lots : mg "_law_lots" = some (.ref a.f__law_lots)
  F__law_normal : FunD K "_law_normal" "_law_normal" (defArgs s__law_normal) (defBody s__law_normal) (defScope s__law_normal) [] [] a.f__law_normal a.fd__law_normal
  g__law_normal : mg "_law_normal" = some (.ref a.f__law_normal)
  F__law_is : FunD K "_law_is" "_law_is" (defArgs s__law_is) (defBody s__law_is) (defScope s__law_is) [] [] a.f__law_is a.fd__law_is
  g__law_is : mg "_law_is" = some (.ref a.f__law_is)
  F_law : FunD K "law" "law" (defArgs s_law) (defBody s_law) (defScope s_law) [] [] a.f_law a.fd_law
  g_law : mg "law" = some (.ref a.f_law)
  g_Automaton : mg "Automaton" = some (.ref a.C_Automaton)
  cl_Automaton : Cls K a.C_Automaton
  is_Automaton : IsX K a.C_Automaton
  mk_Automaton : Mk K a.C_Automaton a.f_Automaton___init__
  no_Automaton_alphabet : NoAttr K a.C_Automaton "alphabet"
  no_Automaton_size : NoAttr K a.C_Automaton "size"
  no_Automaton_initial : NoAttr K a.C_Automaton "initial"
  no_Automaton_own_moves : NoAttr K a.C_Automaton "own_moves"
  eq_Automaton : EqX K a.C_Automaton a.f_Automaton___eq__
  c_LETTERS : ∃ t, mg "LETTERS" = some (.str "abcdefghijklmnopqrstuvwxyz" t)
  c_MOST_LETTERS : ∃ t, mg "MOST_LETTERS" = some (.int 200 t)
  c_MOST_STATES : ∃ t, mg "MOST_STATES" = some (.int 65 t)
  c_SAFE : ∃ t, mg "SAFE" = some (.str "safe" t)
  c_SLIP : ∃ t, mg "SLIP" = some (.str "slip" t)
  n_all : mg "all" = none
  n_bool : mg "bool" = none
  n_enumerate : mg "enumerate" = none
  n_int : mg "int" = none
  n_isinstance : mg "isinstance" = none
  n_len : mg "len" = none
  n_list : mg "list" = none
  n_min : mg "min" = none
  n_range : mg "range" = none
  n_sorted : mg "sorted" = none
  n_str : mg "str" = none
  n_tuple : mg "tuple" = none
  n_zip : mg "zip" = none
section
variable {P : Program} {w : World} {K : PySem.W.Frag} {mg : Str → Option Value} {base : Heap} {a : Adr}
theorem k__law_draws (T : Txt K mg a) : PySem.W.keepIn K (.ref a.f__law_draws) = true := T.F__law_draws.kp
theorem k__law_pull (T : Txt K mg a) : PySem.W.keepIn K (.ref a.f__law_pull) = true := T.F__law_pull.kp
theorem b0__law_pull (T : Txt K mg a) : ∃ dsv, Vals [] dsv ∧ Binds K a.fd__law_pull ["_law_bag", "_law_sides"] dsv := ⟨[], .nil, T.F__law_pull.bindsN fun _ _ _ _ _ _ us hl => match us, hl with | [_, _], _ => rfl⟩
theorem k__law_any (T : Txt K mg a) : PySem.W.keepIn K (.ref a.f__law_any) = true := T.F__law_any.kp
theorem b0__law_any (T : Txt K mg a) : ∃ dsv, Vals [] dsv ∧ Binds K a.fd__law_any ["_law_bag", "_law_rows_here"] dsv := ⟨[], .nil, T.F__law_any.bindsN fun _ _ _ _ _ _ us hl => match us, hl with | [_, _], _ => rfl⟩
theorem k_is_number (T : Txt K mg a) : PySem.W.keepIn K (.ref a.f_is_number) = true := T.F_is_number.kp
theorem b0_is_number (T : Txt K mg a) : ∃ dsv, Vals [] dsv ∧ Binds K a.fd_is_number ["value", "least", "most"] dsv := ⟨[], .nil, T.F_is_number.bindsN fun _ _ _ _ _ _ us hl => match us, hl with | [_, _, _], _ => rfl⟩
theorem k_is_word (T : Txt K mg a) : PySem.W.keepIn K (.ref a.f_is_word) = true := T.F_is_word.kp
theorem b1_is_word (T : Txt K mg a) : ∃ dsv, Vals [V.int 200] dsv ∧ Binds K a.fd_is_word ["value", "most"] dsv := T.F_is_word.binds1 1 0 (by intro h; cases h) rfl fun _ _ _ _ _ _ _ us its hl hi => match us, its, hl, hi with | [_], [_], _, _ => ⟨_, rfl, rfl⟩
theorem k_is_alphabet (T : Txt K mg a) : PySem.W.keepIn K (.ref a.f_is_alphabet) = true := T.F_is_alphabet.kp
theorem b0_is_alphabet (T : Txt K mg a) : ∃ dsv, Vals [] dsv ∧ Binds K a.fd_is_alphabet ["value"] dsv := ⟨[], .nil, T.F_is_alphabet.bindsN fun _ _ _ _ _ _ us hl => match us, hl with | [_], _ => rfl⟩
theorem k__law_like (T : Txt K mg a) : PySem.W.keepIn K (.ref a.f__law_like) = true := T.F__law_like.kp
theorem b0__law_like (T : Txt K mg a) : ∃ dsv, Vals [] dsv ∧ Binds K a.fd__law_like ["_law_a", "_law_b"] dsv := ⟨[], .nil, T.F__law_like.bindsN fun _ _ _ _ _ _ us hl => match us, hl with | [_, _], _ => rfl⟩
theorem k__law_alphabet (T : Txt K mg a) : PySem.W.keepIn K (.ref a.f__law_alphabet) = true := T.F__law_alphabet.kp
theorem b0__law_alphabet (T : Txt K mg a) : ∃ dsv, Vals [] dsv ∧ Binds K a.fd__law_alphabet ["_law_bag", "_law_most"] dsv := ⟨[], .nil, T.F__law_alphabet.bindsN fun _ _ _ _ _ _ us hl => match us, hl with | [_, _], _ => rfl⟩
theorem k_is_transition (T : Txt K mg a) : PySem.W.keepIn K (.ref a.f_is_transition) = true := T.F_is_transition.kp
theorem b0_is_transition (T : Txt K mg a) : ∃ dsv, Vals [] dsv ∧ Binds K a.fd_is_transition ["value", "alphabet", "size"] dsv := ⟨[], .nil, T.F_is_transition.bindsN fun _ _ _ _ _ _ us hl => match us, hl with | [_, _, _], _ => rfl⟩
theorem b0_Automaton_check_state (T : Txt K mg a) : ∃ dsv, Vals [] dsv ∧ Binds K a.fd_Automaton_check_state ["self", "state"] dsv := ⟨[], .nil, T.F_Automaton_check_state.bindsN fun _ _ _ _ _ _ us hl => match us, hl with | [_, _], _ => rfl⟩
theorem b0_Automaton_check_letter (T : Txt K mg a) : ∃ dsv, Vals [] dsv ∧ Binds K a.fd_Automaton_check_letter ["self", "letter"] dsv := ⟨[], .nil, T.F_Automaton_check_letter.bindsN fun _ _ _ _ _ _ us hl => match us, hl with | [_, _], _ => rfl⟩
theorem b0_Automaton_moves (T : Txt K mg a) : ∃ dsv, Vals [] dsv ∧ Binds K a.fd_Automaton_moves ["self", "state", "letter"] dsv := ⟨[], .nil, T.F_Automaton_moves.bindsN fun _ _ _ _ _ _ us hl => match us, hl with | [_, _, _], _ => rfl⟩
theorem b0_Automaton_targets (T : Txt K mg a) : ∃ dsv, Vals [] dsv ∧ Binds K a.fd_Automaton_targets ["self", "state", "letter", "word"] dsv := T.F_Automaton_targets.binds1 4 1 (by intro h; cases h) rfl fun _ _ _ _ _ _ _ us its hl hi => match us, its, hl, hi with | [_, _, _, _], [_], _, _ => ⟨_, rfl, rfl⟩
theorem b0_Automaton_transitions (T : Txt K mg a) : ∃ dsv, Vals [] dsv ∧ Binds K a.fd_Automaton_transitions ["self"] dsv := ⟨[], .nil, T.F_Automaton_transitions.bindsN fun _ _ _ _ _ _ us hl => match us, hl with | [_], _ => rfl⟩
theorem b0_Automaton___eq__ (T : Txt K mg a) : ∃ dsv, Vals [] dsv ∧ Binds K a.fd_Automaton___eq__ ["self", "other"] dsv := ⟨[], .nil, T.F_Automaton___eq__.bindsN fun _ _ _ _ _ _ us hl => match us, hl with | [_, _], _ => rfl⟩
theorem k_finishing_order (T : Txt K mg a) : PySem.W.keepIn K (.ref a.f_finishing_order) = true := T.F_finishing_order.kp
theorem b0_finishing_order (T : Txt K mg a) : ∃ dsv, Vals [] dsv ∧ Binds K a.fd_finishing_order ["many", "edges"] dsv := ⟨[], .nil, T.F_finishing_order.bindsN fun _ _ _ _ _ _ us hl => match us, hl with | [_, _], _ => rfl⟩
theorem k_strong_parts (T : Txt K mg a) : PySem.W.keepIn K (.ref a.f_strong_parts) = true := T.F_strong_parts.kp
theorem b0_strong_parts (T : Txt K mg a) : ∃ dsv, Vals [] dsv ∧ Binds K a.fd_strong_parts ["many", "edges"] dsv := ⟨[], .nil, T.F_strong_parts.bindsN fun _ _ _ _ _ _ us hl => match us, hl with | [_, _], _ => rfl⟩
theorem k_safe_edges (T : Txt K mg a) : PySem.W.keepIn K (.ref a.f_safe_edges) = true := T.F_safe_edges.kp
theorem b0_safe_edges (T : Txt K mg a) : ∃ dsv, Vals [] dsv ∧ Binds K a.fd_safe_edges ["automaton"] dsv := ⟨[], .nil, T.F_safe_edges.bindsN fun _ _ _ _ _ _ us hl => match us, hl with | [_], _ => rfl⟩
theorem k_normal (T : Txt K mg a) : PySem.W.keepIn K (.ref a.f_normal) = true := T.F_normal.kp
theorem b0_normal (T : Txt K mg a) : ∃ dsv, Vals [] dsv ∧ Binds K a.fd_normal ["automaton"] dsv := ⟨[], .nil, T.F_normal.bindsN fun _ _ _ _ _ _ us hl => match us, hl with | [_], _ => rfl⟩
theorem k_components (T : Txt K mg a) : PySem.W.keepIn K (.ref a.f_components) = true := T.F_components.kp
theorem b0_components (T : Txt K mg a) : ∃ dsv, Vals [] dsv ∧ Binds K a.fd_components ["automaton"] dsv := ⟨[], .nil, T.F_components.bindsN fun _ _ _ _ _ _ us hl => match us, hl with | [_], _ => rfl⟩
theorem k__law_mixed (T : Txt K mg a) : PySem.W.keepIn K (.ref a.f__law_mixed) = true := T.F__law_mixed.kp
theorem b0__law_mixed (T : Txt K mg a) : ∃ dsv, Vals [] dsv ∧ Binds K a.fd__law_mixed ["_law_bag", "_law_rows_here"] dsv := ⟨[], .nil, T.F__law_mixed.bindsN fun _ _ _ _ _ _ us hl => match us, hl with | [_, _], _ => rfl⟩
theorem k__law_rows (T : Txt K mg a) : PySem.W.keepIn K (.ref a.f__law_rows) = true := T.F__law_rows.kp
theorem b0__law_rows (T : Txt K mg a) : ∃ dsv, Vals [] dsv ∧ Binds K a.fd__law_rows ["_law_bag", "_law_alphabet_here", "_law_size", "_law_guesses", "_law_safe"] dsv := ⟨[], .nil, T.F__law_rows.bindsN fun _ _ _ _ _ _ us hl => match us, hl with | [_, _, _, _, _], _ => rfl⟩
theorem k__law_spec (T : Txt K mg a) : PySem.W.keepIn K (.ref a.f__law_spec) = true := T.F__law_spec.kp
theorem b0__law_spec (T : Txt K mg a) : ∃ dsv, Vals [] dsv ∧ Binds K a.fd__law_spec ["_law_bag", "_law_most", "_law_guesses"] dsv := ⟨[], .nil, T.F__law_spec.bindsN fun _ _ _ _ _ _ us hl => match us, hl with | [_, _, _], _ => rfl⟩
theorem k__law_made (T : Txt K mg a) : PySem.W.keepIn K (.ref a.f__law_made) = true := T.F__law_made.kp
theorem b0__law_made (T : Txt K mg a) : ∃ dsv, Vals [] dsv ∧ Binds K a.fd__law_made ["_law_spec_here"] dsv := ⟨[], .nil, T.F__law_made.bindsN fun _ _ _ _ _ _ us hl => match us, hl with | [_], _ => rfl⟩
theorem k__law_steps (T : Txt K mg a) : PySem.W.keepIn K (.ref a.f__law_steps) = true := T.F__law_steps.kp
theorem b0__law_steps (T : Txt K mg a) : ∃ dsv, Vals [] dsv ∧ Binds K a.fd__law_steps ["_law_spec_here"] dsv := ⟨[], .nil, T.F__law_steps.bindsN fun _ _ _ _ _ _ us hl => match us, hl with | [_], _ => rfl⟩
theorem k__law_goals (T : Txt K mg a) : PySem.W.keepIn K (.ref a.f__law_goals) = true := T.F__law_goals.kp
theorem b0__law_goals (T : Txt K mg a) : ∃ dsv, Vals [] dsv ∧ Binds K a.fd__law_goals ["_law_steps_here", "_law_states", "_law_letter", "_law_words"] dsv := ⟨[], .nil, T.F__law_goals.bindsN fun _ _ _ _ _ _ us hl => match us, hl with | [_, _, _, _], _ => rfl⟩
theorem k__law_reach (T : Txt K mg a) : PySem.W.keepIn K (.ref a.f__law_reach) = true := T.F__law_reach.kp
theorem b0__law_reach (T : Txt K mg a) : ∃ dsv, Vals [] dsv ∧ Binds K a.fd__law_reach ["_law_spec_here", "_law_start", "_law_words"] dsv := ⟨[], .nil, T.F__law_reach.bindsN fun _ _ _ _ _ _ us hl => match us, hl with | [_, _, _], _ => rfl⟩
theorem k__law_lots (T : Txt K mg a) : PySem.W.keepIn K (.ref a.f__law_lots) = true := T.F__law_lots.kp
theorem b0__law_lots (T : Txt K mg a) : ∃ dsv, Vals [] dsv ∧ Binds K a.fd__law_lots ["_law_spec_here"] dsv := ⟨[], .nil, T.F__law_lots.bindsN fun _ _ _ _ _ _ us hl => match us, hl with | [_], _ => rfl⟩
theorem k__law_normal (T : Txt K mg a) : PySem.W.keepIn K (.ref a.f__law_normal) = true := T.F__law_normal.kp
theorem b0__law_normal (T : Txt K mg a) : ∃ dsv, Vals [] dsv ∧ Binds K a.fd__law_normal ["_law_spec_here"] dsv := ⟨[], .nil, T.F__law_normal.bindsN fun _ _ _ _ _ _ us hl => match us, hl with | [_], _ => rfl⟩
theorem k__law_is (T : Txt K mg a) : PySem.W.keepIn K (.ref a.f__law_is) = true := T.F__law_is.kp
theorem b0__law_is (T : Txt K mg a) : ∃ dsv, Vals [] dsv ∧ Binds K a.fd__law_is ["_law_made_z", "_law_spec_here"] dsv := ⟨[], .nil, T.F__law_is.bindsN fun _ _ _ _ _ _ us hl => match us, hl with | [_, _], _ => rfl⟩
theorem kb0_Automaton___init__ (T : Txt K mg a) : KBp K a.fd_Automaton___init__ ["self", "alphabet", "size", "transitions", "initial"] 4 ["initial"] [0, 1, 2, 3, 4] := kbp_none T.F_Automaton___init__ _ _ _ fun _ _ _ _ _ _ us ws h1 h2 => match us, ws, h1, h2 with | [_, _, _, _], [_], _, _ => rfl
theorem kb1_components (T : Txt K mg a) : KBp K a.fd_components ["automaton"] 0 ["automaton"] [0] := kbp_none T.F_components _ _ _ fun _ _ _ _ _ _ us ws h1 h2 => match us, ws, h1, h2 with | [], [_], _, _ => rfl
def tf__law_draws : TDF := fun ds Q => ds = [.raw .non] ∧ False
theorem cutV_map (ns : List Int) (lo hi : Option Int) : cutV (ns.map V.int) lo hi = (cut ns lo hi).map V.int := by
  unfold cutV cut
  rw [List.length_map, List.map_take, List.map_drop]
theorem cut_len {α : Type} (xs : List α) (lo hi : Option Int) : (cut xs lo hi).length ≤ xs.length := by
  unfold cut
  rw [List.length_take, List.length_drop]
  omega
def spDraws (K : PySem.W.Frag) : Sp := fun vs H Q _ => ∃ (s : Addr) (ns : List Int), vs = [.ref s] ∧ SqL K H s (ns.map V.int) ∧ ns.length ≤ 63 ∧ ∀ H' p l, Grow H H' → BagAt H' p l → Q (.ref p) H'
theorem ok__law_draws (T : Txt K mg a) : FnOk P w K mg base CX0 1 a.f__law_draws a.fd__law_draws ["_law_script"] (spDraws K) := by
  refine T.F__law_draws.ok sc__law_draws (fun vs H Q E h => ?_) (fun cdv A outer s H vs Q E hr h => ?_)
  · obtain ⟨s, ns, rfl, _⟩ := h
    rfl
  · obtain ⟨sc, ns, rfl, hS, hlen, q⟩ := h
    refine ⟨_, PSs.nox (pss_cons (ps_set (i := 1) sc__law_draws.nd rfl (Or.inl rfl) pe_int)
      (pss_cons (ps_for PassesOwn.never rfl (pi_list (pe_slice sl_list (pv 0) po_none (po_some pe_int))) (pg_name (i := 2) sc__law_draws.nd rfl (Or.inl rfl))
        (pss_one (ps_set (i := 1) sc__law_draws.nd rfl (Or.inl rfl) (pe_op op_mod (pe_callTy call_int1 (by rfl) T.n_int (by decide +kernel) (pa_cons (pe_op op_add (pe_op op_add (pe_op op_mul (pv 1) pe_int) (pe_op op_mod (pe_callTy call_int1 (by rfl) T.n_int (by decide +kernel) (pa_cons (pv 2) pa_nil)) pe_int)) pe_int) pa_nil)) pe_int))))
      (pss_one (ps_ret (pe_lst (pa_cons (pe_callTy call_list_of (by rfl) T.n_list (by decide +kernel) (pa_cons (pe_slice sl_list (pv 0) po_none (po_some pe_int)) pa_nil)) (pa_cons pe_int (pa_cons pe_int (pa_cons (pv 1) (pa_cons pe_int pa_nil)))))))))), ?_⟩
    refine ⟨.ref sc, rfl, 63, rfl, sc, _, rfl, hS, fun c hc => ?_⟩
    have g1 : Grow H (upd H c (.lst (cutV (ns.map V.int) none (some 63)))) := fun b o e => by rw [upd_ne (ne_of_none e hc)]; exact e
    generalize hH1 : upd H c (.lst (cutV (ns.map V.int) none (some 63))) = H1 at g1
    have hc1 : H1 c = some (.lst ((cut ns none (some 63)).map V.int)) := by rw [← hH1, upd_same, cutV_map]
    refine ⟨c, rfl, ⟨_, .of hc1⟩, for_list (xs := (cut ns none (some 63)).map V.int) (fun i σ H2 => ∃ (sd : Int) (c2 : Option V), σ = [some (.ref sc), some (.int sd), c2] ∧ H2 = H1 ∧ 0 ≤ sd ∧ sd < 2147483549) ⟨12013, none, rfl, rfl, by decide, by decide⟩ (fun i σ H2 _ hP => ?_) (fun i x σ H2 hx hP => ?_) (fun σ H2 hP => ?_)⟩
    · obtain ⟨_, _, _, rfl, _⟩ := hP
      exact .of hc1
    · obtain ⟨sd, c2, rfl, rfl, s0, s1⟩ := hP
      obtain ⟨n, rfl⟩ : ∃ n, x = .int n := by
        have := List.mem_of_getElem? hx
        simp only [List.mem_map] at this
        obtain ⟨n, _, rfl⟩ := this
        exact ⟨n, rfl⟩
      refine ⟨.int sd, rfl, sd, 44017, rfl, rfl, .inr ⟨by decide, by decide⟩, .int n, rfl, .inl ⟨n, rfl, n, 2147483353, rfl, rfl, (by show (0 : Int) < 2147483353; decide), _, _, rfl, rfl, _, 91, rfl, rfl, .inl ⟨_, rfl, _, 2147483549, rfl, rfl, (by show (0 : Int) < 2147483549; decide), ?_⟩⟩⟩
      exact ⟨_, some (.int n), rfl, rfl, Int.emod_nonneg _ (by decide), Int.emod_lt_of_pos _ (by decide)⟩
    · obtain ⟨sd, c2, rfl, rfl, s0, s1⟩ := hP
      have hS1 : SqL K H2 sc (ns.map V.int) := by
        rcases hS with hS | hS
        · rcases hS with e | ⟨o, e⟩
          · exact .inl (.inl (g1 _ _ e))
          · exact .inl (.inr ⟨o, g1 _ _ e⟩)
        · exact .inr hS
      refine ⟨.ref sc, rfl, 63, rfl, sc, _, rfl, hS1, fun c3 hc3 => ?_⟩
      refine ⟨c3, _, rfl, .inl (.of upd_same), fun l hl => ?_⟩
      refine ⟨.int sd, rfl, (by show 5 ≤ sizeLine; decide), fun p hp => ?_⟩
      have n1 : p ≠ l := by
        rintro rfl
        rw [upd_same] at hp
        cases hp
      refine q _ p l (fun b o e => ?_) ⟨n1, cut ns none (some 63), 0, 0, sd, 0, upd_same, ?_, Nat.le_trans (cut_len _ _ _) hlen, by decide, by decide, s0, s1, by decide⟩
      · have e1 := g1 b o e
        have m1 := ne_of_none e1 hc3
        have e2 : upd H2 c3 (.lst (cutV (ns.map V.int) none (some 63))) b = some o := by rw [upd_ne m1]; exact e1
        have m2 := ne_of_none e2 hl
        have e3 : upd (upd H2 c3 (.lst (cutV (ns.map V.int) none (some 63)))) l (.lst (cutV (ns.map V.int) none (some 63))) b = some o := by rw [upd_ne m2]; exact e2
        rw [upd_ne (ne_of_none e3 hp)]; exact e3
      · rw [upd_ne (Ne.symm n1), upd_same, cutV_map]
def tf__law_pull : TDF := fun ds Q => ∃ (s : Int), ds = [.bag, .int s] ∧ (0 < s ∧ s < 1073741824) ∧ ∀ n : Int, 0 ≤ n → n < s → Q (.int n)
theorem ar__law_pull : ∀ ds Q, tf__law_pull ds Q → ds.length = 2 := by
  rintro ds Q ⟨_, rfl, _⟩
  rfl
structure BS (H0 H : Hp) (a l : Addr) (ns : List Int) (at_ big seed cnt : Int) : Prop where
  ba : H a = some (.lst [.ref l, .int at_, .int big, .int seed, .int cnt])
  bl : H l = some (.lst (ns.map .int))
  oth : ∀ b o, b ≠ a → H0 b = some o → H b = some o
theorem BS.set {H0 H : Hp} {a l : Addr} {ns : List Int} {at_ big seed cnt at2 big2 seed2 cnt2 : Int} (h : BS H0 H a l ns at_ big seed cnt) (ne : a ≠ l) : BS H0 (upd H a (.lst [.ref l, .int at2, .int big2, .int seed2, .int cnt2])) a l ns at2 big2 seed2 cnt2 :=
  ⟨upd_same, by rw [upd_ne (Ne.symm ne)]; exact h.bl, fun b o n e => by rw [upd_ne n]; exact h.oth b o n e⟩
theorem BS.new {H0 H : Hp} {a l : Addr} {ns : List Int} {at_ big seed cnt : Int} (h : BS H0 H a l ns at_ big seed cnt) {p : Addr} {o : HO} (hp : H p = none) : BS H0 (upd H p o) a l ns at_ big seed cnt :=
  ⟨by rw [upd_ne (ne_of_none h.ba hp)]; exact h.ba, by rw [upd_ne (ne_of_none h.bl hp)]; exact h.bl, fun b u n e => by rw [upd_ne (ne_of_none (h.oth b u n e) hp)]; exact h.oth b u n e⟩
theorem seq_by {t u : TS} {D : Ends} {σ : St} {H : Hp} (R : St → Hp → Prop) (hu : ∀ σ2 H2, R σ2 H2 → u D σ2 H2) (ht : ∀ nx : St → Hp → Prop, (∀ σ2 H2, R σ2 H2 → nx σ2 H2) → t { D with nx := nx } σ H) : tSeq t u D σ H := ht _ hu
theorem ok__law_pull (T : Txt K mg a) : FnOk P w K mg base CX0 1 a.f__law_pull a.fd__law_pull ["_law_bag", "_law_sides"] (spE 2 tf__law_pull) := by
  refine T.F__law_pull.ok sc__law_pull (fun vs H Q E h => h.1) (fun cdv A outer s H vs Q E hr h => ?_)
  obtain ⟨hl, z, M, ds, Qd, Am, r, ⟨sd, rfl, ⟨hs0, hs1⟩, hq⟩, k⟩ := h
  rcases r with _ | ⟨r1, r2⟩
  rcases r2 with _ | ⟨r2, r3⟩
  cases r3
  cases r2
  cases r1 with
  | @bag b l ez =>
    have hB := Am.bag.bg b l ez
    obtain ⟨ne, ns, at_, big, seed, cnt, ba, bl, hns, h1, h2, h3, h4, h5⟩ := hB
    have B0 : BS H H b l ns at_ big seed cnt := ⟨ba, bl, fun _ _ _ e => e⟩
    have fin : ∀ (H' : Hp) (at_ big seed cnt n : Int), BS H H' b l ns at_ big seed cnt → 0 ≤ at_ → 0 ≤ big → 0 ≤ seed → seed < 2147483549 → 0 ≤ cnt → 0 ≤ n → n < sd → Q (.int n) H' := fun H' at_ big seed cnt n B g1 g2 g3 g4 g5 n0 n1 => by
      refine k (.int n) (.int n) H' (hq n n0 n1) (fun c o e nb => B.oth c o (fun h => nb (.inl ⟨l, by rw [h]; exact ez⟩)) e) ⟨fun p q e => ?_, fun P e => ?_, Am.bag.ap⟩ (.int n)
      · rw [ez] at e
        cases e
        exact ⟨ne, ns, at_, big, seed, cnt, B.ba, B.bl, hns, g1, g2, g3, g4, g5⟩
      · obtain ⟨ps, e1, e2, e3⟩ := Am.bag.tb P e
        have nP : P ≠ b := fun q => (Am.bag.ap b l P ez e).1 q.symm
        refine ⟨ps, B.oth P _ nP e1, e2, fun pos cv hc => ?_⟩
        obtain ⟨c, f1, f2⟩ := e3 pos cv hc
        refine ⟨c, f1, B.oth c _ (fun q => ?_) f2⟩
        subst q
        rw [ba] at f2
        cases f2
    refine ⟨_, PSs.nox (pss_cons (ps_asg (pe_op op_add (pe_ix ix_list (pv 0) pe_int (fun _ _ => rfl)) pe_int) (pg_sub (pv 0) pe_int set_list))
      (pss_cons (ps_if (PW.pt (pw_and (pt_cmpR op_eq (pe_ix ix_list (pv 0) pe_int (fun _ _ => rfl)) pe_int (nomark _)) (pw_and1 (pt_cmpR op_lt (pe_ix ix_list (pv 0) pe_int (fun _ _ => rfl)) (pe_callB call_len_seq (by rfl) T.n_len PySem.boot_len (pa_cons (pe_ix ix_list (pv 0) pe_int (fun _ _ => rfl)) pa_nil)) (nomark _)))))
        (pss_cons (ps_asg (pe_tup (pa_cons (pe_ix ix_list (pe_ix ix_list (pv 0) pe_int (fun _ _ => rfl)) (pe_ix ix_list (pv 0) pe_int (fun _ _ => rfl)) (fun _ _ => rfl)) (pa_cons (pe_op op_add (pe_ix ix_list (pv 0) pe_int (fun _ _ => rfl)) pe_int) pa_nil)))
            (pg_tup rfl (pgs_cons (pg_name (i := 2) sc__law_pull.nd rfl (Or.inl rfl)) (pgs_cons (pg_sub (pv 0) pe_int set_list) pgs_nil))))
        (pss_cons (ps_if (pt_cmpR op_ge (pv 2) (pe_op op_pow pe_int pe_int) (nomark _)) (pss_one (ps_asg (pv 2) (pg_sub (pv 0) pe_int set_list))) pss_nil)
        (pss_one (ps_asg (pe_op op_mod (pe_callTy call_int1 (by rfl) T.n_int (by decide +kernel) (pa_cons (pe_op op_add (pe_op op_add (pe_op op_mul (pe_ix ix_list (pv 0) pe_int (fun _ _ => rfl)) pe_int) (pe_op op_mul (pe_op op_mod (pe_callTy call_int1 (by rfl) T.n_int (by decide +kernel) (pa_cons (pv 2) pa_nil)) pe_int) pe_int)) pe_int) pa_nil)) pe_int) (pg_sub (pv 0) pe_int set_list)))))
        pss_nil)
      (pss_cons (ps_if (pt_cmpR op_gt (pe_ix ix_list (pv 0) pe_int (fun _ _ => rfl)) pe_int (nomark _))
        (pss_cons (ps_asg (pe_tup (pa_cons (pe_op op_mod (pe_callTy call_int1 (by rfl) T.n_int (by decide +kernel) (pa_cons (pe_ix ix_list (pv 0) pe_int (fun _ _ => rfl)) pa_nil)) (pv 1)) (pa_cons (pe_op op_fdiv (pe_ix ix_list (pv 0) pe_int (fun _ _ => rfl)) (pv 1)) pa_nil)))
            (pg_tup rfl (pgs_cons (pg_name (i := 3) sc__law_pull.nd rfl (Or.inl rfl)) (pgs_cons (pg_sub (pv 0) pe_int set_list) pgs_nil))))
          (pss_one (ps_ret (pv 3)))) pss_nil)
      (pss_cons (ps_set (i := 4) sc__law_pull.nd rfl (Or.inl rfl) (pe_ix ix_list (pv 0) pe_int (fun _ _ => rfl)))
      (pss_cons (ps_asg (pe_op op_mod (pe_callTy call_int1 (by rfl) T.n_int (by decide +kernel) (pa_cons (pe_op op_add (pe_op op_add (pe_op op_add (pe_op op_pow (pv 4) pe_int) (pe_op op_mul (pv 4) pe_int)) (pe_op op_mul (pe_ix ix_list (pv 0) pe_int (fun _ _ => rfl)) pe_int)) pe_int) pa_nil)) pe_int) (pg_sub (pv 0) pe_int set_list))
      (pss_one (ps_ret (pe_op op_mod (pe_callTy call_int1 (by rfl) T.n_int (by decide +kernel) (pa_cons (pe_op op_add (pe_op op_fdiv (pe_ix ix_list (pv 0) pe_int (fun _ _ => rfl)) pe_int) (pe_op op_mul (pe_op op_mod (pe_callTy call_int1 (by rfl) T.n_int (by decide +kernel) (pa_cons (pe_ix ix_list (pv 0) pe_int (fun _ _ => rfl)) pa_nil)) pe_int) pe_int)) pa_nil)) (pv 1))))))))), ?_⟩
    -- bag[4] = bag[4] + 1
    refine ⟨.ref b, rfl, b, _, 4, _, rfl, rfl, .of ba, rfl, _, _, rfl, rfl, .ref b, rfl, b, _, 4, 4, rfl, rfl, ba, rfl, ?_⟩
    have B1 := B0.set (at2 := at_) (big2 := big) (seed2 := seed) (cnt2 := cnt + 1) ne
    have hcnt : 0 ≤ cnt + 1 := by omega
    dsimp only
    refine seq_by (fun σ2 H2 => ∃ (at2 big2 seed2 : Int) (c2 : Option V), σ2 = [some (.ref b), some (.int sd), c2, none, none] ∧ BS H H2 b l ns at2 big2 seed2 (cnt + 1) ∧ 0 ≤ at2 ∧ 0 ≤ big2 ∧ 0 ≤ seed2 ∧ seed2 < 2147483549) (fun σ2 H2 hR => ?_) (fun nx hnx => ?_)
    · obtain ⟨at2, big2, seed2, c2, rfl, B2, g1, g2, g3, g4⟩ := hR
      refine ⟨.ref b, rfl, b, _, 2, _, rfl, rfl, .of B2.ba, rfl, _, _, rfl, rfl, _, rfl, ?_⟩
      refine ite2 (fun e1 => ?_) (fun e1 => ?_)
      · refine ⟨.ref b, rfl, b, _, 2, _, rfl, rfl, .of B2.ba, rfl, .inl ⟨big2, rfl, .int sd, rfl, big2, sd, rfl, rfl, hs0, .ref b, rfl, b, _, 2, _, rfl, rfl, .of B2.ba, rfl, .int sd, rfl, big2, sd, rfl, rfl, ⟨hs0, hs1⟩, (by show 2 ≤ sizeLine; decide), fun tp htp => ?_⟩⟩
        have B3 := B2.new (o := .tup [.int (big2 % sd), .int (big2 / sd)]) htp
        refine ⟨tp, _, rfl, .of upd_same, rfl, _, _, rfl, _, _, rfl, .ref b, rfl, b, _, 2, 2, rfl, rfl, B3.ba, rfl, rfl, ?_⟩
        have B4 := B3.set (at2 := at2) (big2 := big2 / sd) (seed2 := seed2) (cnt2 := cnt + 1) ne
        exact ⟨.int (big2 % sd), rfl, fin _ _ _ _ _ _ B4 g1 (Int.ediv_nonneg g2 (by omega)) g3 g4 hcnt (Int.emod_nonneg _ (by omega)) (Int.emod_lt_of_pos _ hs0)⟩
      · refine ⟨.ref b, rfl, b, _, 3, _, rfl, rfl, .of B2.ba, rfl, ?_⟩
        have hpow : CPow seed2 3 := ⟨by decide, by decide, by omega⟩
        refine ⟨.int seed2, rfl, seed2, 3, rfl, rfl, hpow, .int seed2, rfl, seed2, 36979, rfl, rfl, .inr ⟨by decide, by decide⟩, _, _, rfl, rfl, .ref b, rfl, b, _, 4, _, rfl, rfl, .of B2.ba, rfl, _, 1299827, rfl, rfl, .inr ⟨by decide, by decide⟩, _, _, rfl, rfl, _, 50021, rfl, rfl, .inl ⟨_, rfl, _, 2147483549, rfl, rfl, (by show (0 : Int) < 2147483549; decide), .ref b, rfl, b, _, 3, 3, rfl, rfl, B2.ba, rfl, ?_⟩⟩
        have B4 := B2.set (at2 := at2) (big2 := big2) (seed2 := (seed2 ^ (3 : Int).toNat + seed2 * 36979 + (cnt + 1) * 1299827 + 50021) % 2147483549) (cnt2 := cnt + 1) ne
        have hm : 0 ≤ (seed2 ^ (3 : Int).toNat + seed2 * 36979 + (cnt + 1) * 1299827 + 50021) % 2147483549 ∧ (seed2 ^ (3 : Int).toNat + seed2 * 36979 + (cnt + 1) * 1299827 + 50021) % 2147483549 < 2147483549 := ⟨Int.emod_nonneg _ (by decide), Int.emod_lt_of_pos _ (by decide)⟩
        refine ⟨.ref b, rfl, b, _, 3, _, rfl, rfl, .of B4.ba, rfl, _, 89, rfl, rfl, ⟨by decide, by decide⟩, .ref b, rfl, b, _, 3, _, rfl, rfl, .of B4.ba, rfl, .inl ⟨_, rfl, _, 7907, rfl, rfl, (by show (0 : Int) < 7907; decide), _, 61, rfl, rfl, .inr ⟨by decide, by decide⟩, _, _, rfl, rfl, .inl ⟨_, rfl, .int sd, rfl, _, sd, rfl, rfl, hs0, ?_⟩⟩⟩
        exact fin _ _ _ _ _ _ B4 g1 g2 hm.1 hm.2 hcnt (Int.emod_nonneg _ (by omega)) (Int.emod_lt_of_pos _ hs0)
    refine ⟨.ref b, rfl, b, _, 2, _, rfl, rfl, .of B1.ba, rfl, rfl, _, rfl, ?_⟩
    have e18 : ((10 : Int) ^ (18 : Int).toNat) = 1000000000000000000 := by decide
    refine ite2 (fun e1 => ?_) (fun e1 => ?_)
    · refine ⟨.ref b, rfl, b, _, 1, _, rfl, rfl, .of B1.ba, rfl, .ref b, rfl, b, _, 0, _, rfl, rfl, .of B1.ba, rfl, l, _, rfl, .inl (.of B1.bl), _, _, rfl, rfl, _, rfl, ?_⟩
      refine ite2 (fun e2 => ?_) (fun e2 => ?_)
      · have hlt : at_ < ((ns.map V.int).length : Int) := of_decide_eq_true e2
        rw [List.length_map] at hlt
        have hat : at_.toNat < ns.length := by omega
        have hix : atI (ns.map V.int) at_ = some (.int ns[at_.toNat]) := by
          have := atI_nat (xs := ns.map V.int) (j := at_.toNat) (v := .int ns[at_.toNat]) (by rw [List.getElem?_map, List.getElem?_eq_getElem hat]; rfl)
          rw [Int.toNat_of_nonneg h1] at this
          exact this
        generalize ns[at_.toNat] = cell at hix
        -- cell, bag[1] = bag[0][bag[1]], bag[1] + 1
        refine ⟨.ref b, rfl, b, _, 0, _, rfl, rfl, .of B1.ba, rfl, .ref b, rfl, b, _, 1, _, rfl, rfl, .of B1.ba, rfl, l, _, at_, .int cell, rfl, rfl, .of B1.bl, hix, .ref b, rfl, b, _, 1, _, rfl, rfl, .of B1.ba, rfl, _, _, rfl, rfl, (by show 2 ≤ sizeLine; decide), fun tp htp => ?_⟩
        have B2 := B1.new (o := .tup [.int cell, .int (at_ + 1)]) htp
        refine ⟨tp, _, rfl, .of upd_same, rfl, _, _, rfl, _, _, rfl, .ref b, rfl, b, _, 1, 1, rfl, rfl, B2.ba, rfl, rfl, ?_⟩
        have B3 := B2.set (at2 := at_ + 1) (big2 := big) (seed2 := seed) (cnt2 := cnt + 1) ne
        -- if cell >= 10 ** 18
        refine ⟨.int cell, rfl, 10, 18, rfl, rfl, ⟨by decide, by decide, by decide⟩, cell, _, rfl, rfl, _, rfl, ?_⟩
        have hmod : ∀ x : Int, 0 ≤ x % 2147483549 ∧ x % 2147483549 < 2147483549 := fun x => ⟨Int.emod_nonneg _ (by decide), Int.emod_lt_of_pos _ (by decide)⟩
        refine ite2 (fun e3 => ?_) (fun e3 => ?_)
        · have hcell : (1000000000000000000 : Int) ≤ cell := by rw [← e18]; exact of_decide_eq_true e3
          refine ⟨.int cell, rfl, .ref b, rfl, b, _, 2, 2, rfl, rfl, B3.ba, rfl, ?_⟩
          have B4 := B3.set (at2 := at_ + 1) (big2 := cell) (seed2 := seed) (cnt2 := cnt + 1) ne
          refine ⟨.ref b, rfl, b, _, 3, _, rfl, rfl, .of B4.ba, rfl, seed, 39217, rfl, rfl, .inr ⟨by decide, by decide⟩, .int cell, rfl, .inl ⟨cell, rfl, cell, 2147483353, rfl, rfl, (by show (0 : Int) < 2147483353; decide), _, 41231, rfl, rfl, .inr ⟨by decide, by decide⟩, _, _, rfl, rfl, _, 71, rfl, rfl, .inl ⟨_, rfl, _, 2147483549, rfl, rfl, (by show (0 : Int) < 2147483549; decide), .ref b, rfl, b, _, 3, 3, rfl, rfl, B4.ba, rfl, ?_⟩⟩⟩
          have hm := hmod (seed * 39217 + cell % 2147483353 * 41231 + 71)
          have B5 := B4.set (at2 := at_ + 1) (big2 := cell) (seed2 := (seed * 39217 + cell % 2147483353 * 41231 + 71) % 2147483549) (cnt2 := cnt + 1) ne
          exact hnx _ _ ⟨at_ + 1, cell, _, some (.int cell), rfl, B5, by omega, by omega, hm.1, hm.2⟩
        · refine ⟨.ref b, rfl, b, _, 3, _, rfl, rfl, .of B3.ba, rfl, seed, 39217, rfl, rfl, .inr ⟨by decide, by decide⟩, .int cell, rfl, .inl ⟨cell, rfl, cell, 2147483353, rfl, rfl, (by show (0 : Int) < 2147483353; decide), _, 41231, rfl, rfl, .inr ⟨by decide, by decide⟩, _, _, rfl, rfl, _, 71, rfl, rfl, .inl ⟨_, rfl, _, 2147483549, rfl, rfl, (by show (0 : Int) < 2147483549; decide), .ref b, rfl, b, _, 3, 3, rfl, rfl, B3.ba, rfl, ?_⟩⟩⟩
          have hm := hmod (seed * 39217 + cell % 2147483353 * 41231 + 71)
          have B5 := B3.set (at2 := at_ + 1) (big2 := big) (seed2 := (seed * 39217 + cell % 2147483353 * 41231 + 71) % 2147483549) (cnt2 := cnt + 1) ne
          exact hnx _ _ ⟨at_ + 1, big, _, some (.int cell), rfl, B5, by omega, by omega, hm.1, hm.2⟩
      · exact hnx _ _ ⟨at_, big, seed, none, rfl, B1, h1, h2, h3, h4⟩
    · exact hnx _ _ ⟨at_, big, seed, none, rfl, B1, h1, h2, h3, h4⟩
def tf__law_any : TDF := fun ds Q => ∃ (r : D) (rs : List D), ds = [.bag, r] ∧ itemsD r = some rs ∧ 0 < rs.length ∧ rs.length < 16777216 ∧ ∀ d ∈ rs, Q d
theorem ar__law_any : ∀ ds Q, tf__law_any ds Q → ds.length = 2 := by
  rintro ds Q ⟨_, _, rfl, _⟩
  rfl
theorem atI_some {α : Type} {xs : List α} {i : Int} (h0 : 0 ≤ i) (h1 : i < xs.length) : ∃ d, atI xs i = some d := by
  have hl : i.toNat < xs.length := by omega
  have := atI_nat (xs := xs) (j := i.toNat) (List.getElem?_eq_getElem hl)
  rw [Int.toNat_of_nonneg h0] at this
  exact ⟨_, this⟩
theorem atI_mem {α : Type} {xs : List α} {i : Int} {d : α} (h : atI xs i = some d) : d ∈ xs := by
  unfold atI at h
  cases e : ixN xs.length i with
  | none => rw [e] at h; cases h
  | some j => rw [e] at h; exact List.mem_of_getElem? h
def tf_is_number : TDF := fun ds Q => ∃ (d : D) (lo : Int) (hi : Int), ds = [d, .int lo, .int hi] ∧ (tyN d).isSome = true ∧ Q (.bl (isNumD d lo hi))
theorem ar_is_number : ∀ ds Q, tf_is_number ds Q → ds.length = 3 := by
  rintro ds Q ⟨_, _, _, rfl, _⟩
  rfl
theorem ok_is_number (T : Txt K mg a) : FnOk P w K mg base CX0 1 a.f_is_number a.fd_is_number ["value", "least", "most"] (spE 3 tf_is_number) := by
  refine ok_E T.F_is_number sc_is_number rfl (fun cdv A outer s H E hr => ⟨_, (ds_one (ds_ret (de_and (PE.toP (de_isi tab_int T.n_isinstance (dap_cons (dp_var (pv 0)) (dap_cons (PE.toP (de_ty (T := "int") T.n_int (by decide +kernel))) dap_nil)))) (de_and (PE.toP (de_not (PE.toP (de_isi tab_bool T.n_isinstance (dap_cons (dp_var (pv 0)) (dap_cons (PE.toP (de_ty (T := "bool") T.n_bool (by decide +kernel))) dap_nil)))))) (de_one (de_lele (dp_var (pv 1)) (dp_var (pv 0)) (dp_var (pv 2)))))))), fun ds Qd hd h => ?_⟩)
  obtain ⟨d, lo, hi, rfl, h⟩ := h
  simp only [List.map_cons, List.map_nil]
  obtain ⟨h1, h⟩ := h
  cases d <;> (try cases h1) <;> walk_at "ev" <;> first | exact h | (simp only [isNumD] at h; trace_state; exact h)
def tf_is_word : TDF := fun ds Q => ∃ (d : D) (m : Int), ds = [d, .int m] ∧ ((tyN d).isSome = true ∧ lenOk d) ∧ Q (.bl (isWordD d m))
theorem ar_is_word : ∀ ds Q, tf_is_word ds Q → ds.length = 2 := by
  rintro ds Q ⟨_, _, rfl, _⟩
  rfl
def tf_is_alphabet : TDF := fun ds Q => ∃ (d : D), ds = [d] ∧ ((tyN d).isSome = true ∧ lenOk d) ∧ Q (.bl (isAlphaD d))
theorem ar_is_alphabet : ∀ ds Q, tf_is_alphabet ds Q → ds.length = 1 := by
  rintro ds Q ⟨_, rfl, _⟩
  rfl
def tf__law_like : TDF := fun ds Q => ∃ (n : Nat) (d : D), ds = [d, d] ∧ n = 64 ∧ okD d = true ∧ Q (.bl true)
mutual
def smD : D → Bool
  | .lst xs => decide (xs.length ≤ 16777216) && smL xs
  | .tup xs => decide (xs.length ≤ 16777216) && smL xs
  | _ => true
def smL : List D → Bool
  | [] => true
  | x :: xs => smD x && smL xs
end
theorem smL_mem : ∀ {ds : List D} {d : D}, smL ds = true → d ∈ ds → smD d = true
  | x :: xs, d, s, h => by
    simp only [smL, Bool.and_eq_true] at s
    rcases List.mem_cons.mp h with rfl | h
    · exact s.1
    · exact smL_mem s.2 h
def tL (n : Nat) : TDF := fun ds Q => ∃ d, ds = [d, d] ∧ (plainD d = true ∧ smD d = true ∧ dep d < n) ∧ Q (.bl true)
theorem ar_tL (n : Nat) : ∀ ds Q, tL n ds Q → ds.length = 2 := by
  rintro ds Q ⟨_, rfl, _⟩
  rfl
theorem zipD_self : ∀ xs : List D, zipD xs xs = xs.map fun d => .tup [d, d]
  | [] => rfl
  | x :: xs => by simp [zipD, zipD_self xs]
theorem bools_ones : ∀ (n : Nat), bools (List.replicate n (.bl true)) = some (List.replicate n true)
  | 0 => rfl
  | n + 1 => by simp [List.replicate_succ, bools, bools_ones n]
theorem depL_mem : ∀ {ds : List D} {d : D}, d ∈ ds → dep d ≤ depL ds
  | x :: xs, d, h => by
    rcases List.mem_cons.mp h with rfl | h
    · simp only [depL]; omega
    · have := depL_mem h
      simp only [depL]; omega
theorem plainL_mem {ds : List D} (h : plainL ds = true) {d : D} (m : d ∈ ds) : plainD d = true := plainL_iff.mp h d m
def tf__law_alphabet : TDF := fun ds Q => ∃ (m : Int), ds = [.bag, .int m] ∧ (1 ≤ m ∧ m ≤ 3) ∧ ∀ s : List Nat, isAlphaD (.str s) = true → s.length ≤ m → Q (.str s)
theorem ar__law_alphabet : ∀ ds Q, tf__law_alphabet ds Q → ds.length = 2 := by
  rintro ds Q ⟨_, rfl, _⟩
  rfl
def tf_is_transition : TDF := fun ds Q => ∃ (r : Row) (al : List Nat) (n : Nat), ds = [rowD r, .str al, .int n] ∧ (1 ≤ n ∧ r.s < n ∧ r.t < n ∧ r.l ∈ al ∧ al.length ≤ 3 ∧ LowS al) ∧ Q (.bl true)
theorem ar_is_transition : ∀ ds Q, tf_is_transition ds Q → ds.length = 3 := by
  rintro ds Q ⟨_, _, _, rfl, _⟩
  rfl
def tf_Automaton___init__ (a : Adr) : TDF := fun ds Q => ∃ (al : List Nat) (n : Nat) (rs : List Row) (i : Nat), ds = [.str al, .int n, .lst (rs.map rowD), .int i] ∧ GoodA al n i rs ∧ Q (autD a.C_Automaton al n i rs)
theorem ar_Automaton___init__ {a : Adr} : ∀ ds Q, tf_Automaton___init__ a ds Q → ds.length = 4 := by
  rintro ds Q ⟨_, _, _, _, rfl, _⟩
  rfl
def tf_Automaton_check_state (a : Adr) : TDF := fun ds Q => ∃ (al : List Nat) (n : Nat) (i : Nat) (rs : List Row) (s : Nat), ds = [autD a.C_Automaton al n i rs, .int s] ∧ (s < n) ∧ Q .non
theorem ar_Automaton_check_state {a : Adr} : ∀ ds Q, tf_Automaton_check_state a ds Q → ds.length = 2 := by
  rintro ds Q ⟨_, _, _, _, _, rfl, _⟩
  rfl
def tf_Automaton_check_letter (a : Adr) : TDF := fun ds Q => ∃ (al : List Nat) (n : Nat) (i : Nat) (rs : List Row) (l : Nat), ds = [autD a.C_Automaton al n i rs, .str [l]] ∧ (l ∈ al ∧ al.length ≤ 3) ∧ Q .non
theorem ar_Automaton_check_letter {a : Adr} : ∀ ds Q, tf_Automaton_check_letter a ds Q → ds.length = 2 := by
  rintro ds Q ⟨_, _, _, _, _, rfl, _⟩
  rfl
def tf_Automaton_moves (a : Adr) : TDF := fun ds Q => ∃ (al : List Nat) (n : Nat) (i : Nat) (rs : List Row) (s : Nat) (l : Nat), ds = [autD a.C_Automaton al n i rs, .int s, .str [l]] ∧ (GoodA al n i rs ∧ s < n ∧ l ∈ al) ∧ Q (movA rs (s, l))
theorem ar_Automaton_moves {a : Adr} : ∀ ds Q, tf_Automaton_moves a ds Q → ds.length = 3 := by
  rintro ds Q ⟨_, _, _, _, _, _, rfl, _⟩
  rfl
def sortR (rs : List Row) : List Row := rs.mergeSort fun a b => dle (rowD a) (rowD b)
theorem sortR_map (rs : List Row) : sortD (rs.map rowD) = (sortR rs).map rowD := (PySem.W.sort_maps (r := fun a b : Row => dle (rowD a) (rowD b)) (s := dle) rowD fun _ _ _ _ => rfl).symm
theorem sortR_perm (rs : List Row) : (sortR rs).Perm rs := List.mergeSort_perm ..
def iD (k : Nat) : D := .int k
theorem iD_eq (a b : Nat) : kEq (iD a) (iD b) = decide (a = b) := by
  simp only [iD, kEq]
  by_cases h : a = b <;> simp [h]
  omega
theorem dle_int (a b : Nat) : dle (iD a) (iD b) = decide (a ≤ b) := by
  show (!PyProof.Rows.lexLt _ _ _) = _
  simp only [iD, toPy, PySem.W.keyToks, PyProof.Rows.lexLt, PyProof.Rows.itemLt]
  by_cases h : a ≤ b
  · simp [h]; try omega
  · simp [h]; try omega
theorem tk_int {a b : Nat} (h : tk (iD a) = tk (iD b)) : iD a = iD b := by
  simp [tk, iD, toPy, PySem.W.keyToks] at h ⊢
  exact h
theorem sort_ints {A B : List Nat} (p : A.Perm B) (hB : B.Pairwise (· ≤ ·)) : sortD (A.map iD) = B.map iD := by
  rw [sortD_eq (p.map iD) fun x hx y hy e => by
    obtain ⟨r, _, rfl⟩ := List.mem_map.mp hx
    obtain ⟨q, _, rfl⟩ := List.mem_map.mp hy
    exact tk_int e]
  unfold sortD
  apply List.mergeSort_of_pairwise
  rw [List.pairwise_map]
  exact hB.imp fun {a b} h => by rw [dle_int]; exact decide_eq_true h
/-- states to which some word leads -/
inductive Rch (rs : List Row) (s : Nat) : Nat → Prop
  | refl : Rch rs s s
  | step {x : Nat} {r : Row} : Rch rs s x → r ∈ rs → r.s = x → Rch rs s r.t
theorem Rch.mono {rs ts : List Row} {s t : Nat} (h : ∀ r ∈ rs, r ∈ ts) (w : Rch rs s t) : Rch ts s t := by
  induction w with
  | refl => exact .refl
  | step _ hr e ih => exact .step ih (h _ hr) e
theorem Rch.lt {al : List Nat} {n i s t : Nat} {rs : List Row} (hg : GoodA al n i rs) (hs : s < n) (h : Rch rs s t) : t < n := by
  cases h with
  | refl => exact hs
  | step _ hr _ => exact hg.tgt _ hr
theorem perm_of_same {A B : List Nat} (ha : A.Nodup) (hb : B.Nodup) (h : ∀ x, x ∈ A ↔ x ∈ B) : A.Perm B := (List.perm_ext_iff_of_nodup ha hb).mpr h
theorem nd_len {A : List Nat} {n : Nat} (nd : A.Nodup) (h : ∀ x ∈ A, x < n) : A.length ≤ n := by
  have p : A.Perm ((List.range n).filter fun x => decide (x ∈ A)) := perm_of_same nd (List.nodup_range.filter _) fun x => by
    rw [List.mem_filter, List.mem_range, decide_eq_true_iff]
    exact ⟨fun q => ⟨h x q, q⟩, fun q => q.2⟩
  rw [p.length_eq]
  exact Nat.le_trans (List.length_filter_le _ _) (by simp)
theorem GoodA.at {al : List Nat} {n i s : Nat} {rs : List Row} (hg : GoodA al n i rs) (hs : s < n) : GoodA al n s rs := ⟨hg.alp, hg.lo, hg.hi, hg.len, hg.src, hg.let', hg.tgt, hg.nd, hg.full, hs⟩
theorem ints_ok {L : List Nat} : okD (.lst (L.map iD)) = true := okD_lst fun d hd => by
  obtain ⟨x, _, rfl⟩ := List.mem_map.mp hd
  exact ⟨rfl, by show 0 ≤ 63; decide⟩
theorem any_int {L : List Nat} {x : Nat} : ((L.map iD).any fun z => deqv z (.int x)) = decide (x ∈ L) := by
  rw [Bool.eq_iff_iff, List.any_eq_true, decide_eq_true_iff]
  constructor
  · rintro ⟨z, hz, e⟩
    obtain ⟨y, hy, rfl⟩ := List.mem_map.mp hz
    replace e : deqv (.int y) (.int x) = true := e
    rw [deqv_int, decide_eq_true_iff] at e
    rwa [show y = x by omega] at hy
  · exact fun h => ⟨iD x, List.mem_map_of_mem h, deqv_refl _⟩
/-- the goals of some states by a letter: what is found behind the first m states -/
theorem ints_can {A : List Nat} (hl : A.length ≤ 65) : CanSort (A.map iD) where
  plain := fun d hd => by obtain ⟨x, _, rfl⟩ := List.mem_map.mp hd; rfl
  dep := fun d hd => by obtain ⟨x, _, rfl⟩ := List.mem_map.mp hd; show 0 ≤ 64; decide
  alike := fun d hd e he => by
    rw [List.map_map] at hd he
    obtain ⟨x, _, rfl⟩ := List.mem_map.mp hd
    obtain ⟨y, _, rfl⟩ := List.mem_map.mp he
    rfl
  kind := .inr fun d hd => by
    rw [List.map_map] at hd
    obtain ⟨x, _, rfl⟩ := List.mem_map.mp hd
    exact ⟨fun h => (by cases h), fun xs h => (by cases h)⟩
  len := by rw [List.length_map]; show _ ≤ 16777216; omega
def StepW (rs : List Row) (w : Bool) (s c t : Nat) : Prop := ∃ r ∈ rs, r.s = s ∧ r.l = c ∧ r.t = t ∧ (w = true → r.w = true)
def tf_Automaton_targets (a : Adr) : TDF := fun ds Q => ∃ (al : List Nat) (n : Nat) (i : Nat) (rs : List Row) (s : Nat) (c : Nat) (w : Bool), ds = [autD a.C_Automaton al n i rs, .int s, .str [c], (if w then .str (wC true) else .non)] ∧ (GoodA al n i rs ∧ s < n ∧ c ∈ al) ∧ ∀ L : List Nat, L.length ≤ (atA rs (s, c)).length → (∀ t, t ∈ L ↔ StepW rs w s c t) → Q (.lst (L.map iD))
theorem ar_Automaton_targets {a : Adr} : ∀ ds Q, tf_Automaton_targets a ds Q → ds.length = 4 := by
  rintro ds Q ⟨_, _, _, _, _, _, _, rfl, _⟩
  rfl
def tf_Automaton_transitions (a : Adr) : TDF := fun ds Q => ∃ (al : List Nat) (n : Nat) (i : Nat) (rs : List Row), ds = [autD a.C_Automaton al n i rs] ∧ GoodA al n i rs ∧ Q (.lst (sortD (rs.map rowD)))
theorem ar_Automaton_transitions {a : Adr} : ∀ ds Q, tf_Automaton_transitions a ds Q → ds.length = 1 := by
  rintro ds Q ⟨_, _, _, _, rfl, _⟩
  rfl
def okAut (C : Addr) (e : D) : Prop := (∃ al n i rs, e = autD C al n i rs ∧ GoodA al n i rs) ∨ (tyN e).isSome = true
open Classical in
noncomputable def eqAut (al : List Nat) (n i : Nat) (rs : List Row) (e : D) : Bool := decide (∃ C rs', e = autD C al n i rs' ∧ GoodA al n i rs' ∧ rs.Perm rs')
theorem autD_inj {C C' : Addr} {al al' : List Nat} {n n' i i' : Nat} {rs rs' : List Row} (h : autD C al n i rs = autD C' al' n' i' rs') : al = al' ∧ n = n' ∧ i = i' ∧ (keysA al n).map (movA rs) = (keysA al' n').map (movA rs') := by
  unfold autD at h
  simp only [D.ins.injEq, List.cons.injEq, D.str.injEq, D.int.injEq, D.dic.injEq, and_true, true_and] at h
  exact ⟨h.2.1, by omega, by omega, h.2.2.2.2.2⟩
open Classical in
theorem eqAut_aut {C : Addr} {al al2 : List Nat} {n n2 i i2 : Nat} {rs rs2 : List Row} (g : GoodA al n i rs) (g2 : GoodA al2 n2 i2 rs2) : eqAut al n i rs (autD C al2 n2 i2 rs2) = (decide (al = al2) && decide (n = n2) && decide (i = i2) && decide (rs.Perm rs2)) := by
  unfold eqAut
  rw [Bool.eq_iff_iff, decide_eq_true_iff]
  simp only [Bool.and_eq_true, decide_eq_true_eq]
  constructor
  · rintro ⟨C', rs', e, g', p⟩
    obtain ⟨rfl, rfl, rfl, e2⟩ := autD_inj e
    refine ⟨⟨⟨rfl, rfl⟩, rfl⟩, p.trans ?_⟩
    rw [perm_at g'.key g2.key]
    intro k hk
    have := List.map_inj_left.mp e2 k hk
    exact (movA_eq.mp (by rw [this]; exact deqv_refl _)).symm
  · rintro ⟨⟨⟨rfl, rfl⟩, rfl⟩, p⟩
    exact ⟨C, rs2, rfl, g2, p⟩
theorem moves_ok {al : List Nat} {n i : Nat} {rs : List Row} (g : GoodA al n i rs) : ((keysA al n).map (movA rs)).all okD = true := by
  rw [List.all_eq_true]
  intro d hd
  obtain ⟨k, _, rfl⟩ := List.mem_map.mp hd
  unfold movA
  refine okD_lst fun d hd => ?_
  obtain ⟨r, _, rfl⟩ := List.mem_map.mp (sortD_mem.mp hd)
  exact ⟨pair_plain r, by rw [pair_dep]; decide⟩
def tf_Automaton___eq__ (a : Adr) : TDF := fun ds Q => ∃ (al : List Nat) (n : Nat) (i : Nat) (rs : List Row) (e : D), ds = [autD a.C_Automaton al n i rs, e] ∧ (GoodA al n i rs ∧ okAut a.C_Automaton e) ∧ Q (.bl (eqAut al n i rs e))
theorem iteT {c : Bool} {A B : Prop} (h : c = true) (x : A) : if c = true then A else B := by rw [if_pos h]; exact x
theorem iteF {c : Bool} {A B : Prop} (h : c = false) (x : B) : if c = true then A else B := by rw [if_neg (by rw [h]; decide)]; exact x
abbrev Nd := Nat × Nat
def pD (q : Nd) : D := .tup [.int q.1, .int q.2]
def bD (b : Bool) : D := .bl b
def eD (E : List (List Nat)) : D := .lst (E.map fun L => .lst (L.map iD))
theorem repL_one {α : Type} (m : Nat) (x : α) : repL (m : Int) [x] = List.replicate m x := by
  unfold repL
  rw [Int.toNat_natCast]
  induction m with
  | zero => rfl
  | succ m ih => rw [List.replicate_succ, List.flatten_cons, ih]; rfl
theorem rep_bD (m : Nat) (b : Bool) : List.replicate m (D.bl b) = (List.replicate m b).map bD := by rw [List.map_replicate]; rfl
theorem set_map {α : Type} (f : α → D) (l : List α) (n : Nat) (x : α) : (l.map f).set n (f x) = (l.set n x).map f := by rw [List.map_set]
theorem while_cutB {c : TDT} {tb : TDS} {De : EndsD} {S : SS} (I : Nat → SS → Prop) (m : Nat) (h0 : I m S) (hs : ∀ B : TDS, B = tb → ∀ N : SS → Prop, N = De.nx → ∀ (m : Nat) (S : SS) (De' : EndsD), I m S → (∀ m' S', m' < m → I m' S' → De'.nx S') → (∀ m' S', m' < m → I m' S' → De'.ct S') → (∀ S', De.nx S' → De'.bk S') → De'.rt = De.rt → De'.rf = De.rf → c S fun k => if k = true then B De' S else N S) : dsWhile c tb De S :=
  while_cut I m h0 (hs tb rfl De.nx rfl)
theorem if_cut {c : TDT} {t u : TDS} {De : EndsD} {S : SS} (h : ∀ B : TDS, B = t → c S fun k => if k = true then B De S else u De S) : dsIf c t u De S := h t rfl
theorem rep_iD (m : Nat) : List.replicate m (D.int (-1)) = (List.replicate m (-1 : Int)).map D.int := by rw [List.map_replicate]
theorem forP_cut {te : TDEP} {tg : TDG} {tb : TDS} {De : EndsD} {S : SS} (h : ∀ G : SS → List D → Prop, (∀ S' ds, wpFor (fun d De' S' => tg d S' fun S2 => tb De' S2) ds De S' → G S' ds) → te S fun S' d => ∃ ds, itemsD d = some ds ∧ G S' ds) : dsForP te tg tb De S := h _ fun _ _ h => h
def nxE (E : List (List Nat)) (u : Nat) : List Nat := E.getD u []
inductive ER (E : List (List Nat)) : Nat → Nat → Prop
  | refl {u : Nat} : ER E u u
  | step {u v w : Nat} : ER E u v → w ∈ nxE E v → ER E u w
theorem ER.trans {E : List (List Nat)} {u v w : Nat} (h : ER E u v) (k : ER E v w) : ER E u w := by
  induction k with
  | refl => exact h
  | step _ e ih => exact .step ih e
theorem ER.one {E : List (List Nat)} {u v : Nat} (h : v ∈ nxE E u) : ER E u v := .step .refl h
structure EOk (E : List (List Nat)) (m B : Nat) : Prop where
  len : E.length = m
  lt : ∀ u, ∀ v ∈ nxE E u, v < m
  few : ∀ u, (nxE E u).length < B
/-- the order in which nodes are left -/
def FinOk (E : List (List Nat)) (fd : List Nat) : Prop := ∀ A u B, fd = A ++ u :: B → ∀ x ∈ A ++ [u], ∀ y ∈ nxE E x, y ∈ A ++ [u] ∨ ER E y u
structure DfsI (E : List (List Nat)) (m : Nat) (sn : List Bool) (fd : List Nat) (st : List (Nat × Nat)) : Prop where
  len : sn.length = m
  ent : ∀ q ∈ st, q.1 < m ∧ q.2 ≤ (nxE E q.1).length
  fdm : ∀ u ∈ fd, u < m
  seen : ∀ u, sn[u]? = some true ↔ u ∈ fd ∨ u ∈ st.map Prod.fst
  nd : (fd ++ st.map Prod.fst).Nodup
  fin : FinOk E fd
  fsucc : ∀ x ∈ fd, ∀ y ∈ nxE E x, sn[y]? = some true
  psucc : ∀ q ∈ st, ∀ j, j < q.2 → ∀ y, (nxE E q.1)[j]? = some y → sn[y]? = some true
  ch : (st.map Prod.fst).Pairwise (ER E)
theorem dfs_start {E : List (List Nat)} {m : Nat} : DfsI E m (List.replicate m false) [] [] :=
  ⟨by simp, by simp, by simp, fun u => by
    rw [List.getElem?_replicate]
    split <;> simp, by simp, fun A u B e => by simp at e, by simp, by simp, by simp⟩
theorem DfsI.push {E : List (List Nat)} {m : Nat} {sn : List Bool} {fd : List Nat} {st : List (Nat × Nat)} (h : DfsI E m sn fd st) {r : Nat} (hr : r < m) (hs : sn[r]? ≠ some true) (hc : ∀ u ∈ st.map Prod.fst, ER E u r) : DfsI E m (sn.set r true) fd (st ++ [(r, 0)]) := by
  have keep : ∀ u, sn[u]? = some true → (sn.set r true)[u]? = some true := fun u hu => by
    rw [List.getElem?_set]
    by_cases e : r = u
    · rw [if_pos e, if_pos (by rw [h.len]; omega)]
    · rw [if_neg e]; exact hu
  have nin : r ∉ fd ∧ r ∉ st.map Prod.fst := ⟨fun q => hs ((h.seen r).mpr (.inl q)), fun q => hs ((h.seen r).mpr (.inr q))⟩
  refine ⟨by rw [List.length_set]; exact h.len, fun q hq => ?_, h.fdm, fun u => ?_, ?_, h.fin, fun x hx y hy => keep _ (h.fsucc x hx y hy), fun q hq j hj y hy => ?_, ?_⟩
  · rcases List.mem_append.mp hq with hq | hq
    · exact h.ent q hq
    · rw [List.mem_singleton.mp hq]; exact ⟨hr, Nat.zero_le _⟩
  · rw [List.map_append, List.getElem?_set]
    by_cases e : r = u
    · subst e
      rw [if_pos rfl, if_pos (by rw [h.len]; omega)]
      simp
    · rw [if_neg e, h.seen u]
      constructor
      · rintro (q | q)
        · exact .inl q
        · exact .inr (List.mem_append_left _ q)
      · rintro (q | q)
        · exact .inl q
        · rcases List.mem_append.mp q with q | q
          · exact .inr q
          · rw [List.map_singleton, List.mem_singleton] at q
            exact absurd q.symm e
  · rw [List.map_append, ← List.append_assoc, List.nodup_append]
    refine ⟨h.nd, by simp, fun x hx y hy e => ?_⟩
    rw [List.map_singleton, List.mem_singleton] at hy
    subst hy; subst e
    rcases List.mem_append.mp hx with hx | hx
    · exact nin.1 hx
    · exact nin.2 hx
  · rcases List.mem_append.mp hq with hq | hq
    · exact keep _ (h.psucc q hq j hj y hy)
    · rw [List.mem_singleton.mp hq] at hj
      exact absurd hj (Nat.not_lt_zero _)
  · rw [List.map_append, List.pairwise_append]
    refine ⟨h.ch, by simp, fun x hx y hy => ?_⟩
    rw [List.map_singleton, List.mem_singleton] at hy
    rw [hy]; exact hc x hx
theorem DfsI.leave {E : List (List Nat)} {m : Nat} {sn : List Bool} {fd : List Nat} {st : List (Nat × Nat)} {u : Nat} (h : DfsI E m sn fd (st ++ [(u, (nxE E u).length)])) : DfsI E m sn (fd ++ [u]) st := by
  have hu : (u, (nxE E u).length) ∈ st ++ [(u, (nxE E u).length)] := by simp
  have hch := h.ch
  have hnd := h.nd
  have hsn := h.seen
  simp only [List.map_append, List.map_cons, List.map_nil] at hch hnd hsn
  rw [List.pairwise_append] at hch
  have hseen : ∀ v, sn[v]? = some true ↔ v ∈ fd ++ [u] ∨ v ∈ st.map Prod.fst := fun v => by
    rw [hsn v, List.mem_append, List.mem_append, or_assoc, or_comm (a := v ∈ [u])]
  have hsucc : ∀ x ∈ fd ++ [u], ∀ y ∈ nxE E x, sn[y]? = some true := fun x hx y hy => by
    rcases List.mem_append.mp hx with hx | hx
    · exact h.fsucc x hx y hy
    · rw [List.mem_singleton.mp hx] at hy
      obtain ⟨j, hj⟩ := List.getElem?_of_mem hy
      exact h.psucc _ hu j (List.getElem?_eq_some_iff.mp hj).1 y hj
  refine ⟨h.len, fun q hq => h.ent q (List.mem_append_left _ hq), fun v hv => ?_, hseen, ?_, ?_, hsucc, fun q hq => h.psucc q (List.mem_append_left _ hq), hch.1⟩
  · rcases List.mem_append.mp hv with hv | hv
    · exact h.fdm v hv
    · rw [List.mem_singleton.mp hv]; exact (h.ent _ hu).1
  · refine (List.Perm.nodup_iff ?_).mp hnd
    rw [List.append_assoc]
    exact List.Perm.append_left _ List.perm_append_comm
  · intro A v B e x hx y hy
    rcases List.eq_nil_or_concat B with rfl | ⟨B', w, rfl⟩
    · have e2 : fd = A ∧ u = v := by
        have := List.append_inj' e (by simp)
        exact ⟨this.1, by simpa using this.2⟩
      obtain ⟨rfl, rfl⟩ := e2
      rcases (hseen y).mp (hsucc x hx y hy) with q | q
      · exact .inl q
      · exact .inr (hch.2.2 y q u (by simp))
    · have e2 : fd ++ [u] = (A ++ v :: B') ++ [w] := by rw [e, List.concat_eq_append, List.append_assoc]; rfl
      have := List.append_inj' e2 (by simp)
      exact h.fin A v B' this.1 x hx y hy
theorem DfsI.next {E : List (List Nat)} {m : Nat} {sn : List Bool} {fd : List Nat} {st : List (Nat × Nat)} {u k y : Nat} (h : DfsI E m sn fd (st ++ [(u, k)])) (hy : (nxE E u)[k]? = some y) (hs : sn[y]? = some true) : DfsI E m sn fd (st ++ [(u, k + 1)]) := by
  have hu : (u, k) ∈ st ++ [(u, k)] := by simp
  have e : (st ++ [(u, k + 1)]).map Prod.fst = (st ++ [(u, k)]).map Prod.fst := by simp
  refine ⟨h.len, fun q hq => ?_, h.fdm, by rw [e]; exact h.seen, by rw [e]; exact h.nd, h.fin, h.fsucc, fun q hq j hj z hz => ?_, by rw [e]; exact h.ch⟩
  · rcases List.mem_append.mp hq with hq | hq
    · exact h.ent q (List.mem_append_left _ hq)
    · rw [List.mem_singleton.mp hq]
      exact ⟨(h.ent _ hu).1, (List.getElem?_eq_some_iff.mp hy).1⟩
  · rcases List.mem_append.mp hq with hq | hq
    · exact h.psucc q (List.mem_append_left _ hq) j hj z hz
    · rw [List.mem_singleton.mp hq] at hj hz
      by_cases c : j < k
      · exact h.psucc _ hu j c z hz
      · obtain rfl : j = k := by
          have : j < k + 1 := hj
          omega
        have hz' : (nxE E u)[j]? = some z := hz
        rw [hy] at hz'
        cases hz'
        exact hs
/-- a node not seen yet is taken -/
theorem DfsI.take {E : List (List Nat)} {m : Nat} {sn : List Bool} {fd : List Nat} {st : List (Nat × Nat)} {u k y : Nat} (h : DfsI E m sn fd (st ++ [(u, k)])) (hy : (nxE E u)[k]? = some y) (hm : y < m) (hs : sn[y]? ≠ some true) : DfsI E m (sn.set y true) fd (st ++ [(u, k + 1)] ++ [(y, 0)]) := by
  have hch := h.ch
  simp only [List.map_append, List.map_cons, List.map_nil] at hch
  rw [List.pairwise_append] at hch
  have h2 := h.push hm hs fun v hv => by
    rw [List.map_append, List.map_singleton] at hv
    rcases List.mem_append.mp hv with hv | hv
    · exact (hch.2.2 v hv u (by simp)).trans (.one (List.mem_of_getElem? hy))
    · rw [List.mem_singleton.mp hv]; exact .one (List.mem_of_getElem? hy)
  have e : (st ++ [(u, k + 1)] ++ [(y, 0)]).map Prod.fst = (st ++ [(u, k)] ++ [(y, 0)]).map Prod.fst := by simp
  have hu : (u, k) ∈ st ++ [(u, k)] := by simp
  refine ⟨h2.len, fun q hq => ?_, h2.fdm, by rw [e]; exact h2.seen, by rw [e]; exact h2.nd, h2.fin, h2.fsucc, fun q hq j hj z hz => ?_, by rw [e]; exact h2.ch⟩
  · simp only [List.mem_append, List.mem_singleton] at hq
    rcases hq with (hq | rfl) | rfl
    · exact h2.ent q (by simp [hq])
    · exact ⟨(h.ent _ hu).1, (List.getElem?_eq_some_iff.mp hy).1⟩
    · exact ⟨hm, Nat.zero_le _⟩
  · simp only [List.mem_append, List.mem_singleton] at hq
    rcases hq with (hq | rfl) | rfl
    · exact h2.psucc q (by simp [hq]) j hj z hz
    · by_cases c : j < k
      · exact h2.psucc (u, k) (by simp) j c z hz
      · obtain rfl : j = k := by
          have : j < k + 1 := hj
          omega
        have hz' : (nxE E u)[j]? = some z := hz
        rw [hy] at hz'
        cases hz'
        rw [List.getElem?_set, if_pos rfl, if_pos (by rw [h.len]; exact hm)]
    · exact absurd hj (Nat.not_lt_zero _)
def dfsM (E : List (List Nat)) (B : Nat) (sn : List Bool) (st : List (Nat × Nat)) : Nat := (sn.count false) * B + (st.map fun q => (nxE E q.1).length + 1 - q.2).sum
theorem count_set {sn : List Bool} {r : Nat} (h : sn[r]? = some false) : (sn.set r true).count false + 1 = sn.count false := by
  induction sn generalizing r with
  | nil => cases h
  | cons b sn ih =>
    cases r with
    | zero =>
      have : b = false := by simpa using h
      subst this
      simp
    | succ r =>
      have := ih (r := r) (by simpa using h)
      rw [List.set_cons_succ, List.count_cons, List.count_cons]
      omega
theorem dfsM_leave {E : List (List Nat)} {B : Nat} {sn : List Bool} {st : List (Nat × Nat)} {u : Nat} : dfsM E B sn st < dfsM E B sn (st ++ [(u, (nxE E u).length)]) := by
  unfold dfsM
  rw [List.map_append, List.sum_append, List.map_singleton, List.sum_singleton]
  show _ < _ + (_ + ((nxE E u).length + 1 - (nxE E u).length))
  omega
theorem dfsM_next {E : List (List Nat)} {B : Nat} {sn : List Bool} {st : List (Nat × Nat)} {u k : Nat} (h : k < (nxE E u).length) : dfsM E B sn (st ++ [(u, k + 1)]) < dfsM E B sn (st ++ [(u, k)]) := by
  unfold dfsM
  rw [List.map_append, List.sum_append, List.map_singleton, List.sum_singleton, List.map_append, List.sum_append, List.map_singleton, List.sum_singleton]
  show _ + (_ + ((nxE E u).length + 1 - (k + 1))) < _ + (_ + ((nxE E u).length + 1 - k))
  omega
theorem dfsM_take {E : List (List Nat)} {m B : Nat} (hE : EOk E m B) {sn : List Bool} {st : List (Nat × Nat)} {u k y : Nat} (h : k < (nxE E u).length) (hs : sn[y]? = some false) : dfsM E B (sn.set y true) (st ++ [(u, k + 1)] ++ [(y, 0)]) < dfsM E B sn (st ++ [(u, k)]) := by
  have h1 := count_set hs
  have h2 := hE.few y
  unfold dfsM
  simp only [List.map_append, List.sum_append, List.map_cons, List.map_nil, List.sum_cons, List.sum_nil]
  have h3 : (sn.set y true).count false * B + B = sn.count false * B := by rw [← h1, Nat.succ_mul]
  omega
def EMut (E : List (List Nat)) (u v : Nat) : Prop := ER E u v ∧ ER E v u
def PathE (E : List (List Nat)) : List Nat → Prop
  | x :: y :: L => y ∈ nxE E x ∧ PathE E (y :: L)
  | _ => True
theorem path_split {E : List (List Nat)} {S : Nat → Prop} [DecidablePred S] : ∀ {L : List Nat} {x : Nat}, PathE E (x :: L) → S x → (∃ r, (x :: L).getLast? = some r ∧ ¬ S r) → ∃ L1 a y L2, x :: L = L1 ++ a :: y :: L2 ∧ S a ∧ ¬ S y ∧ y ∈ nxE E a
  | [], x, _, hx, ⟨r, h1, h2⟩ => by
    simp at h1; subst h1
    exact absurd hx h2
  | y :: L, x, hp, hx, ⟨r, h1, h2⟩ => by
    by_cases c : S y
    · obtain ⟨L1, a, z, L2, e, q⟩ := path_split (L := L) (x := y) hp.2 c ⟨r, by simpa using h1, h2⟩
      exact ⟨x :: L1, a, z, L2, by rw [e]; rfl, q⟩
    · exact ⟨[], x, y, L, rfl, hx, c, hp.1⟩
theorem path_tail {E : List (List Nat)} : ∀ {L1 L2 : List Nat}, PathE E (L1 ++ L2) → PathE E L2
  | [], _, h => h
  | [x], [], _ => trivial
  | [x], y :: L, h => h.2
  | x :: y :: L1, L2, h => path_tail (L1 := y :: L1) h.2
theorem kos {E : List (List Nat)} {A B : List Nat} {r : Nat} (hf : FinOk E (A ++ r :: B)) (nd : (A ++ r :: B).Nodup) : ∀ (n : Nat) (x : Nat) (L : List Nat), L.length ≤ n → PathE E (x :: L) → (x :: L).getLast? = some r → (∀ z ∈ x :: L, z ∈ A ++ [r]) → ER E r x
  | 0, x, L, hl, hp, hr, hin => by
    obtain rfl : L = [] := List.length_eq_zero_iff.mp (by omega)
    simp at hr; subst hr
    exact .refl
  | n + 1, x, L, hl, hp, hr, hin => by
    by_cases hx : x = r
    · subst hx; exact .refl
    have hxA : x ∈ A := by
      have := hin x (by simp)
      simp only [List.mem_append, List.mem_singleton] at this
      exact this.resolve_right hx
    obtain ⟨A1, A2, rfl⟩ := List.append_of_mem hxA
    have nr : r ∉ A1 ++ [x] := by
      intro h
      have nd2 : ((A1 ++ [x]) ++ (A2 ++ r :: B)).Nodup := by simpa using nd
      exact (List.nodup_append.mp nd2).2.2 r h r (by simp) rfl
    obtain ⟨L1, a, y, L2, e, h1, h2, h3⟩ := path_split (S := fun z => z ∈ A1 ++ [x]) hp (by simp) ⟨r, hr, nr⟩
    have hy : ER E y x := (hf A1 x (A2 ++ r :: B) (by simp) a h1 y h3).resolve_left h2
    have e2 : x :: L = (L1 ++ [a]) ++ (y :: L2) := by rw [e]; simp
    have hp2 : PathE E (y :: L2) := path_tail (L1 := L1 ++ [a]) (by rw [← e2]; exact hp)
    have hlen : L2.length ≤ n := by
      have := congrArg List.length e2
      simp only [List.length_cons, List.length_append, List.length_nil] at this
      omega
    refine (kos hf nd n y L2 hlen hp2 ?_ fun z hz => hin z (by rw [e2]; exact List.mem_append_right _ hz)).trans hy
    rw [e2, List.getLast?_append] at hr
    cases q : (y :: L2).getLast? with
    | none => simp at q
    | some w => rw [q] at hr; simpa using hr
structure ScI (E : List (List Nat)) (m : Nat) (P : List Int) (k : Nat) : Prop where
  len : P.length = m
  val : ∀ (u : Nat) (v : Int), P[u]? = some v → -1 ≤ v ∧ v < k
  mt : ∀ u v, 0 ≤ P.getD u (-1) → v < m → (P.getD u (-1) = P.getD v (-1) ↔ EMut E u v)
theorem sc_start {E : List (List Nat)} {m : Nat} : ScI E m (List.replicate m (-1)) 0 := by
  refine ⟨by simp, fun u v h => ?_, fun u v h => ?_⟩
  · rw [List.getElem?_replicate] at h
    split at h
    · cases h; simp
    · cases h
  · rw [List.getD_eq_getElem?_getD, List.getElem?_replicate] at h
    split at h <;> simp at h
structure ScJ (E : List (List Nat)) (m : Nat) (P : List Int) (k r : Nat) (P' : List Int) (T : List Nat) : Prop where
  len : P'.length = m
  old : ∀ u, P'.getD u (-1) = P.getD u (-1) ∨ (P.getD u (-1) < 0 ∧ P'.getD u (-1) = k ∧ u < m)
  path : ∀ u, P'.getD u (-1) = k → ∃ L, PathE E (u :: L) ∧ (u :: L).getLast? = some r ∧ ∀ z ∈ u :: L, P.getD z (-1) < 0 ∧ z < m
  tin : ∀ u ∈ T, P'.getD u (-1) = k
  done : ∀ u, P'.getD u (-1) = k → u ∉ T → ∀ e, e < m → u ∈ nxE E e → 0 ≤ P'.getD e (-1)
  root : P'.getD r (-1) = k
theorem getD_set {P : List Int} {r u : Nat} {v : Int} (hr : r < P.length) : (P.set r v).getD u (-1) = if r = u then v else P.getD u (-1) := by
  rw [List.getD_eq_getElem?_getD, List.getElem?_set, List.getD_eq_getElem?_getD]
  by_cases e : r = u
  · rw [if_pos e, if_pos hr, if_pos e]; rfl
  · rw [if_neg e, if_neg e]
theorem ScI.lt {E : List (List Nat)} {m : Nat} {P : List Int} {k : Nat} (h : ScI E m P k) (u : Nat) : P.getD u (-1) < k := by
  rw [List.getD_eq_getElem?_getD]
  cases e : P[u]? with
  | none => show (-1 : Int) < k; omega
  | some v => exact (h.val u v e).2
theorem ScI.root {E : List (List Nat)} {m : Nat} {P : List Int} {k r : Nat} (h : ScI E m P k) (hr : r < m) (hu : P.getD r (-1) < 0) : ScJ E m P k r (P.set r k) [r] := by
  have hl : r < P.length := by rw [h.len]; exact hr
  refine ⟨by rw [List.length_set]; exact h.len, fun u => ?_, fun u hk => ?_, fun u hu => ?_, fun u hk hn => ?_, by rw [getD_set hl, if_pos rfl]⟩
  · rw [getD_set hl]
    by_cases e : r = u
    · subst e; rw [if_pos rfl]; exact .inr ⟨hu, rfl, hr⟩
    · rw [if_neg e]; exact .inl rfl
  · rw [getD_set hl] at hk
    by_cases e : r = u
    · subst e
      exact ⟨[], trivial, by simp, fun z hz => by rw [List.mem_singleton.mp hz]; exact ⟨hu, hr⟩⟩
    · rw [if_neg e] at hk
      have := h.lt u
      omega
  · rw [List.mem_singleton.mp hu, getD_set hl, if_pos rfl]
  · rw [getD_set hl] at hk
    by_cases e : r = u
    · subst e; simp at hn
    · rw [if_neg e] at hk
      have := h.lt u
      omega
/-- one predecessor is looked at; the node x was taken from the stack -/
structure ScX (E : List (List Nat)) (m : Nat) (P : List Int) (k r : Nat) (P' : List Int) (T : List Nat) (x : Nat) : Prop where
  len : P'.length = m
  old : ∀ u, P'.getD u (-1) = P.getD u (-1) ∨ (P.getD u (-1) < 0 ∧ P'.getD u (-1) = k ∧ u < m)
  path : ∀ u, P'.getD u (-1) = k → ∃ L, PathE E (u :: L) ∧ (u :: L).getLast? = some r ∧ ∀ z ∈ u :: L, P.getD z (-1) < 0 ∧ z < m
  tin : ∀ u ∈ T, P'.getD u (-1) = k
  done : ∀ u, P'.getD u (-1) = k → u ∉ T → u ≠ x → ∀ e, e < m → u ∈ nxE E e → 0 ≤ P'.getD e (-1)
  root : P'.getD r (-1) = k
  cur : P'.getD x (-1) = k
theorem ScJ.pop {E : List (List Nat)} {m : Nat} {P : List Int} {k r : Nat} {P' : List Int} {T : List Nat} {x : Nat} (h : ScJ E m P k r P' (T ++ [x])) : ScX E m P k r P' T x :=
  ⟨h.len, h.old, h.path, fun u hu => h.tin u (List.mem_append_left _ hu), fun u hk hn hx => h.done u hk fun q => by
    rcases List.mem_append.mp q with q | q
    · exact hn q
    · exact hx (List.mem_singleton.mp q), h.root, h.tin x (by simp)⟩
theorem ScX.add {E : List (List Nat)} {m : Nat} {P : List Int} {k r : Nat} {P' : List Int} {T : List Nat} {x e : Nat} (h0 : ScI E m P k) (h : ScX E m P k r P' T x) (he : e < m) (hx : x ∈ nxE E e) (hn : P'.getD e (-1) < 0) : ScX E m P k r (P'.set e k) (T ++ [e]) x := by
  have hl : e < P'.length := by rw [h.len]; exact he
  have hP : P.getD e (-1) < 0 := by
    rcases h.old e with q | q
    · rw [← q]; exact hn
    · exact q.1
  have mono : ∀ u, 0 ≤ P'.getD u (-1) → (P'.set e k).getD u (-1) = P'.getD u (-1) := fun u hu => by
    rw [getD_set hl, if_neg]
    rintro rfl
    omega
  have kk : ∀ u, P'.getD u (-1) = k → (P'.set e k).getD u (-1) = k := fun u hu => by rw [mono u (by omega)]; exact hu
  refine ⟨by rw [List.length_set]; exact h.len, fun u => ?_, fun u hk => ?_, fun u hu => ?_, fun u hk hu hne z hz hz2 => ?_, kk _ h.root, kk _ h.cur⟩
  · rw [getD_set hl]
    by_cases c : e = u
    · subst c; rw [if_pos rfl]; exact .inr ⟨hP, rfl, he⟩
    · rw [if_neg c]; exact h.old u
  · rw [getD_set hl] at hk
    by_cases c : e = u
    · subst c
      obtain ⟨L, h1, h2, h3⟩ := h.path x h.cur
      refine ⟨x :: L, ⟨hx, h1⟩, by simpa using h2, fun z hz => ?_⟩
      rcases List.mem_cons.mp hz with rfl | hz
      · exact ⟨hP, he⟩
      · exact h3 z hz
    · rw [if_neg c] at hk
      exact h.path u hk
  · rcases List.mem_append.mp hu with hu | hu
    · exact kk u (h.tin u hu)
    · rw [List.mem_singleton.mp hu, getD_set hl, if_pos rfl]
  · rw [List.mem_append, List.mem_singleton, not_or] at hu
    rw [getD_set hl, if_neg (fun q => hu.2 q.symm)] at hk
    have := h.done u hk hu.1 hne z hz hz2
    rw [mono z this]; exact this
theorem ScX.end_ {E : List (List Nat)} {m : Nat} {P : List Int} {k r : Nat} {P' : List Int} {T : List Nat} {x : Nat} (h : ScX E m P k r P' T x) (hd : ∀ e, e < m → x ∈ nxE E e → 0 ≤ P'.getD e (-1)) : ScJ E m P k r P' T :=
  ⟨h.len, h.old, h.path, h.tin, fun u hk hn e he hue => by
    by_cases c : u = x
    · subst c; exact hd e he hue
    · exact h.done u hk hn c e he hue, h.root⟩
theorem ScJ.next {E : List (List Nat)} {m B0 : Nat} (hE : EOk E m B0) {P : List Int} {k r : Nat} {P' : List Int} (h0 : ScI E m P k) (h : ScJ E m P k r P' []) {A B : List Nat} (hf : FinOk E (A ++ r :: B)) (nd : (A ++ r :: B).Nodup) (hr : r < m) (hu : P.getD r (-1) < 0) (hB : ∀ u, P.getD u (-1) < 0 → u < m → u ∈ A ++ [r]) : ScI E m P' (k + 1) := by
  have lt := h0.lt
  -- all that got the number are mutual with the root
  have to : ∀ {u : Nat} {L : List Nat}, PathE E (u :: L) → (u :: L).getLast? = some r → ER E u r := by
    intro u L
    induction L generalizing u with
    | nil => intro _ e; simp at e; subst e; exact .refl
    | cons y L ih =>
      intro hp e
      exact (ER.one hp.1).trans (ih hp.2 (by simpa using e))
  have inM : ∀ u, P'.getD u (-1) = k → EMut E r u ∧ u < m ∧ P.getD u (-1) < 0 := fun u hk => by
    obtain ⟨L, h1, h2, h3⟩ := h.path u hk
    have := h3 u (by simp)
    exact ⟨⟨kos hf nd L.length u L (Nat.le_refl _) h1 h2 fun z hz => hB z (h3 z hz).1 (h3 z hz).2, to h1 h2⟩, this.2, this.1⟩
  have unas : ∀ u, u < m → EMut E r u → P.getD u (-1) < 0 := fun u hum hm => by
    by_cases c : 0 ≤ P.getD u (-1)
    · have := (h0.mt u r c hr).mpr ⟨hm.2, hm.1⟩
      omega
    · omega
  have outM : ∀ {u : Nat}, ER E u r → ER E r u → u < m → P'.getD u (-1) = k := by
    intro u hur
    have : ∀ {x y : Nat}, ER E x y → ER E y r → P'.getD y (-1) = k → ER E r x → x < m → P'.getD x (-1) = k := by
      intro x y hxy
      induction hxy with
      | refl => exact fun _ hk _ _ => hk
      | @step v w hv he ih =>
        intro hwr hk hrx hx
        have hvr : ER E v r := (ER.one he).trans hwr
        have hrv : ER E r v := hrx.trans hv
        have hvm : v < m := by
          cases hv with
          | refl => exact hx
          | step _ e => exact hE.lt _ _ e
        have hvu := unas v hvm ⟨hrv, hvr⟩
        have hvk : P'.getD v (-1) = k := by
          rcases h.old v with q | q
          · have := h.done w hk (by simp) v hvm he
            omega
          · exact q.2.1
        exact ih hvr hvk hrx hx
    exact fun hru hum => this hur .refl h.root hru hum
  refine ⟨h.len, fun u v hv => ?_, fun u v hu0 hv => ?_⟩
  · have e : P'.getD u (-1) = v := by rw [List.getD_eq_getElem?_getD, hv]; rfl
    rcases h.old u with q | q
    · have : P[u]? = some v := by
        have hul := (List.getElem?_eq_some_iff.mp hv).1
        rw [h.len, ← h0.len] at hul
        rw [e, List.getD_eq_getElem?_getD, List.getElem?_eq_getElem hul] at q
        rw [List.getElem?_eq_getElem hul]
        exact congrArg some q.symm
      have := h0.val u v this
      omega
    · rw [q.2.1] at e
      omega
  · by_cases cu : P'.getD u (-1) = k
    · obtain ⟨mu, hum, _⟩ := inM u cu
      rw [cu]
      constructor
      · intro e
        obtain ⟨mv, _⟩ := inM v e.symm
        exact ⟨mu.2.trans mv.1, mv.2.trans mu.1⟩
      · intro hm
        exact (outM (hm.2.trans mu.2) (mu.1.trans hm.1) hv).symm
    · have eu : P'.getD u (-1) = P.getD u (-1) := (h.old u).resolve_right fun q => cu q.2.1
      rw [eu] at hu0 ⊢
      rw [← h0.mt u v hu0 hv]
      rcases h.old v with q | q
      · rw [q]
      · rw [q.2.1]
        have := lt u
        constructor
        · intro e; omega
        · intro e; omega
def scM (P : List Int) (T : List Nat) : Nat := (P.countP fun v => decide (v < 0)) + T.length
theorem scM_set : ∀ {P : List Int} {e : Nat} {k : Nat}, P.getD e (-1) < 0 → e < P.length → (P.set e (k : Int)).countP (fun v => decide (v < 0)) + 1 = P.countP fun v => decide (v < 0)
  | [], e, k, _, h => by simp at h
  | v :: P, 0, k, h, _ => by
    have : v < 0 := by simpa using h
    rw [List.set_cons_zero, List.countP_cons, List.countP_cons, if_neg (by simp), if_pos (by simpa using this)]
  | v :: P, e + 1, k, h, hl => by
    have := scM_set (P := P) (e := e) (k := k) (by simpa using h) (by simpa using hl)
    rw [List.set_cons_succ, List.countP_cons, List.countP_cons]
    omega
theorem iD_map_inj : ∀ {a b : List Nat}, a.map iD = b.map iD → a = b
  | [], [], _ => rfl
  | [], _ :: _, h => by cases h
  | _ :: _, [], h => by cases h
  | x :: a, y :: b, h => by
    simp only [List.map_cons, List.cons.injEq, iD, D.int.injEq] at h
    rw [iD_map_inj h.2, show x = y by omega]
theorem rng_iD (n : Nat) : (List.range ((n : Int)).toNat).map (fun i : Nat => D.int (0 + (i : Int))) = (List.range n).map iD := by
  rw [Int.toNat_natCast]
  congr 1
  funext i
  simp [iD]
theorem nd_le {α : Type} [DecidableEq α] : ∀ {A B : List α}, A.Nodup → (∀ x ∈ A, x ∈ B) → A.length ≤ B.length
  | [], _, _, _ => Nat.zero_le _
  | x :: A, B, nd, h => by
    have hx := h x (by simp)
    have hn := List.nodup_cons.mp nd
    have := nd_le (A := A) (B := B.erase x) hn.2 fun y hy => (List.mem_erase_of_ne (by rintro rfl; exact hn.1 hy)).mpr (h y (by simp [hy]))
    rw [List.length_erase_of_mem hx] at this
    have := List.length_pos_of_mem hx
    rw [List.length_cons]
    omega
/-- a way: each goes on to the next -/
def Way (nx : Nd → List Nd) (L : List Nd) : Prop := ∀ t x y, L[t]? = some x → L[t + 1]? = some y → y ∈ nx x
structure BfsP (nx : Nd → List Nd) (src goal : Nd) (V : List Nd) (line : List Nd) (b : Nd → Option Nd) (i : Nat) : Prop where
  nd : line.Nodup
  hd0 : line[0]? = some src
  bs : b src = none
  par : ∀ k q, line[k]? = some q → k ≠ 0 → ∃ j p, j < k ∧ line[j]? = some p ∧ b q = some p ∧ q ∈ nx p
  sub : ∀ q ∈ line, q ∈ V
  cl : ∀ j p, j < i → line[j]? = some p → ∀ t ∈ nx p, t ∈ line
  ng : ∀ j, j < i → line[j]? ≠ some goal
  le : i ≤ line.length
theorem BfsP.len {nx : Nd → List Nd} {src goal : Nd} {V line : List Nd} {b : Nd → Option Nd} {i : Nat} (h : BfsP nx src goal V line b i) : line.length ≤ V.length := nd_le h.nd h.sub
theorem BfsP.add {nx : Nd → List Nd} {src goal : Nd} {V line : List Nd} {b : Nd → Option Nd} {i : Nat} (h : BfsP nx src goal V line b i) (hV : ∀ q ∈ V, ∀ t ∈ nx q, t ∈ V) {p t : Nd} (hp : line[i]? = some p) (ht : t ∈ nx p) (hn : t ∉ line) : BfsP nx src goal V (line ++ [t]) (fun q => if q = t then some p else b q) i := by
  have hi := (List.getElem?_eq_some_iff.mp hp).1
  have hsm : src ∈ line := List.mem_of_getElem? h.hd0
  have old : ∀ j, j < line.length → (line ++ [t])[j]? = line[j]? := fun j hj => List.getElem?_append_left hj
  refine ⟨?_, ?_, ?_, fun k q e hk => ?_, fun q hq => ?_, fun j q hj e u hu => ?_, fun j hj => ?_, by rw [List.length_append]; omega⟩
  · rw [List.nodup_append]
    refine ⟨h.nd, by simp, fun x hx y hy e => ?_⟩
    rw [List.mem_singleton] at hy
    subst hy; subst e
    exact hn hx
  · rw [old 0 (by omega)]; exact h.hd0
  · rw [if_neg (by rintro rfl; exact hn hsm)]; exact h.bs
  · by_cases hkl : k < line.length
    · rw [old k hkl] at e
      obtain ⟨j, r, h1, h2, h3, h4⟩ := h.par k q e hk
      refine ⟨j, r, h1, by rw [old j (by omega)]; exact h2, ?_, h4⟩
      rw [if_neg (by rintro rfl; exact hn (List.mem_of_getElem? e))]
      exact h3
    · have hke : k = line.length := by
        have := (List.getElem?_eq_some_iff.mp e).1
        rw [List.length_append, List.length_singleton] at this
        omega
      subst hke
      rw [List.getElem?_append_right (Nat.le_refl _), Nat.sub_self] at e
      simp at e
      subst e
      exact ⟨i, p, hi, by rw [old i hi]; exact hp, by rw [if_pos rfl], ht⟩
  · rcases List.mem_append.mp hq with hq | hq
    · exact h.sub q hq
    · rw [List.mem_singleton.mp hq]
      exact hV p (h.sub p (List.mem_of_getElem? hp)) t ht
  · rw [old j (by omega)] at e
    exact List.mem_append_left _ (h.cl j q hj e u hu)
  · rw [old j (by omega)]
    exact h.ng j hj
theorem BfsP.next {nx : Nd → List Nd} {src goal : Nd} {V line : List Nd} {b : Nd → Option Nd} {i : Nat} (h : BfsP nx src goal V line b i) {p : Nd} (hp : line[i]? = some p) (hg : p ≠ goal) (hd : ∀ t ∈ nx p, t ∈ line) : BfsP nx src goal V line b (i + 1) :=
  ⟨h.nd, h.hd0, h.bs, h.par, h.sub, fun j q hj e => by
    by_cases c : j < i
    · exact h.cl j q c e
    · obtain rfl : j = i := by omega
      rw [hp] at e; cases e
      exact hd, fun j hj e => by
    by_cases c : j < i
    · exact h.ng j c e
    · obtain rfl : j = i := by omega
      rw [hp] at e; cases e
      exact hg rfl, by have := (List.getElem?_eq_some_iff.mp hp).1; omega⟩
theorem BfsP.none {nx : Nd → List Nd} {src goal : Nd} {V line : List Nd} {b : Nd → Option Nd} (h : BfsP nx src goal V line b line.length) : ¬ ∃ L, Way nx L ∧ L[0]? = some src ∧ L.getLast? = some goal := by
  rintro ⟨L, hw, h0, hl⟩
  have all : ∀ (t : Nat) (q : Nd), L[t]? = some q → q ∈ line := by
    intro t
    induction t with
    | zero => intro q e; rw [h0] at e; cases e; exact List.mem_of_getElem? h.hd0
    | succ t ih =>
      intro q e
      have ht := (List.getElem?_eq_some_iff.mp e).1
      have e1 : L[t]? = some (L[t]'(by omega)) := List.getElem?_eq_getElem (by omega)
      have hm := ih _ e1
      obtain ⟨j, hj, ej⟩ := List.getElem_of_mem hm
      exact h.cl j _ hj (by rw [List.getElem?_eq_getElem hj, ej]) q (hw t _ _ e1 e)
  rw [List.getLast?_eq_getElem?] at hl
  obtain ⟨j, hj, ej⟩ := List.getElem_of_mem (all _ _ hl)
  exact h.ng j hj (by rw [List.getElem?_eq_getElem hj, ej])
theorem StepW.weak {rs : List Row} {w : Bool} {s c t : Nat} (h : StepW rs w s c t) : StepW rs false s c t := by
  obtain ⟨r, h1, h2, h3, h4, _⟩ := h
  exact ⟨r, h1, h2, h3, h4, nofun⟩
theorem StepW.to {rs : List Row} {w v : Bool} {s c t : Nat} (h : StepW rs w s c t) (k : v = true → w = true) : StepW rs v s c t := by
  cases v
  · exact h.weak
  · rw [k rfl] at h; exact h
structure InfRun (rs : List Row) (i : Nat) (w σ : Nat → Nat) (T : Nat) : Prop where
  ini : σ 0 = i
  step : ∀ t, StepW rs (decide (T ≤ t)) (σ t) (w t) (σ (t + 1))
theorem InfRun.lt {al : List Nat} {n i : Nat} {rs : List Row} (hg : GoodA al n i rs) {i0 : Nat} (h0 : i0 < n) {w σ : Nat → Nat} {T : Nat} (h : InfRun rs i0 w σ T) : ∀ t, σ t < n
  | 0 => by rw [h.ini]; exact h0
  | t + 1 => by
    obtain ⟨r, h1, _, _, h4, _⟩ := h.step t
    rw [← h4]; exact hg.tgt r h1
/-- the place behind a place of prefix and loop -/
def lateN (p l : List Nat) (x : Nat) : Nat := if x + 1 < p.length + l.length then x + 1 else p.length
def posN (p l : List Nat) (t : Nat) : Nat := if t < p.length + l.length then t else p.length + (t - p.length) % l.length
theorem posN_lt {p l : List Nat} (hl : l ≠ []) (t : Nat) : posN p l t < p.length + l.length := by
  have l0 := List.length_pos_iff.mpr hl
  have := Nat.mod_lt (t - p.length) l0
  unfold posN
  split <;> omega
theorem posN_alt {p l : List Nat} (hl : l ≠ []) {t : Nat} (h : p.length ≤ t) : posN p l t = p.length + (t - p.length) % l.length := by
  unfold posN
  split
  · rw [Nat.mod_eq_of_lt (by omega)]; omega
  · rfl
theorem posN_late {p l : List Nat} (hl : l ≠ []) (t : Nat) : posN p l (t + 1) = lateN p l (posN p l t) := by
  have l0 := List.length_pos_iff.mpr hl
  by_cases c : t < p.length
  · have e1 : posN p l t = t := by unfold posN; rw [if_pos (by omega)]
    rw [e1]
    unfold posN lateN
    split
    · rfl
    · omega
  · rw [posN_alt hl (show p.length ≤ t by omega), posN_alt hl (show p.length ≤ t + 1 by omega)]
    have := Nat.mod_lt (t - p.length) l0
    unfold lateN
    rw [show t + 1 - p.length = t - p.length + 1 by omega, Nat.add_mod]
    by_cases h1 : l.length = 1
    · rw [h1, if_neg (by omega)]; simp [Nat.mod_one]
    · rw [Nat.mod_eq_of_lt (show 1 < l.length by omega)]
      split
      · rw [Nat.mod_eq_of_lt (by omega)]; omega
      · rw [show (t - p.length) % l.length + 1 = l.length by omega, Nat.mod_self]; rfl
theorem posN_inf {p l : List Nat} (hl : l ≠ []) (t : Nat) : (p ++ l)[posN p l t]? = some (inf p l t) := by
  have l0 := List.length_pos_iff.mpr hl
  by_cases c : t < p.length
  · have e1 : posN p l t = t := by unfold posN; rw [if_pos (by omega)]
    rw [e1, List.getElem?_append_left c, inf_pre c]
    exact List.getElem?_eq_getElem c
  · rw [posN_alt hl (show p.length ≤ t by omega), List.getElem?_append_right (by omega), Nat.add_sub_cancel_left]
    have h := Nat.mod_lt (t - p.length) l0
    unfold inf lam
    rw [if_neg (by omega), List.getD_eq_getElem?_getD, List.getElem?_eq_getElem h]
    rfl
/-- the edges between (state, place) -/
structure GrW (n : Nat) (rs : List Row) (p l : List Nat) (w : Bool) (nx : Nd → List Nd) : Prop where
  iff : ∀ s x, s < n → x < p.length + l.length → ∀ q : Nd, q ∈ nx (s, x) ↔ ∃ c, (p ++ l)[x]? = some c ∧ StepW rs w s c q.1 ∧ q.2 = lateN p l x
  non : ∀ s x, ¬ (s < n ∧ x < p.length + l.length) → nx (s, x) = []
theorem GrW.mem {n : Nat} {rs : List Row} {p l : List Nat} {w : Bool} {nx : Nd → List Nd} (h : GrW n rs p l w nx) {x y : Nd} (hm : y ∈ nx x) : x.1 < n ∧ ∃ c, (p ++ l)[x.2]? = some c ∧ StepW rs w x.1 c y.1 ∧ y.2 = lateN p l x.2 := by
  by_cases c : x.1 < n ∧ x.2 < p.length + l.length
  · exact ⟨c.1, (h.iff x.1 x.2 c.1 c.2 y).mp hm⟩
  · rw [show x = (x.1, x.2) from rfl, h.non x.1 x.2 c] at hm
    cases hm
theorem GrW.step {n : Nat} {rs : List Row} {p l : List Nat} (hl : l ≠ []) {w v : Bool} {nx : Nd → List Nd} (h : GrW n rs p l w nx) {σ : Nat → Nat} {t : Nat} (hs : σ t < n) (hw : w = true → v = true) (k : StepW rs v (σ t) (inf p l t) (σ (t + 1))) : (σ (t + 1), posN p l (t + 1)) ∈ nx (σ t, posN p l t) :=
  (h.iff _ _ hs (posN_lt hl t) _).mpr ⟨_, posN_inf hl t, k.to hw, posN_late hl t⟩
def wayD (L : List Nd) : List Nat := L.map Prod.fst
/-- the edges as they are made: places below m whole, then the place m for states below k -/
structure GrP (n : Nat) (rs : List Row) (p l : List Nat) (w : Bool) (K : List Nd) (nx : Nd → List Nd) (m k : Nat) : Prop where
  mem : ∀ q : Nd, q ∈ K ↔ q.1 < n ∧ (q.2 < m ∨ (q.2 = m ∧ q.1 < k))
  len : K.length = m * n + k
  iff : ∀ q ∈ K, ∀ y : Nd, y ∈ nx q ↔ ∃ c, (p ++ l)[q.2]? = some c ∧ StepW rs w q.1 c y.1 ∧ y.2 = lateN p l q.2
  non : ∀ q, q ∉ K → nx q = []
theorem GrP.add {n : Nat} {rs : List Row} {p l : List Nat} {w : Bool} {K : List Nd} {nx : Nd → List Nd} {m k : Nat} (h : GrP n rs p l w K nx m k) (hk : k < n) {L : List Nd} (hL : ∀ y : Nd, y ∈ L ↔ ∃ c, (p ++ l)[m]? = some c ∧ StepW rs w k c y.1 ∧ y.2 = lateN p l m) : (k, m) ∉ K ∧ GrP n rs p l w (K ++ [(k, m)]) (fun q => if q = (k, m) then L else nx q) m (k + 1) := by
  have hn : (k, m) ∉ K := fun hm => by
    have := ((h.mem _).mp hm).2
    simp only [] at this
    omega
  refine ⟨hn, ⟨fun q => ?_, by rw [List.length_append, h.len, List.length_singleton]; omega, fun q hq y => ?_, fun q hq => ?_⟩⟩
  · rw [List.mem_append, List.mem_singleton, h.mem]
    obtain ⟨q1, q2⟩ := q
    simp only [Prod.mk.injEq]
    omega
  · by_cases e : q = (k, m)
    · rw [if_pos e, e]; exact hL y
    · rw [if_neg e]
      refine h.iff q ((List.mem_append.mp hq).resolve_right fun q => e (List.mem_singleton.mp q)) y
  · rw [if_neg (by rintro rfl; exact hq (by simp))]
    exact h.non q fun q2 => hq (List.mem_append_left _ q2)
theorem GrP.next {n : Nat} {rs : List Row} {p l : List Nat} {w : Bool} {K : List Nd} {nx : Nd → List Nd} {m : Nat} (h : GrP n rs p l w K nx m n) : GrP n rs p l w K nx (m + 1) 0 :=
  ⟨fun q => by rw [h.mem]; obtain ⟨q1, q2⟩ := q; simp only []; omega, by rw [h.len, Nat.succ_mul]; omega, h.iff, h.non⟩
theorem GrP.done {n : Nat} {rs : List Row} {p l : List Nat} {w : Bool} {K : List Nd} {nx : Nd → List Nd} (h : GrP n rs p l w K nx (p.length + l.length) 0) : GrW n rs p l w nx ∧ ∀ s x, (s, x) ∈ K ↔ s < n ∧ x < p.length + l.length := by
  have hm : ∀ s x, (s, x) ∈ K ↔ s < n ∧ x < p.length + l.length := fun s x => by rw [h.mem]; simp only []; omega
  exact ⟨⟨fun s x hs hx q => h.iff (s, x) ((hm s x).mpr ⟨hs, hx⟩) q, fun s x hn => h.non _ fun q => hn ((hm s x).mp q)⟩, hm⟩
theorem GrW.lt {al : List Nat} {n i0 : Nat} {rs : List Row} (hg : GoodA al n i0 rs) {p l : List Nat} {w : Bool} {nx : Nd → List Nd} (h : GrW n rs p l w nx) {L : List Nd} (hw : Way nx L) {x0 : Nd} (h0 : L[0]? = some x0) (hx : x0.1 < n) : ∀ s ∈ wayD L, s < n := fun s hs => by
  obtain ⟨q, hq, rfl⟩ := List.mem_map.mp hs
  obtain ⟨t, ht, e⟩ := List.getElem_of_mem hq
  cases t with
  | zero =>
    rw [List.getElem?_eq_getElem ht] at h0
    rw [← e, Option.some.inj h0]; exact hx
  | succ t =>
    obtain ⟨_, c, _, ⟨r, hr, _, _, e2, _⟩, _⟩ := h.mem (hw t _ _ (List.getElem?_eq_getElem (by omega)) (List.getElem?_eq_getElem ht))
    rw [← e, ← e2]; exact hg.tgt r hr
/-- the loop can be read for ever without a slip, from a state, begun at a place -/
def Live (rs : List Row) (l : List Nat) (q s : Nat) : Prop := ∃ τ : Nat → Nat, τ 0 = s ∧ ∀ k, StepW rs true (τ k) (lam l (q + k)) (τ (k + 1))
theorem Live.next {rs : List Row} {l : List Nat} {q s : Nat} (h : Live rs l q s) : ∃ t, StepW rs true s (lam l q) t ∧ Live rs l (q + 1) t := by
  obtain ⟨τ, h0, h1⟩ := h
  refine ⟨τ 1, by rw [← h0]; exact h1 0, fun k => τ (k + 1), rfl, fun k => ?_⟩
  have := h1 (k + 1)
  rw [show q + (k + 1) = q + 1 + k by omega] at this
  exact this
open Classical in
noncomputable def goalsF (n : Nat) (rs : List Row) (w : Bool) (here : List Nat) (c : Nat) : List Nat := (List.range n).filter fun t => decide (∃ s ∈ here, StepW rs w s c t)
open Classical in
theorem mem_goalsF {al : List Nat} {n i : Nat} {rs : List Row} (hg : GoodA al n i rs) {w : Bool} {here : List Nat} {c t : Nat} : t ∈ goalsF n rs w here c ↔ ∃ s ∈ here, StepW rs w s c t := by
  unfold goalsF
  rw [List.mem_filter, List.mem_range, decide_eq_true_iff]
  refine ⟨fun h => h.2, fun h => ⟨?_, h⟩⟩
  obtain ⟨_, _, r, hr, _, _, e, _⟩ := h
  rw [← e]; exact hg.tgt r hr
def tf_finishing_order : TDF := fun ds Q => ∃ (m : Nat) (E : List (List Nat)), ds = [.int m, .lst (E.map fun L => .lst (L.map iD))] ∧ (EOk E m 1000 ∧ m ≤ 5000) ∧ ∀ ord : List Nat, FinOk E ord → ord.Nodup → (∀ u, u ∈ ord ↔ u < m) → Q (.lst (ord.map iD))
theorem ar_finishing_order : ∀ ds Q, tf_finishing_order ds Q → ds.length = 2 := by
  rintro ds Q ⟨_, _, rfl, _⟩
  rfl
def tf_strong_parts : TDF := fun ds Q => ∃ (m : Nat) (E : List (List Nat)), ds = [.int m, .lst (E.map fun L => .lst (L.map iD))] ∧ (EOk E m 1000 ∧ m ≤ 5000) ∧ ∀ P : List Nat, P.length = m → (∀ x ∈ P, x ≤ 5000) → (∀ u v, u < m → v < m → (P.getD u 0 = P.getD v 0 ↔ EMut E u v)) → Q (.lst (P.map iD))
theorem ar_strong_parts : ∀ ds Q, tf_strong_parts ds Q → ds.length = 2 := by
  rintro ds Q ⟨_, _, rfl, _⟩
  rfl
def safeR (rs : List Row) : List Row := rs.filter fun r => r.w
def RchS (rs : List Row) (s t : Nat) : Prop := Rch (safeR rs) s t
theorem RchS.trans {rs : List Row} {s t u : Nat} (h : RchS rs s t) (k : RchS rs t u) : RchS rs s u := by
  unfold RchS at h k ⊢
  induction k with
  | refl => exact h
  | step _ hr e ih => exact .step ih hr e
theorem RchS.one {rs : List Row} {s c t : Nat} (h : StepW rs true s c t) : RchS rs s t := by
  obtain ⟨r, h1, h2, _, h4, h5⟩ := h
  have := Rch.step (rs := safeR rs) (s := s) .refl (List.mem_filter.mpr ⟨h1, h5 rfl⟩) h2
  rwa [h4] at this
theorem RchS.perm {A B : List Row} (p : A.Perm B) {s t : Nat} : RchS A s t ↔ RchS B s t :=
  ⟨Rch.mono fun r hr => ((p.filter _).mem_iff).mp hr, Rch.mono fun r hr => ((p.filter _).mem_iff).mpr hr⟩
open Classical in
noncomputable def nrmR (rs : List Row) (r : Row) : Row := ⟨r.s, r.l, r.t, r.w && decide (RchS rs r.t r.s)⟩
theorem good_nrm {al : List Nat} {n i : Nat} {rs ts : List Row} (hg : GoodA al n i ts) : GoodA al n i (ts.map (nrmR rs)) := by
  refine ⟨hg.alp, hg.lo, hg.hi, by rw [List.length_map]; exact hg.len, fun r hr => ?_, fun r hr => ?_, fun r hr => ?_, ?_, fun k hk => ?_, hg.ini⟩
  · obtain ⟨q, hq, rfl⟩ := List.mem_map.mp hr; exact hg.src q hq
  · obtain ⟨q, hq, rfl⟩ := List.mem_map.mp hr; exact hg.let' q hq
  · obtain ⟨q, hq, rfl⟩ := List.mem_map.mp hr; exact hg.tgt q hq
  · rw [List.map_map]; exact hg.nd
  · obtain ⟨r, hr, e⟩ := atA_ne.mp (hg.full k hk)
    exact atA_ne.mpr ⟨nrmR rs r, List.mem_map_of_mem hr, e⟩
theorem atA_tgts {al : List Nat} {n i : Nat} {rs : List Row} (hg : GoodA al n i rs) (k : Nat × Nat) : (atA rs k).length ≤ n := by
  have nd : ((atA rs k).map fun r => r.t).Nodup := by
    have h0 : ((atA rs k).map fun r => (r.s, r.l, r.t)).Nodup := (List.filter_sublist.map _).nodup hg.nd
    rw [List.Nodup, List.pairwise_map] at h0 ⊢
    refine h0.imp_of_mem fun {a b} ha hb ne e => ne ?_
    have h1 := (mem_atA.mp ha).2
    have h2 := (mem_atA.mp hb).2
    rw [← h2] at h1
    simp only [Prod.mk.injEq] at h1 ⊢
    exact ⟨h1.1, h1.2, e⟩
  have := nd_len nd (n := n) fun x hx => by
    obtain ⟨r, hr, rfl⟩ := List.mem_map.mp hx
    exact hg.tgt r (mem_atA.mp hr).1
  rwa [List.length_map] at this
theorem wpMap_lets {f : D → (List D → Prop) → Prop} {rs : List Row} {w : Bool} {s B : Nat} : ∀ {A : List Nat} {Q : List D → Prop}, (∀ c ∈ A, ∀ k : List D → Prop, (∀ L : List Nat, L.length ≤ B → (∀ t, t ∈ L ↔ StepW rs w s c t) → k (L.map iD)) → f (.str [c]) k) → (∀ M : List Nat, M.length ≤ A.length * B → (∀ t, t ∈ M ↔ ∃ c ∈ A, StepW rs w s c t) → Q (M.map iD)) → wpMap f (A.map fun c => .str [c]) Q
  | [], Q, _, q => q [] (by simp) (by simp)
  | x :: A, Q, h, q => h x (by simp) _ fun L hl hm => wpMap_lets (A := A) (fun y hy => h y (by simp [hy])) fun M hl' hm' => by
    rw [← List.map_append]
    refine q (L ++ M) (by rw [List.length_append, List.length_cons, Nat.succ_mul]; omega) fun t => ?_
    rw [List.mem_append, hm, hm']; simp
structure SfE (n : Nat) (rs : List Row) (E : List (List Nat)) : Prop where
  ok : EOk E n 1000
  mem : ∀ u v, u < n → (v ∈ nxE E u ↔ ∃ c, StepW rs true u c v)
theorem SfE.rch {al : List Nat} {n i : Nat} {rs : List Row} (hg : GoodA al n i rs) {E : List (List Nat)} (h : SfE n rs E) {u v : Nat} (hu : u < n) : ER E u v ↔ RchS rs u v := by
  constructor
  · intro k
    induction k with
    | refl => exact .refl
    | @step v w hv hw ih =>
      have hvn : v < n := by
        cases hv with
        | refl => exact hu
        | step _ e => exact h.ok.lt _ _ e
      obtain ⟨c, hc⟩ := (h.mem v w hvn).mp hw
      exact ih.trans (.one hc)
  · intro k
    unfold RchS at k
    induction k with
    | refl => exact .refl
    | @step x r hx hr e ih =>
      obtain ⟨h1, h2⟩ := List.mem_filter.mp hr
      have hxn : x < n := by rw [← e]; exact hg.src r h1
      exact .step ih ((h.mem x r.t hxn).mpr ⟨r.l, r, h1, e, rfl, rfl, fun _ => h2⟩)
def tf_safe_edges (a : Adr) : TDF := fun ds Q => ∃ (al : List Nat) (n : Nat) (i : Nat) (rs : List Row), ds = [autD a.C_Automaton al n i rs] ∧ GoodA al n i rs ∧ ∀ E : List (List Nat), SfE n rs E → Q (eD E)
theorem ar_safe_edges {a : Adr} : ∀ ds Q, tf_safe_edges a ds Q → ds.length = 1 := by
  rintro ds Q ⟨_, _, _, _, rfl, _⟩
  rfl
def tf_normal (a : Adr) : TDF := fun ds Q => ∃ (al : List Nat) (n : Nat) (i : Nat) (rs : List Row), ds = [autD a.C_Automaton al n i rs] ∧ GoodA al n i rs ∧ Q (autD a.C_Automaton al n i ((sortR rs).map (nrmR rs)))
theorem ar_normal {a : Adr} : ∀ ds Q, tf_normal a ds Q → ds.length = 1 := by
  rintro ds Q ⟨_, _, _, _, rfl, _⟩
  rfl
def MutS (rs : List Row) (x y : Nat) : Prop := RchS rs x y ∧ RchS rs y x
structure CompL (n : Nat) (rs : List Row) (Ls : List (List Nat)) : Prop where
  ne : ∀ L ∈ Ls, L ≠ []
  lt : ∀ L ∈ Ls, ∀ x ∈ L, x < n
  pw : ∀ L ∈ Ls, L.Pairwise (· < ·)
  all : ∀ x, x < n → ∃ L ∈ Ls, x ∈ L
  mu : ∀ L ∈ Ls, ∀ x ∈ L, ∀ y, y < n → (y ∈ L ↔ MutS rs x y)
  dj : Ls.Pairwise fun A B => ∀ x ∈ A, x ∉ B
def lotC (P : List Nat) (m k : Nat) : List Nat := (List.range m).filter fun s => decide (P.getD s 0 = k)
structure LotI (P : List Nat) (m : Nat) (ks : List Nat) : Prop where
  nd : ks.Nodup
  mem : ∀ k, k ∈ ks ↔ ∃ s, s < m ∧ P.getD s 0 = k
theorem lotC_mem {P : List Nat} {m k x : Nat} : x ∈ lotC P m k ↔ x < m ∧ P.getD x 0 = k := by
  unfold lotC
  rw [List.mem_filter, List.mem_range, decide_eq_true_iff]
theorem lotC_succ {P : List Nat} {m k : Nat} : lotC P (m + 1) k = lotC P m k ++ if P.getD m 0 = k then [m] else [] := by
  unfold lotC
  rw [List.range_succ, List.filter_append]
  congr 1
  by_cases c : P.getD m 0 = k
  · rw [if_pos c]
    exact List.filter_cons_of_pos (by rw [decide_eq_true_iff]; exact c)
  · rw [if_neg c]
    exact (List.filter_cons_of_neg (by rw [decide_eq_true_iff]; exact c)).trans rfl
theorem lotC_nil {P : List Nat} {m k : Nat} (h : ¬ ∃ s, s < m ∧ P.getD s 0 = k) : lotC P m k = [] :=
  List.eq_nil_iff_forall_not_mem.mpr fun x hx => h ⟨x, lotC_mem.mp hx⟩
theorem LotI.old {P : List Nat} {m : Nat} {ks : List Nat} (h : LotI P m ks) (hp : P.getD m 0 ∈ ks) : LotI P (m + 1) ks :=
  ⟨h.nd, fun k => by
    rw [h.mem]
    constructor
    · rintro ⟨s, h1, h2⟩; exact ⟨s, by omega, h2⟩
    · rintro ⟨s, h1, h2⟩
      by_cases c : s = m
      · subst c; rw [← h2]; exact (h.mem _).mp hp
      · exact ⟨s, by omega, h2⟩⟩
theorem LotI.new {P : List Nat} {m : Nat} {ks : List Nat} (h : LotI P m ks) (hp : P.getD m 0 ∉ ks) : LotI P (m + 1) (ks ++ [P.getD m 0]) :=
  ⟨List.nodup_append.mpr ⟨h.nd, by simp, fun x hx y hy e => hp (by rw [List.mem_singleton.mp hy] at e; exact e ▸ hx)⟩, fun k => by
    rw [List.mem_append, List.mem_singleton, h.mem]
    constructor
    · rintro (⟨s, h1, h2⟩ | rfl)
      · exact ⟨s, by omega, h2⟩
      · exact ⟨m, by omega, rfl⟩
    · rintro ⟨s, h1, h2⟩
      by_cases c : s = m
      · subst c; exact .inr h2.symm
      · exact .inl ⟨s, by omega, h2⟩⟩
theorem LotI.comp {al : List Nat} {n i : Nat} {rs : List Row} (hg : GoodA al n i rs) {E : List (List Nat)} (hE : SfE n rs E) {P ks : List Nat} (hP : ∀ u v, u < n → v < n → (P.getD u 0 = P.getD v 0 ↔ EMut E u v)) (h : LotI P n ks) {Ls : List (List Nat)} (p : Ls.Perm (ks.map fun k => lotC P n k)) : CompL n rs Ls := by
  have mem : ∀ L ∈ Ls, ∃ k ∈ ks, L = lotC P n k := fun L hL => by
    obtain ⟨k, h1, h2⟩ := List.mem_map.mp (p.mem_iff.mp hL)
    exact ⟨k, h1, h2.symm⟩
  refine ⟨fun L hL => ?_, fun L hL x hx => ?_, fun L hL => ?_, fun x hx => ?_, fun L hL x hx y hy => ?_, ?_⟩
  · obtain ⟨k, h1, rfl⟩ := mem L hL
    obtain ⟨s, h2, h3⟩ := (h.mem k).mp h1
    exact List.ne_nil_of_mem (lotC_mem.mpr ⟨h2, h3⟩)
  · obtain ⟨k, h1, rfl⟩ := mem L hL
    exact (lotC_mem.mp hx).1
  · obtain ⟨k, h1, rfl⟩ := mem L hL
    exact (List.pairwise_lt_range).filter _
  · exact ⟨lotC P n (P.getD x 0), p.mem_iff.mpr (List.mem_map.mpr ⟨_, (h.mem _).mpr ⟨x, hx, rfl⟩, rfl⟩), lotC_mem.mpr ⟨hx, rfl⟩⟩
  · obtain ⟨k, h1, rfl⟩ := mem L hL
    obtain ⟨h2, h3⟩ := lotC_mem.mp hx
    rw [lotC_mem]
    unfold MutS
    rw [← hE.rch hg h2, ← hE.rch hg hy]
    have := hP x y h2 hy
    unfold EMut at this
    rw [← this, h3]
    exact ⟨fun q => q.2.symm, fun q => ⟨hy, q.symm⟩⟩
  · refine p.symm.pairwise (List.pairwise_map.mpr (h.nd.imp fun {a b} hab x hx hy => hab ?_)) (fun {A B} h x hx hy => h x hy hx)
    rw [← (lotC_mem.mp hx).2, (lotC_mem.mp hy).2]
theorem ints_plain : ∀ L : List Nat, plainL (L.map iD) = true
  | [] => rfl
  | x :: L => by
    show (plainD (iD x) && plainL (L.map iD)) = true
    rw [ints_plain L]; rfl
theorem ints_dep : ∀ L : List Nat, depL (L.map iD) = 0
  | [] => rfl
  | x :: L => by
    show max (dep (iD x)) (depL (L.map iD)) = 0
    rw [ints_dep L]; rfl
theorem ints_alike : ∀ A B : List Nat, PySem.W.alikeAll (toPyL (A.map iD)) (toPyL (B.map iD)) = true
  | [], [] => rfl
  | [], _ :: _ => rfl
  | _ :: _, [] => rfl
  | x :: A, y :: B => by
    show (PySem.W.alike (toPy (iD x)) (toPy (iD y)) && PySem.W.alikeAll (toPyL (A.map iD)) (toPyL (B.map iD))) = true
    rw [ints_alike A B]; rfl
theorem lots_can {L : List (List Nat)} (h : L.length ≤ 1000) : CanSort (L.map fun A => .lst (A.map iD)) where
  plain := fun d hd => by obtain ⟨x, hx, rfl⟩ := List.mem_map.mp hd; exact ints_plain x
  dep := fun d hd => by
    obtain ⟨x, hx, rfl⟩ := List.mem_map.mp hd
    show depL (x.map iD) + 1 ≤ 64
    rw [ints_dep]; decide
  alike := fun d hd e he => by
    obtain ⟨d', hd', rfl⟩ := List.mem_map.mp hd
    obtain ⟨e', he', rfl⟩ := List.mem_map.mp he
    obtain ⟨x, hx, rfl⟩ := List.mem_map.mp hd'
    obtain ⟨y, hy, rfl⟩ := List.mem_map.mp he'
    exact ints_alike x y
  kind := .inr fun d hd => by
    obtain ⟨d', hd', rfl⟩ := List.mem_map.mp hd
    obtain ⟨x, hx, rfl⟩ := List.mem_map.mp hd'
    exact ⟨fun q => by simp [toPy] at q, fun xs q => by simp [toPy] at q⟩
  len := by rw [List.length_map]; show _ ≤ 16777216; omega
theorem LotI.len {P ks : List Nat} {m : Nat} (h : LotI P m ks) : ks.length ≤ m := by
  have := nd_le h.nd (B := (List.range m).map fun s => P.getD s 0) fun x hx => by
    obtain ⟨s, h1, h2⟩ := (h.mem x).mp hx
    exact List.mem_map.mpr ⟨s, List.mem_range.mpr h1, h2⟩
  rwa [List.length_map, List.length_range] at this
theorem CompL.few {n : Nat} {rs : List Row} {Ls : List (List Nat)} (h : CompL n rs Ls) : Ls.length ≤ n := by
  have hh : ∀ L ∈ Ls, L.headD 0 ∈ L := fun L hL => by
    have := h.ne L hL
    cases L with
    | nil => exact absurd rfl this
    | cons a K => simp
  have nd : (Ls.map fun L => L.headD 0).Nodup := List.pairwise_map.mpr (h.dj.imp_of_mem fun {A B} hA hB q e => q _ (hh A hA) (e ▸ hh B hB))
  have := nd_len nd (n := n) fun x hx => by
    obtain ⟨L, hL, rfl⟩ := List.mem_map.mp hx
    exact h.lt L hL _ (hh L hL)
  rwa [List.length_map] at this
def tf_components (a : Adr) : TDF := fun ds Q => ∃ (al : List Nat) (n : Nat) (i : Nat) (rs : List Row), ds = [autD a.C_Automaton al n i rs] ∧ GoodA al n i rs ∧ ∀ Ls : List (List Nat), CompL n rs Ls → (Ls.map fun L => D.lst (L.map iD)).Pairwise (fun a b => dle a b = true) → Q (D.lst (Ls.map fun L => .lst (L.map iD)))
theorem ar_components {a : Adr} : ∀ ds Q, tf_components a ds Q → ds.length = 1 := by
  rintro ds Q ⟨_, _, _, _, rfl, _⟩
  rfl
theorem ins_perm {ys xs : List D} {d : D} {j : Nat} (p : ys.Perm (xs.take j)) (hj : xs[j]? = some d) (k : Nat) : (ys.take k ++ [d] ++ ys.drop k).Perm (xs.take (j + 1)) := by
  rw [List.take_add_one, hj, Option.toList_some]
  refine List.Perm.trans ?_ (p.append_right [d])
  rw [List.append_assoc, List.singleton_append]
  refine (List.perm_middle).trans ?_
  rw [List.take_append_drop]
  exact List.perm_append_singleton d ys |>.symm
def tf__law_mixed : TDF := fun ds Q => ∃ (xs : List D), ds = [.bag, .lst xs] ∧ xs.length ≤ 100000 ∧ ∀ ys : List D, ys.Perm xs → Q (.lst ys)
theorem ar__law_mixed : ∀ ds Q, tf__law_mixed ds Q → ds.length = 2 := by
  rintro ds Q ⟨_, rfl, _⟩
  rfl
def tf__law_rows : TDF := fun ds Q => ∃ (al : List Nat) (n : Nat) (g : Bool) (sf : Int), ds = [.bag, .str al, .int n, .bl g, .int sf] ∧ (isAlphaD (.str al) = true ∧ n ≤ 65 ∧ 0 < sf ∧ sf < 1073741824) ∧ ∀ rs : List Row, Part n g (keysA al n) rs → Q (.lst (rs.map rowD))
theorem ar__law_rows : ∀ ds Q, tf__law_rows ds Q → ds.length = 5 := by
  rintro ds Q ⟨_, _, _, _, rfl, _⟩
  rfl
def specD (al : List Nat) (n : Nat) (rs : List Row) (i : Nat) : D := .lst [.str al, .int n, .lst (rs.map rowD), .int i]
def tf__law_spec : TDF := fun ds Q => ∃ (m : Nat) (g : Bool), ds = [.bag, .int m, .bl g] ∧ (1 ≤ m ∧ m ≤ 65) ∧ ∀ (al : List Nat) (n i : Nat) (rs : List Row), n ≤ m → GoodA al n i rs → Part n g (keysA al n) rs → Q (specD al n rs i)
theorem ar__law_spec : ∀ ds Q, tf__law_spec ds Q → ds.length = 3 := by
  rintro ds Q ⟨_, _, rfl, _⟩
  rfl
def tf__law_made (a : Adr) : TDF := fun ds Q => ∃ (al : List Nat) (n : Nat) (rs : List Row) (i : Nat), ds = [specD al n rs i] ∧ GoodA al n i rs ∧ Q (autD a.C_Automaton al n i rs)
theorem ar__law_made {a : Adr} : ∀ ds Q, tf__law_made a ds Q → ds.length = 1 := by
  rintro ds Q ⟨_, _, _, _, rfl, _⟩
  rfl
def tf__law_steps : TDF := fun ds Q => ∃ (al : List Nat) (n : Nat) (rs : List Row) (i : Nat), ds = [specD al n rs i] ∧ (GoodA al n i rs) ∧ Q (.dic true false ((keysA al n).map keyA) ((keysA al n).map fun k => .lst ((atA rs k).map pairD)))
theorem ar__law_steps : ∀ ds Q, tf__law_steps ds Q → ds.length = 1 := by
  rintro ds Q ⟨_, _, _, _, rfl, _⟩
  rfl
def tf__law_goals : TDF := fun ds Q => ∃ (al : List Nat) (n : Nat) (rs : List Row) (here : List Nat) (c : Nat) (w : Bool) (d : D), ds = [.dic true false ((keysA al n).map keyA) ((keysA al n).map fun k => .lst ((atA rs k).map pairD)), d, .str [c], .lst (if w then [.str (wC true)] else [.str (wC true), .str (wC false)])] ∧ itemsD d = some (here.map iD) ∧ ((∃ i, GoodA al n i rs) ∧ c ∈ al ∧ ∀ x ∈ here, x < n) ∧ Q (.lst ((goalsF n rs w here c).map iD))
theorem ar__law_goals : ∀ ds Q, tf__law_goals ds Q → ds.length = 4 := by
  rintro ds Q ⟨_, _, _, _, _, _, _, rfl, _⟩
  rfl
theorem goalsF_nd {n : Nat} {rs : List Row} {w : Bool} {here : List Nat} {c : Nat} : (goalsF n rs w here c).Nodup := by
  unfold goalsF; exact List.nodup_range.filter _
theorem goalsF_lt {n : Nat} {rs : List Row} {w : Bool} {here : List Nat} {c : Nat} : ∀ x ∈ goalsF n rs w here c, x < n := fun x hx => by
  unfold goalsF at hx
  exact List.mem_range.mp (List.mem_filter.mp hx).1
theorem goalsF_len {n : Nat} {rs : List Row} {w : Bool} {here : List Nat} {c : Nat} : (goalsF n rs w here c).length ≤ n := nd_len goalsF_nd goalsF_lt
theorem flat_filterP {α : Type} {f : α → D} {p : α → Bool} : ∀ {L : List α}, (L.flatMap fun v => if p v = true then [f v] else []) = (L.filter p).map f
  | [] => rfl
  | x :: L => by
    rw [List.flatMap_cons, flat_filterP, List.filter_cons]
    split <;> rfl
def RK (rs : List Row) (w : Bool) (s t : Nat) : Prop := Rch (rs.filter fun r => !w || r.w) s t
theorem RK.stepW {rs : List Row} {w : Bool} {s u c t : Nat} (h : RK rs w s u) (k : StepW rs w u c t) : RK rs w s t := by
  obtain ⟨r, h1, h2, _, h4, h5⟩ := k
  have := Rch.step h (List.mem_filter.mpr ⟨h1, by cases w with
    | false => rfl
    | true => simpa using h5 rfl⟩) h2
  rwa [h4] at this
theorem RK.cl {rs : List Row} {w : Bool} {s : Nat} {F : List Nat} (h0 : s ∈ F) (hc : ∀ x ∈ F, ∀ c t, StepW rs w x c t → t ∈ F) {t : Nat} (h : RK rs w s t) : t ∈ F := by
  unfold RK at h
  induction h with
  | refl => exact h0
  | @step u r hu hr e ih =>
    obtain ⟨h1, h2⟩ := List.mem_filter.mp hr
    refine hc _ ih r.l r.t ⟨r, h1, e, rfl, rfl, fun q => ?_⟩
    subst q
    simpa using h2
theorem RK_true {rs : List Row} {s t : Nat} : RK rs true s t ↔ RchS rs s t := by
  unfold RK RchS safeR
  simp
theorem any_int' (L : List Nat) (x : Nat) : ((L.map iD).any fun z => deqv z (iD x)) = decide (x ∈ L) := any_int
theorem eq_ints (A B : List Nat) : deqv (.lst (A.map iD)) (.lst (B.map iD)) = true ↔ A = B := by
  have sh : ∀ L : List Nat, sharp (.lst (L.map iD)) = true := fun L => sharpL_map (fun _ => rfl) L
  rw [deqv_sharp (sh A) (sh B)]
  constructor
  · intro h
    exact iD_map_inj (D.lst.inj h)
  · rintro rfl; rfl
def tf__law_reach : TDF := fun ds Q => ∃ (al : List Nat) (n : Nat) (i : Nat) (rs : List Row) (s : Nat) (w : Bool), ds = [specD al n rs i, .int s, .lst (if w then [.str (wC true)] else [.str (wC true), .str (wC false)])] ∧ (GoodA al n i rs ∧ s < n) ∧ ∀ L : List Nat, L.Pairwise (· < ·) → (∀ t, t ∈ L ↔ RK rs w s t) → Q (.lst (L.map iD))
theorem ar__law_reach : ∀ ds Q, tf__law_reach ds Q → ds.length = 3 := by
  rintro ds Q ⟨_, _, _, _, _, _, rfl, _⟩
  rfl
theorem safe_rch {rs : List Row} {s t : Nat} (h : RchS rs s t) : Rch rs s t := Rch.mono (fun r hr => (List.mem_filter.mp hr).1) h
theorem RchS.lt {al : List Nat} {n i : Nat} {rs : List Row} (hg : GoodA al n i rs) {x y : Nat} (hx : x < n) (h : RchS rs x y) : y < n := Rch.lt hg hx (safe_rch h)
theorem nrm_back {rs ts : List Row} (p : ts.Perm rs) {t u : Nat} (h : RchS rs t u) : RchS rs u t → RchS (ts.map (nrmR rs)) t u := by
  classical
  unfold RchS at h
  induction h with
  | refl => exact fun _ => .refl
  | @step u r hu hr e ih =>
    intro k
    obtain ⟨h1, h2⟩ := List.mem_filter.mp hr
    have one : RchS rs u r.t := RchS.one ⟨r, h1, e, rfl, rfl, fun _ => h2⟩
    have h3 := ih (one.trans k)
    have h4 : RchS rs r.t r.s := by rw [e]; exact k.trans hu
    exact h3.trans (RchS.one (c := r.l) ⟨nrmR rs r, List.mem_map.mpr ⟨r, p.mem_iff.mpr h1, rfl⟩, e, rfl, rfl, fun _ => by
      show (r.w && decide (RchS rs r.t r.s)) = true
      rw [Bool.and_eq_true]
      exact ⟨h2, decide_eq_true h4⟩⟩)
theorem wpMap_each {α : Type} {f : D → (List D → Prop) → Prop} {kf : α → D} (P : α → D → Prop) : ∀ {xs : List α} {Q : List D → Prop}, (∀ x ∈ xs, ∀ k : List D → Prop, (∀ y, P x y → k [y]) → f (kf x) k) → (∀ ys : List D, ys.length = xs.length → (∀ (i : Nat) x, xs[i]? = some x → ∃ y, ys[i]? = some y ∧ P x y) → Q ys) → wpMap f (xs.map kf) Q
  | [], Q, _, q => q [] rfl (fun i x e => by simp at e)
  | x :: xs, Q, h, q => h x (by simp) _ fun y hy => wpMap_each P (xs := xs) (fun z hz => h z (by simp [hz])) fun ys hl hys => by
    refine q (y :: ys) (by simp [hl]) fun i z e => ?_
    cases i with
    | zero => cases e; exact ⟨y, rfl, hy⟩
    | succ i => exact hys i z e
section LOTS
variable {al : List Nat} {n i : Nat} {rs : List Row}
theorem MutS.symm {x y : Nat} (h : MutS rs x y) : MutS rs y x := ⟨h.2, h.1⟩
theorem MutS.tr {x y z : Nat} (h : MutS rs x y) (k : MutS rs y z) : MutS rs x z := ⟨h.1.trans k.1, k.2.trans h.2⟩
theorem muts_nrm {x y : Nat} : MutS (rs.map (nrmR rs)) x y ↔ MutS rs x y := by
  have down : ∀ {x y : Nat}, RchS (rs.map (nrmR rs)) x y → RchS rs x y := fun {x y} h => by
    unfold RchS at h
    induction h with
    | refl => exact .refl
    | @step u r hu hr e ih =>
      obtain ⟨h1, h2⟩ := List.mem_filter.mp hr
      obtain ⟨q, hq, rfl⟩ := List.mem_map.mp h1
      have hw : q.w = true := by
        have h2 : (q.w && _) = true := h2
        rw [Bool.and_eq_true] at h2
        exact h2.1
      exact ih.trans (RchS.one (c := q.l) ⟨q, hq, e, rfl, rfl, fun _ => hw⟩)
  exact ⟨fun h => ⟨down h.1, down h.2⟩, fun h => ⟨nrm_back (List.Perm.refl _) h.1 h.2, nrm_back (List.Perm.refl _) h.2 h.1⟩⟩
noncomputable def lotS (n : Nat) (rs : List Row) (s : Nat) : List Nat := by
  classical exact (List.range n).filter fun t => decide (MutS rs s t)
theorem lotS_mem {s t : Nat} : t ∈ lotS n rs s ↔ t < n ∧ MutS rs s t := by
  unfold lotS
  simp only [List.mem_filter, List.mem_range, decide_eq_true_eq]
theorem lotS_pw {s : Nat} : (lotS n rs s).Pairwise (· < ·) := by
  unfold lotS
  exact List.pairwise_lt_range.filter _
theorem lotS_eq {s t : Nat} (h : MutS rs s t) : lotS n rs s = lotS n rs t := by
  unfold lotS
  refine List.filter_congr fun x _ => ?_
  rw [Bool.eq_iff_iff]
  simp only [decide_eq_true_eq]
  exact ⟨fun q => h.symm.tr q, fun q => h.tr q⟩
structure LtI (n : Nat) (rs : List Row) (m : Nat) (Ls : List (List Nat)) : Prop where
  mem : ∀ L, L ∈ Ls ↔ ∃ s, s < m ∧ L = lotS n rs s
  nd : Ls.Nodup
theorem LtI.nil : LtI n rs 0 [] := ⟨fun L => ⟨nofun, fun ⟨_, h, _⟩ => absurd h (Nat.not_lt_zero _)⟩, .nil⟩
theorem LtI.old {m : Nat} {Ls : List (List Nat)} (h : LtI n rs m Ls) (hm : lotS n rs m ∈ Ls) : LtI n rs (m + 1) Ls :=
  ⟨fun L => by
    rw [h.mem]
    constructor
    · rintro ⟨s, h1, h2⟩; exact ⟨s, by omega, h2⟩
    · rintro ⟨s, h1, h2⟩
      by_cases c : s = m
      · subst c; rw [h2]; exact (h.mem _).mp hm
      · exact ⟨s, by omega, h2⟩, h.nd⟩
theorem LtI.new {m : Nat} {Ls : List (List Nat)} (h : LtI n rs m Ls) (hm : lotS n rs m ∉ Ls) : LtI n rs (m + 1) (Ls ++ [lotS n rs m]) :=
  ⟨fun L => by
    rw [List.mem_append, List.mem_singleton, h.mem]
    constructor
    · rintro (⟨s, h1, h2⟩ | e)
      · exact ⟨s, by omega, h2⟩
      · exact ⟨m, by omega, e⟩
    · rintro ⟨s, h1, h2⟩
      by_cases c : s = m
      · subst c; exact .inr h2
      · exact .inl ⟨s, by omega, h2⟩, List.nodup_append.mpr ⟨h.nd, by simp, fun x hx y hy e => hm (by rw [List.mem_singleton.mp hy] at e; exact e ▸ hx)⟩⟩
theorem LtI.comp {Ls : List (List Nat)} (h : LtI n rs n Ls) : CompL n rs Ls := by
  refine ⟨fun L hL => ?_, fun L hL x hx => ?_, fun L hL => ?_, fun x hx => ?_, fun L hL x hx y hy => ?_, ?_⟩
  · obtain ⟨s, h1, rfl⟩ := (h.mem L).mp hL
    exact List.ne_nil_of_mem (lotS_mem.mpr ⟨h1, .refl, .refl⟩)
  · obtain ⟨s, h1, rfl⟩ := (h.mem L).mp hL
    exact (lotS_mem.mp hx).1
  · obtain ⟨s, h1, rfl⟩ := (h.mem L).mp hL
    exact lotS_pw
  · exact ⟨lotS n rs x, (h.mem _).mpr ⟨x, hx, rfl⟩, lotS_mem.mpr ⟨hx, .refl, .refl⟩⟩
  · obtain ⟨s, h1, rfl⟩ := (h.mem L).mp hL
    have hm := (lotS_mem.mp hx).2
    rw [lotS_mem]
    exact ⟨fun q => hm.symm.tr q.2, fun q => ⟨hy, hm.tr q⟩⟩
  · refine h.nd.imp_of_mem fun {A B} hA hB hne x hx hy => hne ?_
    obtain ⟨s, _, rfl⟩ := (h.mem A).mp hA
    obtain ⟨t, _, rfl⟩ := (h.mem B).mp hB
    rw [lotS_eq (lotS_mem.mp hx).2, lotS_eq (lotS_mem.mp hy).2]
end LOTS
theorem asc_eqN {A B : List Nat} (pA : A.Pairwise (· < ·)) (pB : B.Pairwise (· < ·)) (h : ∀ t, t ∈ A ↔ t ∈ B) : A = B :=
  ((List.perm_ext_iff_of_nodup (pA.imp fun {a b} q => by omega) (pB.imp fun {a b} q => by omega)).mpr h).eq_of_pairwise (fun a b _ _ h1 h2 => by omega) pA pB
theorem any_lots {Ls : List (List Nat)} {x : List Nat} : ((Ls.map fun L => D.lst (L.map iD)).any fun z => deqv z (.lst (x.map iD))) = decide (x ∈ Ls) := by
  rw [List.any_map, Bool.eq_iff_iff, List.any_eq_true, decide_eq_true_iff]
  constructor
  · rintro ⟨y, hy, e⟩
    rw [← (eq_ints y x).mp e]; exact hy
  · exact fun h => ⟨x, h, deqv_refl _⟩
theorem lots_ok {Ls : List (List Nat)} : okD (.lst (Ls.map fun L => D.lst (L.map iD))) = true := okD_lst fun d hd => by
  obtain ⟨L, _, rfl⟩ := List.mem_map.mp hd
  refine ⟨ints_plain L, ?_⟩
  show depL (L.map iD) + 1 ≤ 63
  rw [ints_dep]
  decide
abbrev lnD (L : List Nat) : D := .lst (L.map iD)
theorem dle_lst {a b : Nat} {A B : List Nat} (h : a < b) : dle (lnD (a :: A)) (lnD (b :: B)) = true := by
  show (!PyProof.Rows.lexLt _ _ _) = true
  simp only [List.map_cons, iD, toPy, toPyL, PySem.W.keyToks, PySem.W.keyToksAll, List.cons_append, List.nil_append, PyProof.Rows.lexLt, PyProof.Rows.itemLt]
  simp
  omega
theorem tk_ln : ∀ {A B : List Nat}, tk (lnD A) = tk (lnD B) → A = B := by
  have key : ∀ A B : List Nat, PySem.W.keyToksAll (toPyL (A.map iD)) = PySem.W.keyToksAll (toPyL (B.map iD)) → A = B := by
    intro A
    induction A with
    | nil =>
      intro B h
      cases B with
      | nil => rfl
      | cons b B => simp [toPyL, toPy, iD, PySem.W.keyToks, PySem.W.keyToksAll] at h
    | cons a A ih =>
      intro B h
      cases B with
      | nil => simp [toPyL, toPy, iD, PySem.W.keyToks, PySem.W.keyToksAll] at h
      | cons b B =>
        simp [toPyL, toPy, iD, PySem.W.keyToks, PySem.W.keyToksAll] at h
        obtain ⟨h1, h2⟩ := h
        rw [ih B h2, show a = b by omega]
  intro A B h
  refine key A B ?_
  simpa [tk, toPy, PySem.W.keyToks] using h
section LTJ
variable {al : List Nat} {n i : Nat} {rs : List Row}
/-- the lots of the first m states, in order -/
structure LtJ (n : Nat) (rs : List Row) (m : Nat) (Ls : List (List Nat)) : Prop where
  mem : ∀ L, L ∈ Ls ↔ ∃ s, s < m ∧ L = lotS n rs s
  nd : Ls.Nodup
  asc : Ls.Pairwise fun A B => A.headD 0 < B.headD 0
theorem LtJ.toI {m : Nat} {Ls : List (List Nat)} (h : LtJ n rs m Ls) : LtI n rs m Ls := ⟨h.mem, h.nd⟩
theorem LtJ.nil : LtJ n rs 0 [] := ⟨(LtI.nil (n := n) (rs := rs)).mem, .nil, .nil⟩
theorem LtJ.old {m : Nat} {Ls : List (List Nat)} (h : LtJ n rs m Ls) (hm : lotS n rs m ∈ Ls) : LtJ n rs (m + 1) Ls := ⟨(h.toI.old hm).mem, h.nd, h.asc⟩
theorem lotS_head {s : Nat} (hs : s < n) : lotS n rs s = (lotS n rs s).headD 0 :: (lotS n rs s).tail ∧ (lotS n rs s).headD 0 ≤ s := by
  have hm : s ∈ lotS n rs s := lotS_mem.mpr ⟨hs, .refl, .refl⟩
  have hp := lotS_pw (n := n) (rs := rs) (s := s)
  cases e : lotS n rs s with
  | nil => rw [e] at hm; cases hm
  | cons a A =>
    refine ⟨rfl, ?_⟩
    rw [e] at hm hp
    rcases List.mem_cons.mp hm with q | q
    · show a ≤ s; omega
    · have := (List.pairwise_cons.mp hp).1 s q
      show a ≤ s
      omega
theorem LtJ.new {m : Nat} {Ls : List (List Nat)} (h : LtJ n rs m Ls) (hm : lotS n rs m ∉ Ls) (hmn : m < n) : LtJ n rs (m + 1) (Ls ++ [lotS n rs m]) := by
  refine ⟨(h.toI.new hm).mem, (h.toI.new hm).nd, List.pairwise_append.mpr ⟨h.asc, List.pairwise_singleton _ _, fun A hA B hB => ?_⟩⟩
  rw [List.mem_singleton.mp hB]
  obtain ⟨s, hs, rfl⟩ := (h.mem A).mp hA
  have h1 := (lotS_head (n := n) (rs := rs) (show s < n by omega)).2
  obtain ⟨h2, h3⟩ := lotS_head (n := n) (rs := rs) hmn
  have hh : (lotS n rs m).headD 0 ∈ lotS n rs m := by
    have : ∀ {K : List Nat}, K = K.headD 0 :: K.tail → K.headD 0 ∈ K := fun {K} e => by
      cases K with
      | nil => cases e
      | cons a A => simp
    exact this h2
  by_cases c : (lotS n rs m).headD 0 < m
  · exact absurd ((h.mem _).mpr ⟨_, c, lotS_eq (lotS_mem.mp hh).2⟩) hm
  · omega
theorem LtJ.srt {Ls : List (List Nat)} (h : LtJ n rs n Ls) : (Ls.map lnD).Pairwise fun a b => dle a b = true := by
  rw [List.pairwise_map]
  refine h.asc.imp_of_mem fun {A B} hA hB q => ?_
  obtain ⟨s, hs, rfl⟩ := (h.mem A).mp hA
  obtain ⟨t, ht, rfl⟩ := (h.mem B).mp hB
  rw [(lotS_head hs).1, (lotS_head ht).1]
  exact dle_lst q
theorem CompL.lot {Ls : List (List Nat)} (h : CompL n rs Ls) {L : List Nat} (hL : L ∈ Ls) {x : Nat} (hx : x ∈ L) : L = lotS n rs x := by
  refine asc_eqN (h.pw L hL) lotS_pw fun t => ?_
  rw [lotS_mem]
  constructor
  · intro q
    have := h.lt L hL t q
    exact ⟨this, (h.mu L hL x hx t this).mp q⟩
  · rintro ⟨q1, q2⟩
    exact (h.mu L hL x hx t q1).mpr q2
theorem CompL.nd {Ls : List (List Nat)} (h : CompL n rs Ls) : Ls.Nodup := by
  refine h.dj.imp_of_mem fun {A B} hA hB q e => ?_
  obtain ⟨x, hx⟩ := List.exists_mem_of_ne_nil A (h.ne A hA)
  exact q x hx (e ▸ hx)
/-- a law's components are the program's -/
theorem comp_uniq {Ls Ms : List (List Nat)} (h : CompL n rs Ls) (hs : (Ls.map lnD).Pairwise fun a b => dle a b = true) (k : LtJ n rs n Ms) : Ls = Ms := by
  have hp : Ls.Perm Ms := (List.perm_ext_iff_of_nodup h.nd k.nd).mpr fun L => by
    rw [k.mem]
    constructor
    · intro hL
      obtain ⟨x, hx⟩ := List.exists_mem_of_ne_nil L (h.ne L hL)
      exact ⟨x, h.lt L hL x hx, h.lot hL hx⟩
    · rintro ⟨s, hs, rfl⟩
      obtain ⟨L, hL, hx⟩ := h.all s hs
      rw [← h.lot hL hx]
      exact hL
  have e : Ls.map lnD = Ms.map lnD := sorted_uniq (hp.map lnD) hs k.srt fun x hx y hy e => by
    obtain ⟨A, _, rfl⟩ := List.mem_map.mp hx
    obtain ⟨B, _, rfl⟩ := List.mem_map.mp hy
    rw [tk_ln e]
  have inj : ∀ {A B : List (List Nat)}, A.map lnD = B.map lnD → A = B := by
    intro A
    induction A with
    | nil => intro B q; cases B with
      | nil => rfl
      | cons b B => cases q
    | cons a A ih => intro B q; cases B with
      | nil => cases q
      | cons b B =>
        rw [List.map_cons, List.map_cons] at q
        injection q with q1 q2
        rw [ih q2, tk_ln (congrArg tk q1)]
  exact inj e
theorem CompL.permR {Ls : List (List Nat)} {ts : List Row} (p : ts.Perm rs) (h : CompL n ts Ls) : CompL n rs Ls := by
  have e : ∀ {x y : Nat}, MutS ts x y ↔ MutS rs x y := fun {x y} => and_congr (RchS.perm p) (RchS.perm p)
  exact ⟨h.ne, h.lt, h.pw, h.all, fun L hL x hx y hy => (h.mu L hL x hx y hy).trans e, h.dj⟩
theorem CompL.unnrm {Ls : List (List Nat)} (h : CompL n (rs.map (nrmR rs)) Ls) : CompL n rs Ls := ⟨h.ne, h.lt, h.pw, h.all, fun L hL x hx y hy => (h.mu L hL x hx y hy).trans muts_nrm, h.dj⟩
end LTJ
/-- the lists of a def's result -/
theorem dpN {Ls : List (List Nat)} {Q : Addr → List Addr → (Bz → (Addr → Prop) → Hp → Prop) → Prop} (ne : ∀ L ∈ Ls, L ≠ []) (nd : Ls.Nodup) (q : ∀ a as, as.length = Ls.length → Q a as (deepR a as (Ls.map fun L => L.map iD))) : DpOk (.lst (Ls.map fun L => .lst (L.map iD))) Q := by
  refine ⟨Ls.map fun L => L.map fun x : Nat => (x : Int), ?_, fun L hL => ?_, ?_, fun a as h => ?_⟩
  · rw [List.map_map]
    congr 1
    refine List.map_congr_left fun L _ => ?_
    show _ = D.lst _
    rw [List.map_map]
    rfl
  · obtain ⟨K, hK, rfl⟩ := List.mem_map.mp hL
    exact fun e => ne K hK (List.map_eq_nil_iff.mp e)
  · rw [List.Nodup, List.pairwise_map]
    refine nd.imp fun {A B} h e => h ?_
    have : ∀ {A B : List Nat}, (A.map fun x : Nat => (x : Int)) = B.map (fun x : Nat => (x : Int)) → A = B := by
      intro A
      induction A with
      | nil => intro B q; cases B with
        | nil => rfl
        | cons b B => cases q
      | cons a A ih => intro B q; cases B with
        | nil => cases q
        | cons b B =>
          rw [List.map_cons, List.map_cons] at q
          injection q with q1 q2
          rw [ih q2, show a = b by omega]
    exact this e
  · have := q a as (by rw [List.length_map] at h; exact h)
    rw [List.map_map]
    have e : (Ls.map fun L => L.map iD) = Ls.map ((fun L : List Int => L.map D.int) ∘ fun L : List Nat => L.map fun x : Nat => (x : Int)) := List.map_congr_left fun L _ => by
      show _ = (L.map _).map _
      rw [List.map_map]
      rfl
    rw [← e]
    exact this
theorem noI_ins {C : Addr} {ns : List Str} {vs : List D} : noI (.ins C ns vs) = noIL vs := by conv => lhs; unfold noI
theorem noI_dic {t lk : Bool} {ks vs : List D} : noI (.dic t lk ks vs) = noIL vs := by conv => lhs; unfold noI
theorem noI_lst {vs : List D} : noI (.lst vs) = (hdI vs && noIL vs) := by conv => lhs; unfold noI
theorem noIL_cons {d : D} {ds : List D} : noIL (d :: ds) = (noI d && noIL ds) := by conv => lhs; unfold noIL
theorem noIL_nil : noIL [] = true := rfl
theorem noI_aut {C : Addr} {al : List Nat} {n i : Nat} {rs : List Row} : noI (autD C al n i rs) = true := by
  unfold autD
  rw [noI_ins, noIL_cons, noIL_cons, noIL_cons, noIL_cons, noIL_nil, noI_dic]
  have h : noIL ((keysA al n).map (movA rs)) = true := noIL_map fun k _ => by
    unfold movA
    have ht : ∀ d ∈ sortD ((atA rs k).map pairD), ∃ r, d = pairD r := fun d hd => by
      obtain ⟨r, _, rfl⟩ := List.mem_map.mp (sortD_mem.mp hd)
      exact ⟨r, rfl⟩
    rw [noI_lst, Bool.and_eq_true]
    constructor
    · cases e : sortD ((atA rs k).map pairD) with
      | nil => rfl
      | cons d ds =>
        obtain ⟨r, rfl⟩ := ht d (by rw [e]; simp)
        rfl
    · refine noIL_iff.mpr fun d hd => ?_
      obtain ⟨r, rfl⟩ := ht d hd
      rfl
  rw [h]
  rfl
theorem LtJ.len {n : Nat} {rs : List Row} {m : Nat} {Ls : List (List Nat)} (h : LtJ n rs m Ls) : Ls.length ≤ m := by
  have := nd_le (A := Ls) (B := (List.range m).map (lotS n rs)) h.nd fun L h' => by
    obtain ⟨s, h1, h2⟩ := (h.mem L).mp h'
    exact List.mem_map.mpr ⟨s, List.mem_range.mpr h1, h2.symm⟩
  rwa [List.length_map, List.length_range] at this
theorem CompL.lenL {n : Nat} {rs : List Row} {Ls : List (List Nat)} (h : CompL n rs Ls) {L : List Nat} (hL : L ∈ Ls) : L.length ≤ n := nd_len ((h.pw L hL).imp fun {a b} q => by omega) fun x hx => h.lt L hL x hx
theorem lls_map {Ls : List (List Nat)} : (Ls.map fun L => L.map iD).map D.lst = Ls.map fun L => D.lst (L.map iD) := by
  rw [List.map_map]
  rfl
/-- a normal automaton is its own normal form -/
theorem nrm_twice {al : List Nat} {n i : Nat} {rs : List Row} (hg : GoodA al n i rs) : ((sortR ((sortR rs).map (nrmR rs))).map (nrmR ((sortR rs).map (nrmR rs)))).Perm ((sortR rs).map (nrmR rs)) := by
  classical
  obtain ⟨ts, hts⟩ : ∃ ts, ts = (sortR rs).map (nrmR rs) := ⟨_, rfl⟩
  rw [← hts]
  have e : (sortR ts).map (nrmR ts) = (sortR ts).map id := List.map_congr_left fun r hr => by
    have hr := (sortR_perm ts).mem_iff.mp hr
    rw [hts] at hr
    obtain ⟨q, hq, rfl⟩ := List.mem_map.mp hr
    have hq := (sortR_perm rs).mem_iff.mp hq
    show nrmR ts (nrmR rs q) = nrmR rs q
    unfold nrmR
    refine congrArg (Row.mk q.s q.l q.t) ?_
    show ((q.w && decide (RchS rs q.t q.s)) && decide (RchS ts q.t q.s)) = (q.w && decide (RchS rs q.t q.s))
    cases hw : q.w with
    | false => rfl
    | true =>
      by_cases c : RchS rs q.t q.s
      · have one : RchS rs q.s q.t := RchS.one (c := q.l) ⟨q, hq, rfl, rfl, rfl, fun _ => hw⟩
        have := nrm_back (sortR_perm rs) c one
        rw [← hts] at this
        rw [decide_eq_true c, decide_eq_true this]
        rfl
      · rw [decide_eq_false c]
        rfl
  rw [e, List.map_id]
  exact sortR_perm ts
def tf__law_lots : TDF := fun ds Q => ∃ (al : List Nat) (n : Nat) (i : Nat) (rs : List Row), ds = [specD al n rs i] ∧ (GoodA al n i rs) ∧ ∀ Ls, LtJ n rs n Ls → Q (.lst (Ls.map fun L => .lst (L.map iD)))
theorem ar__law_lots : ∀ ds Q, tf__law_lots ds Q → ds.length = 1 := by
  rintro ds Q ⟨_, _, _, _, rfl, _⟩
  rfl
theorem wC_ok (a : Bool) : okD (.str (wC a)) = true := by cases a <;> decide +kernel
theorem wC_deq (a b : Bool) : deqv (.str (wC a)) (.str (wC b)) = decide (a = b) := by
  cases a <;> cases b <;> decide +kernel
def tf__law_normal : TDF := fun ds Q => ∃ (al : List Nat) (n : Nat) (i : Nat) (rs : List Row), ds = [specD al n rs i] ∧ (GoodA al n i rs) ∧ Q (specD al n (rs.map (nrmR rs)) i)
theorem ar__law_normal : ∀ ds Q, tf__law_normal ds Q → ds.length = 1 := by
  rintro ds Q ⟨_, _, _, _, rfl, _⟩
  rfl
def Asc (s : List Nat) : Prop := ∀ c ∈ s, c < 128
theorem ascii_ok {s : List Nat} (h : Asc s) : okD (.str s) = true := by
  unfold okD
  rw [Bool.and_eq_true]
  refine ⟨?_, rfl⟩
  simp only [plainD, List.all_eq_true, decide_eq_true_eq]
  intro c hc
  have := h c hc
  omega
theorem LowS.asc {s : List Nat} (h : LowS s) : Asc s := fun c hc => by have := lowL_iff.mp (h c hc); omega
def valB (d : D) : Bool := (tyN d).isSome && decide (lenOk d) && okD d && plainD d && smD d && decide (dep d < 10)
theorem valB_of {d : D} (h : valB d = true) : (tyN d).isSome = true ∧ lenOk d ∧ okD d = true ∧ plainD d = true ∧ smD d = true ∧ dep d < 10 := by
  unfold valB at h
  simp only [Bool.and_eq_true, decide_eq_true_eq] at h
  obtain ⟨⟨⟨⟨⟨h1, h2⟩, h3⟩, h4⟩, h5⟩, h6⟩ := h
  exact ⟨h1, h2, h3, h4, h5, h6⟩
def Gv (n : Nat) (d : D) : Prop := plainD d = true ∧ smD d = true ∧ dep d < n
def GvL (n : Nat) : List D → Prop
  | [] => True
  | x :: xs => Gv n x ∧ GvL n xs
theorem GvL.all {n : Nat} : ∀ {xs : List D}, GvL (n + 1) xs → plainL xs = true ∧ smL xs = true ∧ depL xs < n + 1
  | [], _ => ⟨rfl, rfl, by simp [depL]⟩
  | x :: xs, h => by
    obtain ⟨⟨a, b, c⟩, r⟩ := h
    obtain ⟨a', b', c'⟩ := GvL.all r
    simp only [plainL, smL, depL, a, b, a', b', Bool.and_self, true_and]
    omega
theorem Gv.lst {n : Nat} {xs : List D} (h : GvL (n + 1) xs) (hl : xs.length ≤ 16777216 := by simp only [List.length_cons, List.length_nil]; omega) : Gv (n + 2) (.lst xs) := by
  obtain ⟨a, b, c⟩ := h.all
  refine ⟨a, ?_, by simp only [dep]; omega⟩
  simp only [smD, b, Bool.and_true]
  exact decide_eq_true hl
theorem Gv.tup {n : Nat} {xs : List D} (h : GvL (n + 1) xs) (hl : xs.length ≤ 16777216 := by simp only [List.length_cons, List.length_nil]; omega) : Gv (n + 2) (.tup xs) := by
  obtain ⟨a, b, c⟩ := h.all
  refine ⟨a, ?_, by simp only [dep]; omega⟩
  simp only [smD, b, Bool.and_true]
  exact decide_eq_true hl
theorem Gv.asc {n : Nat} {s : List Nat} (h : Asc s) : Gv (n + 1) (.str s) := ⟨okD.plain (ascii_ok h), rfl, by simp only [dep]; omega⟩
theorem Gv.of {n : Nat} {d : D} (h : valB d = true) (hn : 10 ≤ n) : Gv n d := by
  obtain ⟨_, _, _, a, b, c⟩ := valB_of h
  exact ⟨a, b, by omega⟩
theorem Gv.le {n m : Nat} {d : D} (h : Gv n d) (hl : n ≤ m) : Gv m d := ⟨h.1, h.2.1, Nat.lt_of_lt_of_le h.2.2 hl⟩
theorem GvL.map {n : Nat} {α : Type} {f : α → D} : ∀ {L : List α}, (∀ x ∈ L, Gv n (f x)) → GvL n (L.map f)
  | [], _ => trivial
  | x :: L, h => ⟨h x (by simp), GvL.map fun y hy => h y (by simp [hy])⟩
theorem Gv.int {n : Nat} {i : Int} : Gv (n + 1) (.int i) := ⟨rfl, rfl, by simp only [dep]; omega⟩
theorem rows_gv {al : List Nat} {n i : Nat} {rs : List Row} (hg : GoodA al n i rs) : GvL 60 (rs.map rowD) := GvL.map fun r hr => by
  have ll : Asc [r.l] := fun c hc => by rw [List.mem_singleton.mp hc]; exact (alpha_lowS hg.alp).asc _ (hg.let' r hr)
  have lw : Asc (wC r.w) := by cases r.w <;> (unfold Asc; decide)
  exact .tup (n := 58) ⟨.int, .asc ll, .int, .asc lw, trivial⟩
theorem auto_gv {al : List Nat} {n i : Nat} {rs : List Row} (hg : GoodA al n i rs) : Gv 65 (.lst [.str al, .int n, .int i, .lst (rs.map rowD)]) := by
  have h1 : Gv 64 (.lst (rs.map rowD)) := Gv.le (.lst (n := 59) (rows_gv hg) (by rw [List.length_map]; have := hg.len; omega)) (by decide)
  exact .lst (n := 63) ⟨.asc (alpha_lowS hg.alp).asc, .int, .int, h1, trivial⟩
theorem ints_gv {L : List Nat} : GvL 60 (L.map iD) := GvL.map fun _ _ => .int
def tf__law_is (a : Adr) : TDF := fun ds Q => ∃ (al : List Nat) (n : Nat) (i : Nat) (rs : List Row) (rs2 : List Row), ds = [autD a.C_Automaton al n i rs, specD al n rs2 i] ∧ (GoodA al n i rs ∧ rs2.Perm rs) ∧ Q (.bl true)
theorem ar__law_is {a : Adr} : ∀ ds Q, tf__law_is a ds Q → ds.length = 2 := by
  rintro ds Q ⟨_, _, _, _, _, rfl, _⟩
  rfl
def tf_law : TDF := fun ds Q => ds = [.non] ∧ False
def spLaw (K : PySem.W.Frag) : Sp := fun vs H Q _ => ∃ (s : Addr) (ns : List Int), vs = [.ref s] ∧ SqL K H s (ns.map V.int) ∧ ns.length ≤ 63 ∧ ∀ H', Q (.bl true) H'
theorem alpha_pos {al : List Nat} (ha : isAlphaD (.str al) = true) : 0 < al.length := by
  match al, ha with
  | _ :: _, _ => simp
local macro_rules | `(tactic| walk_at "go") => `(tactic| simp (maxSteps := 3000000) only [tf__law_draws, tf__law_pull, tf__law_any, tf_is_number, tf_is_word, tf_is_alphabet, tf__law_like, tf__law_alphabet, tf_is_transition, tf_Automaton___init__, tf_Automaton_check_state, tf_Automaton_check_letter, tf_Automaton_moves, tf_Automaton_targets, tf_Automaton_transitions, tf_Automaton___eq__, tf_finishing_order, tf_strong_parts, tf_safe_edges, tf_normal, tf_components, tf__law_mixed, tf__law_rows, tf__law_spec, tf__law_made, tf__law_steps, tf__law_goals, tf__law_reach, tf__law_lots, tf__law_normal, tf__law_is, tf_law, fn_alphabet_size, fn_alphabet_initial, fn_alphabet_own_moves, fn_size_alphabet, fn_size_initial, fn_size_own_moves, fn_initial_alphabet, fn_initial_size, fn_initial_own_moves, fn_own_moves_alphabet, fn_own_moves_size, fn_own_moves_initial, ati0, ati1, ati2, ati3, dLRg, dIndex, dFnX, dsRaise, dMethX, dMethKF, daCons, daNil, dsAppF, dOwn1, dMakeCp, dGet2R, dDispT, diEnumG, dFnKX, dProp, rIsBD, rNotBD, dsMul3, dsMulT3, set3, d3E, d3F, d3R, d3Nil, dDispN, dsNPut, dNIn, dNGet, dsRes, dDeep, dsDApp, dsFrzD, dsRetG, dFnG0, rSumD, dsSetI, dgLst, dsAsgP, dPop, dItemP, dsForP, dDisp1, dsDSetd, dFnB, dListV, dFnDp, daDeep, dsNil, dsSeq, dsDrop, dsRet, dsRetF, dsRetN, dsRetO, dsIf, dsSet, dsOwn, dsFrz, dsPar, dsMul, setK, dkE, dkF, dkNil, rLenSet, rSortD, rMaxD, dFnK, dsAug, augD, dsApp, dsAsg, dsFor, dsBreak, dsCont, dgName, dgTup, dgCons, dgNil, dVar, dPeek, dC, d1, d2, d3, dAnd, dOr, dNot, dTest, dTestB, truD, dtAnd, dtOr, dtNot, dIf, dLst, dTup, dCall, dFn, daCons, daNil, rAddD, rMulD, rMulF, rII, rEqDD, rNeDD, rOrdD, rInDD, rIxD, rSlD, dSl, dSlF, doSome, doNone, rLenD, rIntD, rMM, rAllD, rListD, rTupD, rStrI, rIsiD, rIsiLT, rNegD, dJoin, rJoinD, diSeq, diRng1, diRng2, diEnum, diZip, itemsD, dLc, lcF, dtsNil, dLc2, lcF2, Sl.dat, tyN, isNon, knownD, isIntD, isBoolD, isStrD, isListD, isTupD, isSeqD, List.getElem?_cons_succ, List.getElem?_cons_zero, List.set_cons_succ, List.set_cons_zero, List.cons_append, List.nil_append, List.append_nil, List.replicate_succ, List.replicate_zero, List.length_cons, List.length_nil, Nat.reduceAdd, Nat.reduceSub, Int.reduceToNat, Int.reducePow, wipeS, List.map_cons, List.map_nil, Option.bind_some, Option.some.injEq, D.int.injEq, D.bl.injEq, D.str.injEq, D.lst.injEq, D.tup.injEq, Sl.val.injEq, Sl.own.injEq, List.cons.injEq, and_true, true_and, ex_eq, exists_eq_left, exists_eq_left', exists_eq, exists_eq', and_assoc, exists_and_left, if_true, if_false, ite_true, ite_false, Bool.false_eq_true, Bool.not_true, Bool.not_false, reduceCtorEq, ↓reduceIte, Option.isSome_some, Option.isSome_none, false_and, and_false, exists_false, D.ins.injEq, D.raw.injEq, V.ref.injEq, eq_self, dFld, dsFld, dMeth, dOp2, dRadd, dGet, dEqI, rIsiC, rIsiX, dFmt, dFmtR, dJoined, dJs, dOwn1, rStrO, rLenO, rReprS, rListS, dSS, rSS, dEqX, dNeX, okOther, dsDput, dGetR, dInR, dsFrzL, dLk, diKeys, dDc, dcF, dDc2, dcF2, dsIns, rEqDic, rLenDic, D.dic.injEq, id, getF, putN, putV, permL_cons, permL_nil, Option.toList_some, iteAnd, iteOr, wpFor, wpMap])
theorem ok__law_any (T : Txt K mg a) : FnOk P w K mg base CX0 2 a.f__law_any a.fd__law_any ["_law_bag", "_law_rows_here"] (spE 2 tf__law_any) := by
  refine ok_E T.F__law_any sc__law_any rfl (fun cdv A outer s H E hr => ⟨_, (ds_one (ds_ret (de_item (dp_var (pv 1)) (PE.toP (de_fn (ok__law_pull T) (hr.mono (by first | decide | omega)) T.g__law_pull (k__law_pull T) (b0__law_pull T) (fun _ _ _ => .nil) (da_cons (de_var (pv 0)) (da_cons (de_len T.n_len (dap_cons (dp_var (pv 1)) dap_nil)) da_nil)) ar__law_pull))))), fun ds Qd hd h => ?_⟩)
  obtain ⟨r, rs, rfl, h⟩ := h
  simp only [List.map_cons, List.map_nil]
  obtain ⟨e1, e2, e3, q⟩ := h
  cases r <;> simp only [itemsD, reduceCtorEq, Option.some.injEq] at e1 <;> subst e1 <;> walk_at "go"
  · rename_i s
    simp only [List.length_map] at e2 e3
    have hs : s.length ≤ sizeLine := by show s.length ≤ 16777216; omega
    refine ⟨hs, by omega, by omega, fun n h0 h1 => ⟨hs, ?_⟩⟩
    obtain ⟨d, hd⟩ := atI_some (xs := s) h0 (by omega)
    exact ⟨d, hd, q _ (List.mem_map.mpr ⟨d, atI_mem hd, rfl⟩)⟩
  all_goals
    rename_i s
    refine ⟨by omega, by omega, fun n h0 h1 => ?_⟩
    obtain ⟨d, hd⟩ := atI_some (xs := s) h0 (by omega)
    exact ⟨d, hd, q d (atI_mem hd)⟩
theorem ok_is_word (T : Txt K mg a) : FnOk P w K mg base CX0 1 a.f_is_word a.fd_is_word ["value", "most"] (spE 2 tf_is_word) := by
  refine ok_E T.F_is_word sc_is_word rfl (fun cdv A outer s H E hr => ⟨_, (ds_one (ds_ret (de_and (PE.toP (de_isi tab_str T.n_isinstance (dap_cons (dp_var (pv 0)) (dap_cons (PE.toP (de_ty (T := "str") T.n_str (by decide +kernel))) dap_nil)))) (de_and (PE.toP (de_le (PE.toP (de_len T.n_len (dap_cons (dp_var (pv 0)) dap_nil))) (dp_var (pv 1)))) (de_one (de_all T.n_all (dap_cons (PE.toP (PE.toE (df_lc (own := [("letter", 2)]) (di_seq (de_var (pv 0))) sc_is_word.nd (blkOk_by (own := [("letter", 2)]) (N := N_is_word) (sc := defScope s_is_word) (by decide +kernel)) (fun _ _ _ _ _ => (dg_name (i := 2) sc_is_word.nd rfl (Or.inl rfl))) (fun _ _ _ _ _ => dts_nil) (fun _ _ _ _ _ => (de_in (u65 hr) (dp_var (pv 2)) (PE.toP (de_gstr T.c_LETTERS))))))) dap_nil))))))), fun ds Qd hd h => ?_⟩)
  obtain ⟨d, m, rfl, h⟩ := h
  simp only [List.map_cons, List.map_nil]
  obtain ⟨⟨h1, h2⟩, h⟩ := h
  cases d <;> (try cases h1) <;> walk_at "go" <;> first | exact h | skip
  rename_i s
  refine ⟨h2, ?_⟩
  simp only [letters_eq]
  by_cases c : (s.length : Int) ≤ m
  · rw [if_pos (decide_eq_true c)]
    refine ⟨by simpa [lenOk] using h2, wpMap_map (fun d => .bl (match d with | .str x => inStr x abcL | _ => false)) (fun d hd k q => ?_) ⟨s.map lowL, ?_, ?_⟩⟩
    · obtain ⟨e, _, rfl⟩ := List.mem_map.mp hd
      exact q
    · rw [List.map_map]
      exact bools_map lowL s
    · simp only [isWordD, decide_eq_true c, Bool.true_and] at h
      rw [List.all_map]
      exact h
  · rw [if_neg (by simp; omega)]
    simpa only [isWordD, decide_eq_false c, Bool.false_and] using h
theorem ok_is_alphabet (T : Txt K mg a) : FnOk P w K mg base CX0 2 a.f_is_alphabet a.fd_is_alphabet ["value"] (spE 1 tf_is_alphabet) := by
  refine ok_E T.F_is_alphabet sc_is_alphabet rfl (fun cdv A outer s H E hr => ⟨_, (ds_cons (ds_if (PW.pt (dt_or (dt_not (dt_val (PE.toP (de_isi tab_str T.n_isinstance (dap_cons (dp_var (pv 0)) (dap_cons (PE.toP (de_ty (T := "str") T.n_str (by decide +kernel))) dap_nil)))))) (dt_or1 (dt_not (dt_lele (PE.toP (de_int)) (PE.toP (de_len T.n_len (dap_cons (dp_var (pv 0)) dap_nil))) (PE.toP (de_int))))))) (ds_one (ds_ret (de_bl))) ds_nil)
      (ds_one (ds_ret (de_and (PE.toP (de_fn (ok_is_word T) (hr.mono (by first | decide | omega)) T.g_is_word (k_is_word T) (b1_is_word T) (fun _ _ _ => (.cons (.int _) .nil)) (da_cons (de_var (pv 0)) da_nil) ar_is_word)) (de_one (de_all T.n_all (dap_cons (PE.toP (PE.toE (df_lc (own := [("at", 1)]) (di_range2 T.n_range (dap_cons (PE.toP (de_int)) (dap_cons (PE.toP (de_len T.n_len (dap_cons (dp_var (pv 0)) dap_nil))) dap_nil))) sc_is_alphabet.nd (blkOk_by (own := [("at", 1)]) (N := N_is_alphabet) (sc := defScope s_is_alphabet) (by decide +kernel)) (fun _ _ _ _ _ => (dg_name (i := 1) sc_is_alphabet.nd rfl (Or.inl rfl))) (fun _ _ _ _ _ => dts_nil) (fun _ _ _ _ _ => (de_lt (PE.toP (de_item (dp_var (pv 0)) (PE.toP (de_sub (dp_var (pv 1)) (PE.toP (de_int)))))) (PE.toP (de_item (dp_var (pv 0)) (dp_var (pv 1))))))))) dap_nil))))))), fun ds Qd hd h => ?_⟩)
  obtain ⟨d, rfl, h⟩ := h
  simp only [List.map_cons, List.map_nil]
  obtain ⟨⟨h1, h2⟩, h⟩ := h
  cases d <;> (try cases h1) <;> walk_at "go" <;> first | exact h | skip
  rename_i s
  refine ⟨h2, ?_⟩
  match s, h2, h with
  | [], _, h => exact h
  | [x], h2, h =>
    simp only [isAlphaD] at h
    simp only [isWordD]
    cases e : lowL x
    · simp [e, lenOk, sizeLine] at h ⊢
      exact h
    · simp [e, lenOk, sizeLine] at h ⊢
      exact ⟨[], rfl, h⟩
  | [x, y], h2, h =>
    simp only [isAlphaD] at h
    simp only [isWordD]
    cases e : lowL x <;> cases e2 : lowL y
    case true.true =>
      simp [e, e2, lenOk, sizeLine] at h ⊢
      exact ⟨by show 2 ≤ 16777216; decide, x, rfl, by show 2 ≤ 16777216; decide, y, rfl, [decide ([x] < [y])], rfl, by rw [lt1]; simpa using h⟩
    all_goals
      simp [e, e2, lenOk, sizeLine] at h ⊢
      exact h
  | [x, y, z], h2, h =>
    simp only [isAlphaD] at h
    simp only [isWordD]
    cases e : lowL x <;> cases e2 : lowL y <;> cases e3 : lowL z
    case true.true.true =>
      simp [e, e2, e3, lenOk, sizeLine] at h ⊢
      exact ⟨by show 3 ≤ 16777216; decide, x, rfl, by show 3 ≤ 16777216; decide, y, rfl, by show 3 ≤ 16777216; decide, y, rfl, by show 3 ≤ 16777216; decide, z, rfl, [decide ([x] < [y]), decide ([y] < [z])], rfl, by rw [lt1, lt1]; simpa using h⟩
    all_goals
      simp [e, e2, e3, lenOk, sizeLine] at h ⊢
      exact h
  | x :: y :: z :: u :: r, h2, h =>
    simp only [isAlphaD] at h
    rw [if_pos (by simp; omega), if_pos (by simp; omega)]
    exact h
theorem okL (T : Txt K mg a) : ∀ n, FnOk P w K mg base CX0 n a.f__law_like a.fd__law_like ["_law_a", "_law_b"] (spE 2 (tL n))
  | 0 => ⟨fun vs H Q E h => h.1, fun A outer s H args us vs Q E _ _ _ _ h => by
      obtain ⟨_, _, _, _, _, _, _, ⟨_, _, ⟨_, _, hd⟩, _⟩, _⟩ := h
      exact absurd hd (Nat.not_lt_zero _)⟩
  | n + 1 => by
    have ih := okL T n
    refine ok_E T.F__law_like sc__law_like rfl (fun cdv A outer s H E hr => ⟨_, (ds_cons (ds_if (dt_val (PE.toP (de_isiLT T.n_isinstance (dap_cons (dp_var (pv 1)) (dap_cons (PE.toP (de_tup (da_cons (de_ty (T := "list") T.n_list (by decide +kernel)) (da_cons (de_ty (T := "tuple") T.n_tuple (by decide +kernel)) da_nil)))) dap_nil))))) (ds_cons (ds_set (i := 2) sc__law_like.nd rfl (Or.inl rfl) (de_and (PE.toP (de_eq hr.units (PE.toP (de_isi tab_list T.n_isinstance (dap_cons (dp_var (pv 0)) (dap_cons (PE.toP (de_ty (T := "list") T.n_list (by decide +kernel))) dap_nil)))) (PE.toP (de_isi tab_list T.n_isinstance (dap_cons (dp_var (pv 1)) (dap_cons (PE.toP (de_ty (T := "list") T.n_list (by decide +kernel))) dap_nil)))))) (de_one (de_eq hr.units (PE.toP (de_isi tab_tup T.n_isinstance (dap_cons (dp_var (pv 0)) (dap_cons (PE.toP (de_ty (T := "tuple") T.n_tuple (by decide +kernel))) dap_nil)))) (PE.toP (de_isi tab_tup T.n_isinstance (dap_cons (dp_var (pv 1)) (dap_cons (PE.toP (de_ty (T := "tuple") T.n_tuple (by decide +kernel))) dap_nil))))))))
      (ds_one (ds_ret (de_and (dp_var (pv 2)) (de_and (PE.toP (de_eq hr.units (PE.toP (de_len T.n_len (dap_cons (dp_var (pv 0)) dap_nil))) (PE.toP (de_len T.n_len (dap_cons (dp_var (pv 1)) dap_nil))))) (de_one (de_all T.n_all (dap_cons (PE.toP (PE.toE (df_lc (own := [("_law_c", 3), ("_law_d", 4)]) (di_zip T.n_zip (da_cons (de_var (pv 0)) (da_cons (de_var (pv 1)) da_nil))) sc__law_like.nd (blkOk_by (own := [("_law_c", 3), ("_law_d", 4)]) (N := N__law_like) (sc := defScope s__law_like) (by decide +kernel)) (fun _ _ _ _ _ => (dg_tup (n := 2) (dgs_cons (dg_name (i := 3) sc__law_like.nd rfl (Or.inl rfl)) (dgs_cons (dg_name (i := 4) sc__law_like.nd rfl (Or.inl rfl)) dgs_nil)))) (fun _ _ _ _ _ => dts_nil) (fun _ _ _ _ _ => (de_fn ih (hr.mono (by first | decide | omega)) T.g__law_like (k__law_like T) (b0__law_like T) (fun _ _ _ => .nil) (da_cons (de_var (pv 3)) (da_cons (de_var (pv 4)) da_nil)) (ar_tL n)))))) dap_nil)))))))) ds_nil)
      (ds_cons (ds_if (PW.pt (dt_or (dt_isN (dp_var (pv 0))) (dt_or (dt_isN (dp_var (pv 1))) (dt_or1 (dt_ne hr.units (PE.toP (de_isi tab_bool T.n_isinstance (dap_cons (dp_var (pv 0)) (dap_cons (PE.toP (de_ty (T := "bool") T.n_bool (by decide +kernel))) dap_nil)))) (PE.toP (de_isi tab_bool T.n_isinstance (dap_cons (dp_var (pv 1)) (dap_cons (PE.toP (de_ty (T := "bool") T.n_bool (by decide +kernel))) dap_nil))))))))) (ds_one (ds_ret (de_and (PE.toP (de_isN (dp_var (pv 0)))) (de_one (de_isN (dp_var (pv 1))))))) ds_nil)
      (ds_one (ds_ret (de_and (PE.toP (de_eq hr.units (PE.toP (de_isi tab_int T.n_isinstance (dap_cons (dp_var (pv 0)) (dap_cons (PE.toP (de_ty (T := "int") T.n_int (by decide +kernel))) dap_nil)))) (PE.toP (de_isi tab_int T.n_isinstance (dap_cons (dp_var (pv 1)) (dap_cons (PE.toP (de_ty (T := "int") T.n_int (by decide +kernel))) dap_nil)))))) (de_and (PE.toP (de_eq hr.units (PE.toP (de_isi tab_str T.n_isinstance (dap_cons (dp_var (pv 0)) (dap_cons (PE.toP (de_ty (T := "str") T.n_str (by decide +kernel))) dap_nil)))) (PE.toP (de_isi tab_str T.n_isinstance (dap_cons (dp_var (pv 1)) (dap_cons (PE.toP (de_ty (T := "str") T.n_str (by decide +kernel))) dap_nil)))))) (de_one (de_eq hr.units (dp_var (pv 0)) (dp_var (pv 1)))))))))), fun ds Qd hd h => ?_⟩)
    obtain ⟨d, rfl, ⟨h1, h3, h2⟩, h⟩ := h
    have h2s : 2 ≤ sizeLine := by decide
    have hpt : plainD (.bl true) = true := rfl
    have hpf : plainD (.bl false) = true := rfl
    simp only [List.map_cons, List.map_nil]
    have hok : ∀ b : Bool, okD (.bl b) = true := fun b => by cases b <;> rfl
    have hoi : ∀ i : Int, okD (.int i) = true := fun i => rfl
    have htt : deqv (.bl true) (.bl true) = true := rfl
    have hff : deqv (.bl false) (.bl false) = true := rfl
    cases d <;> (try (simp [plainD] at h1; done)) <;> walk_at "go"
    case non => exact ⟨h2s, h⟩
    case bl b => simp [hok, htt, hff, deqv_refl, h, h2s, hpt, hpf, isIntD, isStrD, isBoolD]
    case int i => simp [hok, htt, hff, deqv_refl, h, h2s, hpt, hpf, isIntD, isStrD, isBoolD, hoi]
    case str i => simp [hok, htt, hff, deqv_refl, h, h2s, hpt, hpf, isIntD, isStrD, isBoolD, okD, h1, dep]
    all_goals
      rename_i xs
      simp only [dep] at h2
      simp only [plainD] at h1
      simp only [hok, hoi, htt, hff, deqv_refl, true_and, if_true]
      simp only [smD, Bool.and_eq_true, decide_eq_true_eq] at h3
      refine ⟨h2s, xs, xs, by simp, by rw [zipD_self, List.length_map]; exact h3.1, ?_⟩
      rw [zipD_self]
      refine wpMap_map (fun _ => .bl true) (fun d hd k q => ?_) ⟨List.replicate xs.length true, ?_, ?_⟩
      · obtain ⟨e, he, rfl⟩ := List.mem_map.mp hd
        exact ⟨_, rfl, rfl, _, _, rfl, _, _, rfl, rfl, e, rfl, ⟨plainL_mem h1 he, smL_mem h3.2 he, by have := depL_mem he; omega⟩, q⟩
      · rw [List.map_const', List.length_map]
        exact bools_ones _
      · simpa using h
theorem ok__law_alphabet (T : Txt K mg a) : FnOk P w K mg base CX0 3 a.f__law_alphabet a.fd__law_alphabet ["_law_bag", "_law_most"] (spE 2 tf__law_alphabet) := by
  refine ok_E T.F__law_alphabet sc__law_alphabet rfl (fun cdv A outer s H E hr => ⟨_, (ds_cons (ds_set (i := 2) sc__law_alphabet.nd rfl (Or.inr rfl) (de_str))
      (ds_cons (ds_set (i := 3) sc__law_alphabet.nd rfl (Or.inl rfl) (de_min2 T.n_min (dap_cons (dp_var (pv 1)) (dap_cons (PE.toP (de_fn (ok__law_any T) (hr.mono (by first | decide | omega)) T.g__law_any (k__law_any T) (b0__law_any T) (fun _ _ _ => .nil) (da_cons (de_var (pv 0)) (da_cons (PE.toE (df_lst (da_cons (de_int) (da_cons (de_int) (da_cons (de_int) (da_cons (de_int) (da_cons (de_int) (da_cons (de_int) da_nil)))))))) da_nil)) ar__law_any)) dap_nil))))
      (ds_cons (ds_set (i := 4) sc__law_alphabet.nd rfl (Or.inl rfl) (de_fn (ok__law_pull T) (hr.mono (by first | decide | omega)) T.g__law_pull (k__law_pull T) (b0__law_pull T) (fun _ _ _ => .nil) (da_cons (de_var (pv 0)) (da_cons (de_int) da_nil)) ar__law_pull))
      (ds_cons (ds_set (i := 5) sc__law_alphabet.nd rfl (Or.inl rfl) (de_add (PE.toP (de_add (dp_var (pv 4)) (PE.toP (de_int)))) (PE.toP (de_fn (ok__law_pull T) (hr.mono (by first | decide | omega)) T.g__law_pull (k__law_pull T) (b0__law_pull T) (fun _ _ _ => .nil) (da_cons (de_var (pv 0)) (da_cons (de_int) da_nil)) ar__law_pull))))
      (ds_one (ds_ret (de_join (PE.toP (de_str)) (PE.toP (PE.toE (df_lc (own := [("_law_at", 6)]) (di_seq (de_slice (PE.toP (PE.toE (df_lst (da_cons (de_var (pv 4)) (da_cons (de_var (pv 5)) (da_cons (de_add (PE.toP (de_add (dp_var (pv 5)) (PE.toP (de_int)))) (PE.toP (de_fn (ok__law_pull T) (hr.mono (by first | decide | omega)) T.g__law_pull (k__law_pull T) (b0__law_pull T) (fun _ _ _ => .nil) (da_cons (de_var (pv 0)) (da_cons (de_int) da_nil)) ar__law_pull))) da_nil)))))) do_none (do_some (dp_var (pv 3))))) sc__law_alphabet.nd (blkOk_by (own := [("_law_at", 6)]) (N := N__law_alphabet) (sc := defScope s__law_alphabet) (by decide +kernel)) (fun _ _ _ _ _ => (dg_name (i := 6) sc__law_alphabet.nd rfl (Or.inl rfl))) (fun _ _ _ _ _ => dts_nil) (fun _ _ _ _ _ => (de_item (dp_var (pv 2)) (dp_var (pv 6)))))))))))))), fun ds Qd hd h => ?_⟩)
  obtain ⟨m, rfl, h⟩ := h
  simp only [List.map_cons, List.map_nil]
  obtain ⟨⟨h1, h2⟩, h⟩ := h
  walk_at "go"
  refine ⟨by decide, by decide, by decide, fun d hd => ?_⟩
  obtain ⟨i, rfl, hi1, hi2⟩ : ∃ i : Int, d = .int i ∧ 1 ≤ i ∧ i ≤ 3 := by
    simp only [List.mem_cons, List.not_mem_nil, or_false] at hd
    rcases hd with rfl | rfl | rfl | rfl | rfl | rfl
    all_goals exact ⟨_, rfl, by decide, by decide⟩
  refine ⟨by decide, by decide, fun n h0 h3 => ⟨by decide, by decide, fun n1 h4 h5 => ⟨by decide, by decide, fun n2 h6 h7 => ⟨by decide, _, rfl, ?_⟩⟩⟩⟩
  have hm : (if i < m then i else m) ≤ m := by split <;> omega
  have hm1 : 1 ≤ (if i < m then i else m) := by split <;> omega
  generalize (if i < m then i else m) = many at hm hm1
  rw [letters_eq, empty_eq]
  have hL : abcL.length ≤ sizeLine := by decide
  have a1 := atI_abc (n := n) (by omega) (by omega)
  have a2 := atI_abc (n := n + 1 + n1) (by omega) (by omega)
  have a3 := atI_abc (n := n + 1 + n1 + 1 + n2) (by omega) (by omega)
  obtain e | e | e : many = 1 ∨ many = 2 ∨ many = 3 := by omega
  · subst e
    rw [show ∀ a b c : D, cut [a, b, c] none (some 1) = [a] from fun _ _ _ => rfl]
    refine ⟨by show 1 ≤ 16777216; decide, hL, _, a1, _, rfl, by show 1 ≤ 16777216; decide, h _ ?_ (by simpa [joinL] using hm)⟩
    simp [isAlphaD, joinL, lowL_iff]
    omega
  · subst e
    rw [show ∀ a b c : D, cut [a, b, c] none (some 2) = [a, b] from fun _ _ _ => rfl]
    refine ⟨by show 2 ≤ 16777216; decide, hL, _, a1, hL, _, a2, _, rfl, by show 2 ≤ 16777216; decide, h _ ?_ (by simpa [joinL] using hm)⟩
    simp [isAlphaD, joinL, lowL_iff]
    omega
  · subst e
    rw [show ∀ a b c : D, cut [a, b, c] none (some 3) = [a, b, c] from fun _ _ _ => rfl]
    refine ⟨by show 3 ≤ 16777216; decide, hL, _, a1, hL, _, a2, hL, _, a3, _, rfl, by show 3 ≤ 16777216; decide, h _ ?_ (by simpa [joinL] using hm)⟩
    simp [isAlphaD, joinL, lowL_iff]
    omega
theorem ok_is_transition (T : Txt K mg a) : FnOk P w K mg base CX0 2 a.f_is_transition a.fd_is_transition ["value", "alphabet", "size"] (spE 3 tf_is_transition) := by
  refine ok_E T.F_is_transition sc_is_transition rfl (fun cdv A outer s H E hr => ⟨_, (ds_cons (ds_if (PW.pt (dt_or (dt_not (dt_val (PE.toP (de_isi tab_tup T.n_isinstance (dap_cons (dp_var (pv 0)) (dap_cons (PE.toP (de_ty (T := "tuple") T.n_tuple (by decide +kernel))) dap_nil)))))) (dt_or1 (dt_ne hr.units (PE.toP (de_len T.n_len (dap_cons (dp_var (pv 0)) dap_nil))) (PE.toP (de_int)))))) (ds_one (ds_ret (de_bl))) ds_nil)
      (ds_cons (ds_asg (de_var (pv 0)) (dg_tup (n := 4) (dgs_cons (dg_name (i := 3) sc_is_transition.nd rfl (Or.inl rfl)) (dgs_cons (dg_name (i := 4) sc_is_transition.nd rfl (Or.inl rfl)) (dgs_cons (dg_name (i := 5) sc_is_transition.nd rfl (Or.inl rfl)) (dgs_cons (dg_name (i := 6) sc_is_transition.nd rfl (Or.inl rfl)) dgs_nil))))))
      (ds_cons (ds_if (PW.pt (dt_or (dt_not (dt_val (PE.toP (de_isi tab_str T.n_isinstance (dap_cons (dp_var (pv 4)) (dap_cons (PE.toP (de_ty (T := "str") T.n_str (by decide +kernel))) dap_nil)))))) (dt_or (dt_ne hr.units (PE.toP (de_len T.n_len (dap_cons (dp_var (pv 4)) dap_nil))) (PE.toP (de_int))) (dt_or1 (dt_notIn (u65 hr) (dp_var (pv 4)) (dp_var (pv 1))))))) (ds_one (ds_ret (de_bl))) ds_nil)
      (ds_cons (ds_if (PW.pt (dt_or (dt_not (dt_val (PE.toP (de_isi tab_str T.n_isinstance (dap_cons (dp_var (pv 6)) (dap_cons (PE.toP (de_ty (T := "str") T.n_str (by decide +kernel))) dap_nil)))))) (dt_or1 (dt_notIn (u65 hr) (dp_var (pv 6)) (PE.toP (de_tup (da_cons (de_gstr T.c_SAFE) (da_cons (de_gstr T.c_SLIP) da_nil)))))))) (ds_one (ds_ret (de_bl))) ds_nil)
      (ds_one (ds_ret (de_and (PE.toP (de_fn (ok_is_number T) (hr.mono (by first | decide | omega)) T.g_is_number (k_is_number T) (b0_is_number T) (fun _ _ _ => .nil) (da_cons (de_var (pv 3)) (da_cons (de_int) (da_cons (de_sub (dp_var (pv 2)) (PE.toP (de_int))) da_nil))) ar_is_number)) (de_one (de_fn (ok_is_number T) (hr.mono (by first | decide | omega)) T.g_is_number (k_is_number T) (b0_is_number T) (fun _ _ _ => .nil) (da_cons (de_var (pv 5)) (da_cons (de_int) (da_cons (de_sub (dp_var (pv 2)) (PE.toP (de_int))) da_nil))) ar_is_number))))))))), fun ds Qd hd h => ?_⟩)
  obtain ⟨r, al, n, rfl, h⟩ := h
  simp only [List.map_cons, List.map_nil]
  obtain ⟨⟨h1, h2, h3, h4, h5, h6⟩, h⟩ := h
  unfold rowD
  have hL : al.length ≤ sizeLine := by show _ ≤ 16777216; omega
  refine seq_cut fun R hR => ?_
  walk_at "go"
  refine ⟨by decide, by decide, ?_⟩
  rw [if_neg (by decide)]
  subst hR
  refine seq_cut fun R hR => ?_
  walk_at "go"
  subst hR
  refine seq_cut fun R hR => ?_
  walk_at "go"
  refine ⟨by decide, by decide, by decide, ?_⟩
  rw [if_neg (by decide), inStr_mem, if_neg (by simp [h4])]
  subst hR
  refine seq_cut fun R hR => ?_
  walk_at "go"
  refine ⟨by decide, by cases r.w <;> decide, by decide +kernel, ?_⟩
  rw [safe_eq, slip_eq, if_neg (by cases r.w <;> decide)]
  subst hR
  walk_at "go"
  have e1 : isNumD (D.int r.s) 0 ((n : Int) - 1) = true := by simp only [isNumD, Bool.and_eq_true, decide_eq_true_eq]; omega
  have e2 : isNumD (D.int r.t) 0 ((n : Int) - 1) = true := by simp only [isNumD, Bool.and_eq_true, decide_eq_true_eq]; omega
  rw [e1, e2]
  exact h
theorem ok_Automaton___init__ (T : Txt K mg a) : FnOk P w K mg base CX0 3 a.f_Automaton___init__ a.fd_Automaton___init__ ["self", "alphabet", "size", "transitions", "initial"] (spI a.C_Automaton 4 (tf_Automaton___init__ a)) := by
  refine ok_I T.F_Automaton___init__ sc_Automaton___init__ rfl (fun cdv A outer s H E hr => ⟨_, (ds_cons (ds_if (dt_not (dt_val (PE.toP (de_fn (ok_is_alphabet T) (hr.mono (by first | decide | omega)) T.g_is_alphabet (k_is_alphabet T) (b0_is_alphabet T) (fun _ _ _ => .nil) (da_cons (de_var (pv 1)) da_nil) ar_is_alphabet)))) (ds_one ds_never) ds_nil)
      (ds_cons (ds_if (dt_not (dt_val (PE.toP (de_fn (ok_is_number T) (hr.mono (by first | decide | omega)) T.g_is_number (k_is_number T) (b0_is_number T) (fun _ _ _ => .nil) (da_cons (de_var (pv 2)) (da_cons (de_int) (da_cons (de_gint T.c_MOST_STATES) da_nil))) ar_is_number)))) (ds_one ds_never) ds_nil)
      (ds_cons (ds_if (dt_not (dt_val (PE.toP (de_isiLT T.n_isinstance (dap_cons (dp_var (pv 3)) (dap_cons (PE.toP (de_tup (da_cons (de_ty (T := "list") T.n_list (by decide +kernel)) (da_cons (de_ty (T := "tuple") T.n_tuple (by decide +kernel)) da_nil)))) dap_nil)))))) (ds_one ds_never) ds_nil)
      (ds_cons (ds_own (i := 7) sc_Automaton___init__.nd rfl (Or.inr rfl) (df_dc2 (own := [("state", 5), ("letter", 6)]) (vs1 := [6]) (u1 hr) true (di_range1 T.n_range (dap_cons (dp_var (pv 2)) dap_nil)) sc_Automaton___init__.nd (blkOk_by (own := [("state", 5), ("letter", 6)]) (N := N_Automaton___init__) (sc := defScope s_Automaton___init__) (by decide +kernel)) (by decide) (fun _ _ _ _ _ => (dg_name (i := 5) sc_Automaton___init__.nd rfl (Or.inl rfl))) (fun _ _ _ _ _ => dts_nil) (di1_seq (fun _ _ _ _ _ => (de_var (pv 1)))) (fun _ _ _ _ _ => (dg_name (i := 6) sc_Automaton___init__.nd rfl (Or.inl rfl))) (fun _ _ _ _ _ => dts_nil) (fun _ _ _ _ _ => (de_tup (da_cons (de_var (pv 5)) (da_cons (de_var (pv 6)) da_nil)))) (fun _ _ _ _ _ => (PE.toE (df_lst da_nil)))))
      (ds_cons (ds_own (i := 8) sc_Automaton___init__.nd rfl (Or.inl rfl) df_dnewT)
      (ds_cons (ds_for (di_enum T.n_enumerate (da_cons (de_var (pv 3)) da_nil)) (dg_tup (n := 2) (dgs_cons (dg_name (i := 9) sc_Automaton___init__.nd rfl (Or.inl rfl)) (dgs_cons (dg_name (i := 10) sc_Automaton___init__.nd rfl (Or.inl rfl)) dgs_nil))) (ds_cons (ds_if (PW.pt (dt_or (dt_not (dt_val (PE.toP (de_fn (ok_is_transition T) (hr.mono (by first | decide | omega)) T.g_is_transition (k_is_transition T) (b0_is_transition T) (fun _ _ _ => .nil) (da_cons (de_var (pv 10)) (da_cons (de_var (pv 1)) (da_cons (de_var (pv 2)) da_nil))) ar_is_transition)))) (dt_or1 (dt_din (u65 hr) (PE.toP (de_slice (dp_var (pv 10)) do_none (do_some (PE.toP (de_int))))) (dp_var (pv 8)))))) (ds_one ds_never) ds_nil)
      (ds_cons (ds_dput (u65 hr) (pv 8) (PE.toP (de_slice (dp_var (pv 10)) do_none (do_some (PE.toP (de_int))))) (de_bl))
      (ds_one (ds_dput (u65 hr) (pv 7) (PE.toP (de_slice (dp_var (pv 10)) do_none (do_some (PE.toP (de_int))))) (de_add (PE.toP (de_dget (u65 hr) (dp_var (pv 7)) (PE.toP (de_slice (dp_var (pv 10)) do_none (do_some (PE.toP (de_int))))))) (PE.toP (PE.toE (df_lst (da_cons (de_slice (dp_var (pv 10)) (do_some (PE.toP (de_int))) do_none) da_nil))))))))))
      (ds_cons (ds_if (dt_not (dt_val (PE.toP (de_fn (ok_is_number T) (hr.mono (by first | decide | omega)) T.g_is_number (k_is_number T) (b0_is_number T) (fun _ _ _ => .nil) (da_cons (de_var (pv 4)) (da_cons (de_int) (da_cons (de_sub (dp_var (pv 2)) (PE.toP (de_int))) da_nil))) ar_is_number)))) (ds_one ds_never) ds_nil)
      (ds_frzL 7 (ds_cons (ds_for (di_keys (de_var (pv 7))) (dg_tup (n := 2) (dgs_cons (dg_name (i := 5) sc_Automaton___init__.nd rfl (Or.inl rfl)) (dgs_cons (dg_name (i := 6) sc_Automaton___init__.nd rfl (Or.inl rfl)) dgs_nil))) (ds_one (ds_if (dt_eq hr.units (PE.toP (de_dget (u65 hr) (dp_var (pv 7)) (PE.toP (de_tup (da_cons (de_var (pv 5)) (da_cons (de_var (pv 6)) da_nil)))))) (PE.toP (PE.toE (df_lst da_nil)))) (ds_one ds_never) ds_nil)))
      (ds_cons (ds_fld (pv 0) (de_var (pv 1)) T.cl_Automaton T.no_Automaton_alphabet)
      (ds_cons (ds_fld (pv 0) (de_var (pv 2)) T.cl_Automaton T.no_Automaton_size)
      (ds_cons (ds_fld (pv 0) (de_var (pv 4)) T.cl_Automaton T.no_Automaton_initial)
      (ds_one (ds_fld (pv 0) (PE.lockF (df_dc (own := [("key", 11)]) (u1 hr) true (di_keys (de_var (pv 7))) sc_Automaton___init__.nd (blkOk_by (own := [("key", 11)]) (N := N_Automaton___init__) (sc := defScope s_Automaton___init__) (by decide +kernel)) (fun _ _ _ _ _ => (dg_name (i := 11) sc_Automaton___init__.nd rfl (Or.inl rfl))) (fun _ _ _ _ _ => dts_nil) (fun _ _ _ _ _ => (de_var (pv 11))) (fun _ _ _ _ _ => (PE.toE (df_sorted (u70 hr) T.n_sorted (dap_cons (PE.toP (de_dget (u65 hr) (dp_var (pv 7)) (dp_var (pv 11)))) dap_nil)))))) T.cl_Automaton T.no_Automaton_own_moves)))))))))))))), fun ds Qd y hd h => ?_⟩)
  obtain ⟨al, n, rs, i, rfl, h⟩ := h
  simp only [List.map_cons, List.map_nil]
  obtain ⟨hg, h⟩ := h
  have h3 := (alpha_len hg.alp)
  have hL : al.length ≤ sizeLine := by show _ ≤ 16777216; omega
  refine seq_cut fun R hR => ?_
  walk_at "go"
  refine ⟨hL, ?_⟩
  rw [hg.alp, if_neg (by decide)]
  subst hR
  refine seq_cut fun R hR => ?_
  walk_at "go"
  rw [show isNumD (D.int n) 1 65 = true by have := hg.lo; have := hg.hi; simp only [isNumD, Bool.and_eq_true, decide_eq_true_eq]; omega, if_neg (by decide)]
  subst hR
  refine seq_cut fun R hR => ?_
  walk_at "go"
  refine ⟨by decide, ?_⟩
  subst hR
  refine seq_cut fun R hR => ?_
  walk_at "go"
  have hn0 := hg.hi
  refine ⟨by omega, by omega, 3, by simp only [List.length_map, List.length_range]; show _ ≤ 16777216; omega, ?_⟩
  refine wpMap_det (fun d => al.map fun c => D.tup [D.tup [d, D.str [c]], D.lst []]) (fun d hd k q => ⟨by rw [List.length_map]; exact h3, wpMap_map (fun e => .tup [.tup [d, e], .lst []]) (fun e he k q => ⟨by decide, by decide, ?_, q⟩) (by rw [List.map_map]; exact q)⟩) ?_
  · obtain ⟨j, _, rfl⟩ := List.mem_map.mp hd
    obtain ⟨c, _, rfl⟩ := List.mem_map.mp he
    rfl
  rw [comp_keys, dfold_map (kf := keyA) (vf := fun _ => D.lst []) (keysA_pw hg.alp n)]
  subst hR
  refine seq_cut fun R hR => ?_
  walk_at "go"
  subst hR
  refine seq_cut fun R hR => ?_
  refine for_cutG fun G hG => ?_
  walk_at "go"
  refine hG _ ?_
  clear hG
  refine wpFor_inv (fun j S => ∃ c5 c6 c9 c10, S = [.own (.ins a.C_Automaton [""] [.raw (.ref y)]), .val (.str al), .val (.int n), .val (.lst (rs.map rowD)), .val (.int i), c5, c6,
      .own (.dic true false ((keysA al n).map keyA) ((keysA al n).map fun k => .lst ((atA (rs.take j) k).map pairD))), .own (.dic true false (((rs.take j).map k3).map key3) (((rs.take j).map k3).map fun _ => .bl true)), c9, c10, .no]) 0 ⟨_, _, _, _, rfl⟩ (fun j d S De' hj hI hnx _ _ _ _ => ?_) (fun S hI => ?_)
  · obtain ⟨c5, c6, c9, c10, rfl⟩ := hI
    obtain ⟨r, hr0, rfl⟩ := enum_row hj
    have hmem := List.mem_of_getElem? hr0
    rw [Nat.zero_add] at hnx ⊢
    walk_at "tg"
    refine ⟨_, _, ⟨rfl, rfl⟩, _, _, rfl, rfl, ?_⟩
    refine seq_cut fun R2 hR2 => ?_
    walk_at "go"
    have hnot : k3 r ∉ (rs.take j).map k3 := nodup_at hg.nd hr0
    refine ⟨r, rfl, n, rfl, hg.lo, hg.src r hmem, hg.tgt r hmem, hg.let' r hmem, h3, alpha_lowS hg.alp, ?_⟩
    have e3 : D.tup (cut [D.int r.s, D.str [r.l], D.int r.t, D.str (wC r.w)] none (some 3)) = key3 (k3 r) := rfl
    simp only [rowD]
    rw [e3, dget_map (kf := key3) (vf := fun _ => D.bl true) key3_eq, if_neg hnot]
    refine ⟨fun q => absurd q.2 (by simp [HT.sIx]), rfl, ?_⟩
    rw [if_neg (by decide)]
    subst hR2
    refine seq_cut fun R2 hR2 => ?_
    walk_at "go"
    have hlen := hg.len
    refine ⟨by simp [HT.sIx], rfl, by show _ < 16777216; rw [List.length_map, List.length_map, List.length_take]; omega, ?_⟩
    obtain ⟨p1, p2⟩ := dput_new (kf := key3) (vf := fun _ => D.bl true) (v := D.bl true) key3_eq hnot
    rw [e3, p1, p2]
    subst hR2
    walk_at "go"
    have e2 : D.tup (cut [D.int r.s, D.str [r.l], D.int r.t, D.str (wC r.w)] none (some 2)) = keyA (r.s, r.l) := rfl
    have e4 : D.tup (cut [D.int r.s, D.str [r.l], D.int r.t, D.str (wC r.w)] (some 2) none) = pairD r := rfl
    have hin : (r.s, r.l) ∈ keysA al n := keysA_mem.mpr ⟨hg.src r hmem, hg.let' r hmem⟩
    have hat : (atA (rs.take j) (r.s, r.l)).length ≤ 80000 := Nat.le_trans (List.length_filter_le _ _) (by rw [List.length_take]; omega)
    rw [e2, e4]
    refine ⟨by simp [HT.sIx], rfl, .lst ((atA (rs.take j) (r.s, r.l)).map pairD), ?_, by simp [HT.sIx], by decide, ?_⟩
    · rw [dget_map (kf := keyA) (vf := fun k => D.lst ((atA (rs.take j) k).map pairD)) keyA_eq, if_pos hin]
    refine ⟨by show _ ≤ 16777216; simp only [List.length_map, List.length_cons, List.length_nil]; omega, by simp [HT.sIx], rfl, ?_, ?_⟩
    · show _ < 16777216
      rw [List.length_map, keysA_len]
      have := Nat.mul_le_mul hg.hi h3
      omega
    obtain ⟨q1, q2⟩ := dput_map (kf := keyA) (vf := fun k => D.lst ((atA (rs.take j) k).map pairD)) (v := .lst ((atA (rs.take j) (r.s, r.l)).map pairD ++ [pairD r])) keyA_eq hin
    rw [q1, q2]
    refine hnx _ ⟨c5, c6, .val (.int j), .val (rowD r), ?_⟩
    have g1 : ((keysA al n).map fun a => if a = (r.s, r.l) then D.lst ((atA (rs.take j) (r.s, r.l)).map pairD ++ [pairD r]) else D.lst ((atA (rs.take j) a).map pairD)) = (keysA al n).map fun k => D.lst ((atA (rs.take (j + 1)) k).map pairD) := by
      refine List.map_congr_left fun k _ => ?_
      rw [atA_take hr0]
      by_cases hk : k = (r.s, r.l)
      · subst hk; simp
      · rw [if_neg hk, if_neg (Ne.symm hk)]
    have g2 : (rs.take (j + 1)).map k3 = (rs.take j).map k3 ++ [k3 r] := by rw [List.take_add_one, hr0]; simp
    rw [g1, g2, List.map_append (f := fun _ => D.bl true)]
    rfl
  · obtain ⟨c5, c6, c9, c10, rfl⟩ := hI
    rw [Nat.zero_add, enumD_length, List.length_map, List.take_length]
    show R _
    subst hR
    refine seq_cut fun R hR => ?_
    walk_at "go"
    rw [show isNumD (D.int i) 0 ((n : Int) - 1) = true by have := hg.ini; simp only [isNumD, Bool.and_eq_true, decide_eq_true_eq]; omega, if_neg (by decide)]
    subst hR
    walk_at "go"
    clear G
    refine wpFor_inv (fun j S => ∃ c5 c6, S = [.own (.ins a.C_Automaton [""] [.raw (.ref y)]), .val (.str al), .val (.int n), .val (.lst (rs.map rowD)), .val (.int i), c5, c6,
      .val (.dic true true ((keysA al n).map keyA) ((keysA al n).map fun k => .lst ((atA rs k).map pairD))), .own (.dic true false ((rs.map k3).map key3) ((rs.map k3).map fun _ => .bl true)), c9, c10, .no]) 0 ⟨_, _, rfl⟩ (fun j d S De' hj hI hnx _ _ _ _ => ?_) (fun S hI => ?_)
    · obtain ⟨c5, c6, rfl⟩ := hI
      obtain ⟨k, hk, rfl⟩ := List.mem_map.mp (List.mem_of_getElem? hj)
      walk_at "tg"
      refine ⟨_, rfl, rfl, _, _, rfl, _, _, rfl, rfl, ?_⟩
      walk_at "go"
      refine ⟨by decide, rfl, ?_⟩
      rw [show D.tup [D.int k.1, D.str [k.2]] = keyA k from rfl, dget_map (kf := keyA) (vf := fun k => D.lst ((atA rs k).map pairD)) keyA_eq, if_pos hk]
      refine ⟨_, rfl, by decide, pairs_ok _, rfl, ?_⟩
      rw [pairs_ne (hg.full k hk), if_neg (by decide)]
      exact hnx _ ⟨_, _, rfl⟩
    · obtain ⟨c5, c6, rfl⟩ := hI
      show dsSeq _ _ _ _
      walk_at "go"
      have hkl : (keysA al n).length ≤ 195 := by rw [keysA_len]; have := Nat.mul_le_mul hg.hi h3; omega
      refine ⟨by decide, by decide, by decide, by show _ ≤ 16777216; rw [List.length_map]; omega, ?_⟩
      refine wpMap_on (kf := keyA) (fun k => .tup [keyA k, movA rs k]) (fun k hk q hq => ?_) ?_
      · refine ⟨rfl, ?_⟩
        rw [dget_map (kf := keyA) (vf := fun k => D.lst ((atA rs k).map pairD)) keyA_eq, if_pos hk]
        exact ⟨_, rfl, pairs_can (Nat.le_trans (List.length_filter_le _ _) hg.len), rfl, hq⟩
      rw [dfold_map (kf := keyA) (vf := movA rs) (keysA_pw hg.alp n)]
      refine ⟨by decide, by decide, ?_⟩
      exact h
theorem ok_Automaton_check_state (T : Txt K mg a) : FnOk P w K mg base CX0 2 a.f_Automaton_check_state a.fd_Automaton_check_state ["self", "state"] (spE 2 (tf_Automaton_check_state a)) := by
  refine ok_E T.F_Automaton_check_state sc_Automaton_check_state rfl (fun cdv A outer s H E hr => ⟨_, (ds_one (ds_if (dt_not (dt_val (PE.toP (de_fn (ok_is_number T) (hr.mono (by first | decide | omega)) T.g_is_number (k_is_number T) (b0_is_number T) (fun _ _ _ => .nil) (da_cons (de_var (pv 1)) (da_cons (de_int) (da_cons (de_sub (PE.toP (de_fld (dp_var (pv 0)) T.cl_Automaton T.no_Automaton_size)) (PE.toP (de_int))) da_nil))) ar_is_number)))) ds_nevers ds_nil)), fun ds Qd hd h => ?_⟩)
  obtain ⟨al, n, i, rs, s, rfl, h⟩ := h
  simp only [List.map_cons, List.map_nil]
  obtain ⟨hs, h⟩ := h
  unfold autD
  walk_at "go"
  rw [if_neg (by simp [isNumD]; omega)]
  exact h
theorem ok_Automaton_check_letter (T : Txt K mg a) : FnOk P w K mg base CX0 1 a.f_Automaton_check_letter a.fd_Automaton_check_letter ["self", "letter"] (spE 2 (tf_Automaton_check_letter a)) := by
  refine ok_E T.F_Automaton_check_letter sc_Automaton_check_letter rfl (fun cdv A outer s H E hr => ⟨_, (ds_one (ds_if (PW.pt (dt_or (dt_not (dt_val (PE.toP (de_isi tab_str T.n_isinstance (dap_cons (dp_var (pv 1)) (dap_cons (PE.toP (de_ty (T := "str") T.n_str (by decide +kernel))) dap_nil)))))) (dt_or (dt_ne hr.units (PE.toP (de_len T.n_len (dap_cons (dp_var (pv 1)) dap_nil))) (PE.toP (de_int))) (dt_or1 (dt_notIn (u65 hr) (dp_var (pv 1)) (PE.toP (de_fld (dp_var (pv 0)) T.cl_Automaton T.no_Automaton_alphabet))))))) ds_nevers ds_nil)), fun ds Qd hd h => ?_⟩)
  obtain ⟨al, n, i, rs, l, rfl, h⟩ := h
  simp only [List.map_cons, List.map_nil]
  obtain ⟨⟨hs, h3⟩, h⟩ := h
  unfold autD
  walk_at "go"
  refine ⟨by decide, rfl, rfl, ?_⟩
  rw [if_neg (by decide), inStr_mem, if_neg (by simp [hs])]
  exact h
theorem ok_Automaton_moves (T : Txt K mg a) : FnOk P w K mg base CX0 3 a.f_Automaton_moves a.fd_Automaton_moves ["self", "state", "letter"] (spE 3 (tf_Automaton_moves a)) := by
  refine ok_E T.F_Automaton_moves sc_Automaton_moves rfl (fun cdv A outer s H E hr => ⟨_, (ds_cons (ds_expr (PE.toP (de_meth (de_var (pv 0)) T.cl_Automaton T.m_Automaton_check_state (ok_Automaton_check_state T) (hr.mono (by first | decide | omega)) (b0_Automaton_check_state T) (fun _ _ _ => .nil) (da_cons (de_var (pv 1)) da_nil) ar_Automaton_check_state)))
      (ds_cons (ds_expr (PE.toP (de_meth (de_var (pv 0)) T.cl_Automaton T.m_Automaton_check_letter (ok_Automaton_check_letter T) (hr.mono (by first | decide | omega)) (b0_Automaton_check_letter T) (fun _ _ _ => .nil) (da_cons (de_var (pv 2)) da_nil) ar_Automaton_check_letter)))
      (ds_one (ds_ret (PE.toE (df_listc T.n_list (dap_cons (PE.toP (de_dget (u65 hr) (PE.toP (de_fld (dp_var (pv 0)) T.cl_Automaton T.no_Automaton_own_moves)) (PE.toP (de_tup (da_cons (de_var (pv 1)) (da_cons (de_var (pv 2)) da_nil)))))) dap_nil))))))), fun ds Qd hd h => ?_⟩)
  obtain ⟨al, n, i, rs, s, l, rfl, h⟩ := h
  simp only [List.map_cons, List.map_nil]
  obtain ⟨⟨hg, hs, hl⟩, h⟩ := h
  have h3 := alpha_len hg.alp
  have hin : (s, l) ∈ keysA al n := keysA_mem.mpr ⟨hs, hl⟩
  unfold autD
  refine seq_cut fun R hR => ?_
  walk_at "go"
  refine ⟨by decide +kernel, al, n, i, rs, rfl, s, rfl, hs, ?_⟩
  subst hR
  refine seq_cut fun R hR => ?_
  walk_at "go"
  refine ⟨by decide +kernel, al, n, i, rs, rfl, hl, h3, ?_⟩
  subst hR
  walk_at "go"
  refine ⟨by decide, rfl, movA rs (s, l), ?_, h⟩
  rw [show D.tup [D.int s, D.str [l]] = keyA (s, l) from rfl, dget_map (kf := keyA) (vf := movA rs) keyA_eq, if_pos hin]
theorem ok_Automaton_targets (T : Txt K mg a) : FnOk P w K mg base CX0 4 a.f_Automaton_targets a.fd_Automaton_targets ["self", "state", "letter", "word"] (spF 4 (tf_Automaton_targets a)) := by
  refine ok_F T.F_Automaton_targets sc_Automaton_targets rfl (fun cdv A outer s H E hr => ⟨_, (ds_one (ds_retF (df_lc (own := [("target", 4), ("told", 5)]) (di_seq (de_meth (de_var (pv 0)) T.cl_Automaton T.m_Automaton_moves (ok_Automaton_moves T) (hr.mono (by first | decide | omega)) (b0_Automaton_moves T) (fun _ _ _ => .nil) (da_cons (de_var (pv 1)) (da_cons (de_var (pv 2)) da_nil)) ar_Automaton_moves)) sc_Automaton_targets.nd (blkOk_by (own := [("target", 4), ("told", 5)]) (N := N_Automaton_targets) (sc := defScope s_Automaton_targets) (by decide +kernel)) (fun _ _ _ _ _ => (dg_tup (n := 2) (dgs_cons (dg_name (i := 4) sc_Automaton_targets.nd rfl (Or.inl rfl)) (dgs_cons (dg_name (i := 5) sc_Automaton_targets.nd rfl (Or.inl rfl)) dgs_nil)))) (fun _ _ _ _ _ => (dts_one (PW.pt (dt_or (dt_isN (dp_var (pv 3))) (dt_or1 (dt_eq hr.units (dp_var (pv 5)) (dp_var (pv 3)))))))) (fun _ _ _ _ _ => (de_var (pv 4)))))), fun ds Qd hd h => ?_⟩)
  obtain ⟨al, n, i, rs, s, c, w, rfl, h⟩ := h
  simp only [List.map_cons, List.map_nil]
  obtain ⟨⟨hg, hs, hc⟩, h⟩ := h
  have hlen := hg.len
  unfold autD
  walk_at "go"
  refine ⟨by decide, al, n, i, rs, rfl, s, rfl, hg, hs, hc, ?_⟩
  obtain ⟨Qs, eQ, pQ⟩ : ∃ Qs : List Row, sortD ((atA rs (s, c)).map pairD) = Qs.map pairD ∧ Qs.Perm (atA rs (s, c)) := by
    obtain ⟨Qs, e, p⟩ := perm_map_ex (sortD_perm ((atA rs (s, c)).map pairD))
    exact ⟨Qs, e, p⟩
  unfold movA
  rw [eQ]
  have hQl : Qs.length ≤ 80000 := by rw [pQ.length_eq]; exact Nat.le_trans (List.length_filter_le _ _) hlen
  refine ⟨_, rfl, by rw [List.length_map]; show _ ≤ 16777216; omega, ?_⟩
  refine wpMap_onF (kf := pairD) (fun r => if (w = true → r.w = true) then [iD r.t] else []) (fun r hr k q => ?_) ?_
  · refine ⟨_, rfl, rfl, _, _, rfl, _, _, rfl, rfl, ?_⟩
    cases w
    · rw [show (if (false : Bool) = true then D.str (wC true) else D.non) = D.non from rfl]
      refine ⟨rfl, ?_⟩
      rw [if_pos rfl]
      rw [if_pos (by simp)] at q
      exact q
    · rw [show (if (true : Bool) = true then D.str (wC true) else D.non) = D.str (wC true) from rfl]
      refine ⟨rfl, ?_⟩
      rw [if_neg (by simp)]
      refine ⟨by cases r.w <;> decide, by decide, ?_⟩
      rw [deqv_str]
      by_cases hw : r.w = true
      · rw [if_pos (by simp [hw])] at q
        rw [if_pos (by rw [hw]; decide)]
        exact q
      · rw [if_neg (by simp [hw])] at q
        rw [if_neg (by rw [decide_eq_true_iff]; exact fun e => hw (wC_inj e))]
        exact q
  · have e : (Qs.flatMap fun r => if (w = true → r.w = true) then [iD r.t] else []) = ((Qs.filter fun r => decide (w = true → r.w = true)).map fun r => r.t).map iD := by
      clear pQ eQ hQl
      induction Qs with
      | nil => rfl
      | cons r Qs ih =>
        rw [List.flatMap_cons, ih, List.filter_cons]
        by_cases hw : (w = true → r.w = true)
        · rw [if_pos hw, if_pos (decide_eq_true hw)]; rfl
        · rw [if_neg hw, if_neg (by simpa using hw)]; rfl
    rw [e]
    refine h _ (by rw [List.length_map]; exact Nat.le_trans (List.length_filter_le _ _) (Nat.le_of_eq pQ.length_eq)) fun t => ?_
    simp only [List.mem_map, List.mem_filter, decide_eq_true_eq]
    constructor
    · rintro ⟨r, ⟨hr, hw⟩, rfl⟩
      obtain ⟨h1, h2⟩ := mem_atA.mp (pQ.mem_iff.mp hr)
      simp only [Prod.mk.injEq] at h2
      exact ⟨r, h1, h2.1, h2.2, rfl, hw⟩
    · rintro ⟨r, h1, h2, h3, rfl, hw⟩
      exact ⟨r, ⟨pQ.mem_iff.mpr (mem_atA.mpr ⟨h1, by rw [h2, h3]⟩), hw⟩, rfl⟩
theorem ok_Automaton_transitions (T : Txt K mg a) : FnOk P w K mg base CX0 1 a.f_Automaton_transitions a.fd_Automaton_transitions ["self"] (spE 1 (tf_Automaton_transitions a)) := by
  refine ok_E T.F_Automaton_transitions sc_Automaton_transitions rfl (fun cdv A outer s H E hr => ⟨_, (ds_one (ds_ret (PE.toE (df_sorted (u70 hr) T.n_sorted (dap_cons (PE.toP (PE.toE (df_lc2 (own := [("key", 1), ("pair", 2)]) (vs1 := [2]) (di_keys (de_fld (dp_var (pv 0)) T.cl_Automaton T.no_Automaton_own_moves)) sc_Automaton_transitions.nd (blkOk_by (own := [("key", 1), ("pair", 2)]) (N := N_Automaton_transitions) (sc := defScope s_Automaton_transitions) (by decide +kernel)) (by decide) (fun _ _ _ _ _ => (dg_name (i := 1) sc_Automaton_transitions.nd rfl (Or.inl rfl))) (fun _ _ _ _ _ => dts_nil) (di1_seq (fun _ _ _ _ _ => (de_dget (u65 hr) (PE.toP (de_fld (dp_var (pv 0)) T.cl_Automaton T.no_Automaton_own_moves)) (dp_var (pv 1))))) (fun _ _ _ _ _ => (dg_name (i := 2) sc_Automaton_transitions.nd rfl (Or.inl rfl))) (fun _ _ _ _ _ => dts_nil) (fun _ _ _ _ _ => (de_add (dp_var (pv 1)) (dp_var (pv 2))))))) dap_nil))))), fun ds Qd hd h => ?_⟩)
  obtain ⟨al, n, i, rs, rfl, h⟩ := h
  simp only [List.map_cons, List.map_nil]
  obtain ⟨hg, h⟩ := h
  have h3 := alpha_len hg.alp
  have hkl : (keysA al n).length ≤ 195 := by rw [keysA_len]; have := Nat.mul_le_mul hg.hi h3; omega
  unfold autD
  walk_at "go"
  refine ⟨80000, by rw [List.length_map]; show _ ≤ 16777216; omega, ?_⟩
  refine wpMap_onF (kf := keyA) (fun k => (sortD ((atA rs k).map pairD)).map fun p => D.tup ([D.int k.1, D.str [k.2]] ++ unT p)) (fun k hk q hq => ?_) ?_
  · refine ⟨rfl, ?_⟩
    rw [dget_map (kf := keyA) (vf := movA rs) keyA_eq, if_pos hk]
    refine ⟨_, rfl, _, rfl, ?_, ?_⟩
    · rw [sortD_length, List.length_map]
      exact Nat.le_trans (List.length_filter_le _ _) hg.len
    · refine wpMap_map (fun p => D.tup ([D.int k.1, D.str [k.2]] ++ unT p)) (fun d hd k' q' => ?_) hq
      obtain ⟨r, _, rfl⟩ := List.mem_map.mp (sortD_mem.mp hd)
      exact ⟨by simp, by show 4 ≤ 16777216; decide, q'⟩
  · have p := trans_perm hg
    have e := sortD_eq p fun x hx y hy e => by
      obtain ⟨r, _, rfl⟩ := List.mem_map.mp (p.mem_iff.mp hx)
      obtain ⟨q, _, rfl⟩ := List.mem_map.mp (p.mem_iff.mp hy)
      exact tk_row e
    rw [e]
    refine ⟨?_, h⟩
    obtain ⟨L, e2, p2⟩ := perm_map_ex (f := rowD) (L := rs) p
    rw [e2]
    exact rows_can (hg.permA p2)
theorem ok_Automaton___eq__ (T : Txt K mg a) : FnOk P w K mg base CX0 1 a.f_Automaton___eq__ a.fd_Automaton___eq__ ["self", "other"] (spE 2 (tf_Automaton___eq__ a)) := by
  refine ok_E T.F_Automaton___eq__ sc_Automaton___eq__ rfl (fun cdv A outer s H E hr => ⟨_, (ds_cons (ds_if (PW.pt (dt_or (dt_not (dt_val (PE.toP (de_isiX T.is_Automaton T.n_isinstance (dap_cons (dp_var (pv 1)) (dap_cons (PE.toP (de_cls T.g_Automaton)) dap_nil)))))) (dt_or1 (dt_ne hr.units (PE.toP (de_fld (dp_var (pv 0)) T.cl_Automaton T.no_Automaton_alphabet)) (PE.toP (de_fld (dp_var (pv 1)) T.cl_Automaton T.no_Automaton_alphabet)))))) (ds_one (ds_ret (de_bl))) ds_nil)
      (ds_one (ds_ret (de_and (PE.toP (de_eq hr.units (PE.toP (de_fld (dp_var (pv 0)) T.cl_Automaton T.no_Automaton_size)) (PE.toP (de_fld (dp_var (pv 1)) T.cl_Automaton T.no_Automaton_size)))) (de_and (PE.toP (de_eq hr.units (PE.toP (de_fld (dp_var (pv 0)) T.cl_Automaton T.no_Automaton_initial)) (PE.toP (de_fld (dp_var (pv 1)) T.cl_Automaton T.no_Automaton_initial)))) (de_one (de_eqDic (u66 hr) (PE.toP (de_fld (dp_var (pv 0)) T.cl_Automaton T.no_Automaton_own_moves)) (PE.toP (de_fld (dp_var (pv 1)) T.cl_Automaton T.no_Automaton_own_moves))))))))), fun ds Qd hd h => ?_⟩)
  obtain ⟨al, n, i, rs, e, rfl, h⟩ := h
  simp only [List.map_cons, List.map_nil]
  obtain ⟨⟨hg, he⟩, h⟩ := h
  have hal := low_ok (alpha_lowS hg.alp)
  rcases he with ⟨al2, n2, i2, rs2, rfl, hg2⟩ | he
  · rw [eqAut_aut hg hg2] at h
    unfold autD
    walk_at "go"
    refine ⟨hal, low_ok (alpha_lowS hg2.alp), ?_⟩
    by_cases e1 : al = al2
    · subst e1
      refine ite_nd rfl ⟨rfl, rfl, ?_⟩
      by_cases e2 : n = n2
      · subst e2
        refine ite_yes (deqv_refl _) ⟨rfl, rfl, ?_⟩
        by_cases e3 : i = i2
        · subst e3
          refine ite_yes (deqv_refl _) ⟨moves_ok hg, moves_ok hg2, ?_⟩
          rw [eq_moves hg.key hg2.key]
          simpa using h
        · refine ite_no (by rw [deqv_int]; simp; omega) ?_
          simpa [e3] using h
      · refine ite_no (by rw [deqv_int]; simp; omega) ?_
        simpa [e2] using h
    · refine ite_yes (by rw [deqv_str]; simp [e1]) ?_
      simpa [e1] using h
  · have hn : eqAut al n i rs e = false := by
      unfold eqAut
      rw [decide_eq_false_iff_not]
      rintro ⟨C, rs', rfl, _⟩
      cases he
    rw [hn] at h
    cases e <;> (try cases he) <;> unfold autD <;> walk_at "go" <;> exact h
theorem ok_finishing_order (T : Txt K mg a) : FnOk P w K mg base CX0 1 a.f_finishing_order a.fd_finishing_order ["many", "edges"] (spF 2 tf_finishing_order) := by
  refine ok_F T.F_finishing_order sc_finishing_order rfl (fun cdv A outer s H E hr => ⟨_, (ds_cons (ds_mul2 (i := 2) (j := 3) sc_finishing_order.nd rfl rfl (by decide) rfl rfl (dk_F (df_mul (PE.toP (PE.toE (df_lst (da_cons (de_bl) da_nil)))) (dp_var (pv 0))) (dk_F (df_lst da_nil) dk_nil)))
      (ds_cons (ds_for (di_range1 T.n_range (dap_cons (dp_var (pv 0)) dap_nil)) (dg_name (i := 4) sc_finishing_order.nd rfl (Or.inl rfl)) (ds_cons (ds_if (dt_val (PE.toP (de_item (dp_var (pv 2)) (dp_var (pv 4))))) (ds_one ds_cont) ds_nil)
      (ds_cons (ds_setI (pv 2) (de_var (pv 4)) (de_bl))
      (ds_cons (ds_own (i := 5) sc_finishing_order.nd rfl (Or.inl rfl) (df_lst (da_cons (de_tup (da_cons (de_var (pv 4)) (da_cons (de_int) da_nil))) da_nil)))
      (ds_one (ds_while (dt_val (dp_var (pv 5))) (ds_cons (ds_asgP (de_pop (pv 5)) (dg_tup (n := 2) (dgs_cons (dg_name (i := 6) sc_finishing_order.nd rfl (Or.inl rfl)) (dgs_cons (dg_name (i := 7) sc_finishing_order.nd rfl (Or.inl rfl)) dgs_nil))))
      (ds_cons (ds_if (dt_eq hr.units (dp_var (pv 7)) (PE.toP (de_len T.n_len (dap_cons (PE.toP (de_item (dp_var (pv 1)) (dp_var (pv 6)))) dap_nil)))) (ds_cons (ds_app (pv 3) (de_var (pv 6)))
      (ds_one ds_cont)) ds_nil)
      (ds_cons (ds_app (pv 5) (de_tup (da_cons (de_var (pv 6)) (da_cons (de_add (dp_var (pv 7)) (PE.toP (de_int))) da_nil))))
      (ds_cons (ds_set (i := 8) sc_finishing_order.nd rfl (Or.inl rfl) (de_item (PE.toP (de_item (dp_var (pv 1)) (dp_var (pv 6)))) (dp_var (pv 7))))
      (ds_one (ds_if (dt_not (dt_val (PE.toP (de_item (dp_var (pv 2)) (dp_var (pv 8)))))) (ds_cons (ds_setI (pv 2) (de_var (pv 8)) (de_bl))
      (ds_one (ds_app (pv 5) (de_tup (da_cons (de_var (pv 8)) (da_cons (de_int) da_nil)))))) ds_nil))))))))))))
      (ds_one (ds_retO (pv 3))))), fun ds Qd hd h => ?_⟩)
  obtain ⟨m, E, rfl, h⟩ := h
  simp only [List.map_cons, List.map_nil]
  obtain ⟨⟨hE, hm⟩, h⟩ := h
  refine seq_cut fun R hR => ?_
  walk_at "go"
  rw [repL_one, rep_bD]
  refine ⟨by decide, by omega, by omega, by show _ ≤ 16777216; omega, by decide, ?_⟩
  have eat : ∀ u k, u < m → k < (nxE E u).length → ∃ y, (nxE E u)[k]? = some y ∧ y < m := fun u k _ hk => ⟨_, List.getElem?_eq_getElem hk, hE.lt u _ (List.getElem_mem hk)⟩
  have rowE : ∀ u, u < m → atI (E.map fun L => D.lst (L.map iD)) (u : Int) = some (.lst ((nxE E u).map iD)) := fun u hu => atI_natR (by
    have hl : u < E.length := by rw [hE.len]; exact hu
    rw [List.getElem?_map, List.getElem?_eq_getElem hl]
    unfold nxE
    rw [List.getD_eq_getElem?_getD, List.getElem?_eq_getElem hl]
    rfl)
  have snA : ∀ {sn : List Bool} {u : Nat}, sn.length = m → u < m → ∃ b, sn[u]? = some b ∧ atI (sn.map bD) (u : Int) = some (.bl b) := fun {sn u} hl hu => ⟨_, List.getElem?_eq_getElem (by omega), atI_natR (by rw [List.getElem?_map, List.getElem?_eq_getElem (by omega)]; rfl)⟩
  have ixA : ∀ {sn : List Bool} {u : Nat}, sn.length = m → u < m → ixN (sn.map bD).length (u : Int) = some u := fun {sn u} hl hu => by
    rw [List.length_map, hl]
    unfold ixN
    simp [hu]
    try omega
  subst hR
  refine seq_cut fun R hR => ?_
  refine for_cutG fun G hG => ?_
  walk_at "go"
  refine ⟨by omega, by omega, hG _ ?_⟩
  clear hG G
  refine wpFor_inv (fun r S => ∃ sn fd c4 c5 c6 c7 c8, DfsI E m sn fd [] ∧ (∀ u, u < r → sn[u]? = some true) ∧ S = [.val (.int m), .val (eD E), .own (.lst (sn.map bD)), .own (.lst (fd.map iD)), c4, c5, c6, c7, c8]) 0 ⟨_, [], _, _, _, _, _, dfs_start, fun u hu => absurd hu (Nat.not_lt_zero _), rfl⟩ (fun r d S De' hr hI hnx hct _ _ _ => ?_) (fun S hI => ?_)
  rotate_left
  · obtain ⟨sn, fd, c4, c5, c6, c7, c8, hD, hall, rfl⟩ := hI
    rw [Nat.zero_add, List.length_map, List.length_range, Int.toNat_natCast] at hall
    show R _
    subst hR
    walk_at "go"
    refine h fd hD.fin (by have := hD.nd; simpa using this) fun u => ⟨hD.fdm u, fun hu => ?_⟩
    rcases (hD.seen u).mp (hall u hu) with q | q
    · exact q
    · simp at q
  obtain ⟨sn, fd, c4, c5, c6, c7, c8, hD, hall, rfl⟩ := hI
  have e0 : 0 + r = r := Nat.zero_add r
  rw [e0] at hnx hct hall
  obtain ⟨hrm, rfl⟩ : r < m ∧ d = .int r := by
    rw [List.getElem?_map] at hr
    obtain ⟨k, hk, rfl⟩ := Option.map_eq_some_iff.mp hr
    obtain ⟨h1, h2⟩ := List.getElem?_eq_some_iff.mp hk
    rw [List.length_range, Int.toNat_natCast] at h1
    rw [List.getElem_range] at h2
    subst h2
    exact ⟨h1, by simp⟩
  obtain ⟨b, hb, hab⟩ := snA hD.len hrm
  walk_at "tg"
  unfold eD
  refine seq_cut fun R2 hR2 => ?_
  walk_at "go"
  refine ⟨_, hab, ?_⟩
  walk_at "go"
  cases b with
  | true =>
    refine iteT rfl ?_
    refine hct _ ⟨sn, fd, _, _, _, _, _, hD, fun u hu => ?_, rfl⟩
    by_cases c : u < r
    · exact hall u c
    · rw [show u = r by omega]; exact hb
  | false =>
    refine iteF rfl ?_
    have hD1 := hD.push hrm (by rw [hb]; simp) (by simp)
    subst hR2
    refine seq_cut fun R2 hR2 => ?_
    walk_at "go"
    refine ⟨r, ixA hD.len hrm, ?_⟩
    rw [show (sn.map bD).set r (D.bl true) = (sn.set r true).map bD from set_map bD sn r true]
    subst hR2
    refine seq_cut fun R2 hR2 => ?_
    walk_at "go"
    refine ⟨by decide, by decide, ?_⟩
    subst hR2
    have hall1 : ∀ u, u < r + 1 → (sn.set r true)[u]? = some true := fun u hu => by
      rw [List.getElem?_set]
      by_cases c : r = u
      · subst c; rw [if_pos rfl, if_pos (by rw [hD.len]; exact hrm)]
      · rw [if_neg c]; exact hall u (by omega)
    refine while_cutB (fun M S => ∃ sn fd st c6 c7 c8, M = dfsM E 1000 sn st ∧ DfsI E m sn fd st ∧ (∀ u, u < r + 1 → sn[u]? = some true) ∧ S = [.val (.int m), .val (eD E), .own (.lst (sn.map bD)), .own (.lst (fd.map iD)), .val (.int r), .own (.lst (st.map pD)), c6, c7, c8]) _ ⟨_, fd, [(r, 0)], _, _, _, rfl, hD1, hall1, rfl⟩ (fun B hB N hN M S De2 hI hnx2 hct2 _ _ _ => ?_)
    clear hD hD1 hb hab hall hall1 sn fd c5 c6 c7 c8
    obtain ⟨sn, fd, st, c6, c7, c8, rfl, hD, hall, rfl⟩ := hI
    have hnd := hD.nd
    have hlen : fd.length + st.length ≤ m := by
      have := nd_len hnd (n := m) fun x hx => by
        rcases List.mem_append.mp hx with hx | hx
        · exact hD.fdm x hx
        · obtain ⟨q, hq, rfl⟩ := List.mem_map.mp hx
          exact (hD.ent q hq).1
      rw [List.length_append, List.length_map] at this
      exact this
    rcases List.eq_nil_or_concat st with rfl | ⟨st, ⟨u, k⟩, rfl⟩
    · walk_at "go"
      refine iteF rfl ?_
      rw [hN]
      exact hnx _ ⟨sn, fd, _, _, _, _, _, hD, hall, rfl⟩
    · simp only [List.concat_eq_append] at hD hlen hnx2 hct2 ⊢
      obtain ⟨hum, hkl⟩ := hD.ent (u, k) (by simp)
      replace hkl : k ≤ (nxE E u).length := hkl
      replace hum : u < m := hum
      rw [List.map_append]
      walk_at "go"
      refine iteT (by cases st <;> rfl) ?_
      subst hB
      refine seq_cut fun R2 hR2 => ?_
      walk_at "go"
      refine ⟨_, _, rfl, ?_⟩
      unfold pD
      walk_at "go"
      change R2 [.val (.int m), .val (eD E), .own (.lst (sn.map bD)), .own (.lst (fd.map iD)), .val (.int r), .own (.lst (st.map pD)), .val (.int u), .val (.int k), c8]
      subst hR2
      refine seq_cut fun R2 hR2 => ?_
      unfold eD
      walk_at "go"
      rw [List.length_append, List.length_singleton] at hlen
      refine ⟨_, rowE u hum, ?_⟩
      walk_at "go"
      rw [deqv_int, List.length_map]
      refine ⟨rfl, rfl, ?_⟩
      by_cases hk : k = (nxE E u).length
      · subst hk
        refine iteT (decide_eq_true rfl) ⟨by rw [List.length_map]; show _ < 16777216; omega, ?_⟩
        have hx := hct2 _ _ (dfsM_leave (B := 1000) (sn := sn)) ⟨sn, fd ++ [u], st, .val (.int u), .val (.int (nxE E u).length), c8, rfl, hD.leave, hall, rfl⟩
        rw [List.map_append] at hx
        exact hx
      · refine iteF (decide_eq_false (by omega)) ?_
        have hk' : k < (nxE E u).length := by omega
        obtain ⟨y, hy, hym⟩ := eat u k hum hk'
        subst hR2
        refine seq_cut fun R2 hR2 => ?_
        walk_at "go"
        refine ⟨by decide, by rw [List.length_map]; show _ < 16777216; omega, ?_⟩
        subst hR2
        refine seq_cut fun R2 hR2 => ?_
        walk_at "go"
        refine ⟨_, rowE u hum, ?_⟩
        walk_at "go"
        refine ⟨iD y, atI_natR (by rw [List.getElem?_map, hy]; rfl), ?_⟩
        subst hR2
        obtain ⟨b, hb, hab⟩ := snA hD.len hym
        unfold iD
        walk_at "go"
        refine ⟨_, hab, ?_⟩
        walk_at "go"
        have est : st.map pD ++ [D.tup [D.int (u : Nat), D.int ((k : Int) + 1)]] = (st ++ [(u, k + 1)]).map pD := by
          rw [List.map_append]
          rfl
        rw [est]
        cases b with
        | true =>
          refine iteF rfl ?_
          exact hnx2 _ _ (dfsM_next (B := 1000) (sn := sn) hk') ⟨sn, fd, _, .val (.int u), .val (.int k), .val (.int y), rfl, hD.next hy hb, hall, rfl⟩
        | false =>
          refine iteT rfl ⟨y, ixA hD.len hym, by decide, by rw [List.length_map, List.length_append, List.length_singleton]; show _ < 16777216; omega, ?_⟩
          have hall2 : ∀ v, v < r + 1 → (sn.set y true)[v]? = some true := fun v hv => by
            rw [List.getElem?_set]
            by_cases c : y = v
            · subst c; rw [if_pos rfl, if_pos (by rw [hD.len]; exact hym)]
            · rw [if_neg c]; exact hall v hv
          have hx := hnx2 _ _ (dfsM_take (B := 1000) hE (sn := sn) hk' hb) ⟨sn.set y true, fd, _, .val (.int u), .val (.int k), .val (.int y), rfl, hD.take hy hym (by rw [hb]; simp), hall2, rfl⟩
          rw [show (sn.map bD).set y (D.bl true) = (sn.set y true).map bD from set_map bD sn y true]
          rw [List.map_append] at hx
          exact hx
theorem ok_strong_parts (T : Txt K mg a) : FnOk P w K mg base CX0 2 a.f_strong_parts a.fd_strong_parts ["many", "edges"] (spF 2 tf_strong_parts) := by
  refine ok_F T.F_strong_parts sc_strong_parts rfl (fun cdv A outer s H E hr => ⟨_, (ds_cons (ds_resLc (i := 2) (r := 11) (own := [("_", 10)]) (di_range1 T.n_range (dap_cons (dp_var (pv 0)) dap_nil)) sc_strong_parts.nd rfl rfl (sw_true rfl rfl rfl (by decide +kernel)) (blkOk_by (own := [("_", 10)]) (N := N_strong_parts) (sc := defScope s_strong_parts) (by decide +kernel)) (fun _ _ _ _ _ => (dg_name (i := 10) sc_strong_parts.nd rfl (Or.inl rfl))))
      (ds_cons (ds_for (di_range1 T.n_range (dap_cons (dp_var (pv 0)) dap_nil)) (dg_name (i := 3) sc_strong_parts.nd rfl (Or.inl rfl)) (ds_one (ds_for (di_seq (de_item (dp_var (pv 1)) (dp_var (pv 3)))) (dg_name (i := 4) sc_strong_parts.nd rfl (Or.inl rfl)) (ds_one (ds_dapp (r := 11) (pv 2) (de_var (pv 4)) (de_var (pv 3)))))))
      (ds_frzD 2 11 (ds_cons (ds_mul2 (i := 5) (j := 6) sc_strong_parts.nd rfl rfl (by decide) rfl rfl (dk_F (df_mul (PE.toP (PE.toE (df_lst (da_cons (de_neg (PE.toP (de_int))) da_nil)))) (dp_var (pv 0))) (dk_E (de_int) dk_nil)))
      (ds_cons (ds_for (di_seq (PE.toE (df_rev (PE.toP (PE.toE (df_fn (ok_finishing_order T) (hr.mono (by first | decide | omega)) T.g_finishing_order (k_finishing_order T) (b0_finishing_order T) (fun _ _ _ => .nil) (da_cons (de_var (pv 0)) (da_cons (de_var (pv 1)) da_nil)) ar_finishing_order)))))) (dg_name (i := 7) sc_strong_parts.nd rfl (Or.inl rfl)) (ds_cons (ds_if (dt_ge (PE.toP (de_item (dp_var (pv 5)) (dp_var (pv 7)))) (PE.toP (de_int))) (ds_one ds_cont) ds_nil)
      (ds_cons (ds_setI (pv 5) (de_var (pv 7)) (de_var (pv 6)))
      (ds_cons (ds_own (i := 8) sc_strong_parts.nd rfl (Or.inl rfl) (df_lst (da_cons (de_var (pv 7)) da_nil)))
      (ds_cons (ds_while (dt_val (dp_var (pv 8))) (ds_one (ds_forP (de_itemP (de_var (pv 2)) (de_pop (pv 8))) (dg_name (i := 9) sc_strong_parts.nd rfl (Or.inl rfl)) (ds_one (ds_if (dt_lt (PE.toP (de_item (dp_var (pv 5)) (dp_var (pv 9)))) (PE.toP (de_int))) (ds_cons (ds_setI (pv 5) (de_var (pv 9)) (de_var (pv 6)))
      (ds_one (ds_app (pv 8) (de_var (pv 9))))) ds_nil)))))
      (ds_one (ds_aug (i := 6) sc_strong_parts.nd rfl (Or.inl rfl) (PE.toP (de_int)))))))))
      (ds_one (ds_retO (pv 5)))))))), fun ds Qd hd h => ?_⟩)
  obtain ⟨m, E, rfl, h⟩ := h
  simp only [List.map_cons, List.map_nil]
  obtain ⟨⟨hE, hm⟩, h⟩ := h
  have rowE : ∀ u, u < m → atI (E.map fun L => D.lst (L.map iD)) (u : Int) = some (.lst ((nxE E u).map iD)) := fun u hu => atI_natR (by
    have hl : u < E.length := by rw [hE.len]; exact hu
    rw [List.getElem?_map, List.getElem?_eq_getElem hl]
    unfold nxE
    rw [List.getD_eq_getElem?_getD, List.getElem?_eq_getElem hl]
    rfl)
  refine seq_cut fun R hR => ?_
  walk_at "go"
  refine ⟨by omega, by omega, by rw [List.length_map, List.length_range]; show _ ≤ 16777216; omega, ?_⟩
  refine wpMap_map (fun _ => .non) (fun d hd k q => q) fun a1 as1 hal => ?_
  rw [List.length_map, List.length_map, List.length_range, Int.toNat_natCast] at hal ⊢
  subst hR
  refine seq_cut fun R hR => ?_
  refine for_cutG fun G hG => ?_
  walk_at "go"
  refine ⟨by omega, by omega, hG _ ?_⟩
  clear hG G
  have gset : ∀ {BK : List (List Nat)} {y x u : Nat}, BK.length = m → y < m → (BK.set y (BK.getD y [] ++ [x])).getD u [] = if y = u then BK.getD u [] ++ [x] else BK.getD u [] := fun {BK y x u} hl hy => by
    rw [List.getD_eq_getElem?_getD, List.getElem?_set]
    by_cases c : y = u
    · subst c
      rw [if_pos rfl, if_pos (by omega), if_pos rfl]; rfl
    · rw [if_neg c, if_neg c, List.getD_eq_getElem?_getD]
  refine wpFor_inv (fun n S => ∃ BK c3 c4, BK.length = m ∧ (∀ y x, x ∈ BK.getD y [] ↔ x < n ∧ y ∈ nxE E x) ∧ (∀ y, (BK.getD y []).length ≤ n * 1000) ∧ S = [.val (.int m), .val (eD E), .val (.raw (.ref a1)), c3, c4, .no, .no, .no, .no, .no, .no, deepS a1 as1 (BK.map fun L => L.map iD)]) 0 ⟨List.replicate m [], .no, .no, by simp, fun y x => ?_, fun y => ?_, ?_⟩ (fun n d S De' hn hI hnx _ _ _ _ => ?_) (fun S hI => ?_)
  · rw [List.getD_eq_getElem?_getD, List.getElem?_replicate]
    split <;> simp
  · rw [List.getD_eq_getElem?_getD, List.getElem?_replicate]
    split <;> simp
  · rw [List.map_replicate]; rfl
  · obtain ⟨BK, c3, c4, hl, hmem, hlen, rfl⟩ := hI
    have e0 : 0 + n = n := Nat.zero_add n
    rw [e0] at hnx hmem hlen
    obtain ⟨hnm, rfl⟩ : n < m ∧ d = .int n := by
      rw [List.getElem?_map] at hn
      obtain ⟨k, hk, rfl⟩ := Option.map_eq_some_iff.mp hn
      obtain ⟨h1, h2⟩ := List.getElem?_eq_some_iff.mp hk
      rw [List.length_range, Int.toNat_natCast] at h1
      rw [List.getElem_range] at h2
      subst h2
      exact ⟨h1, by simp⟩
    walk_at "tg"
    refine for_cutG fun G hG => ?_
    unfold eD
    walk_at "go"
    refine ⟨_, rowE n hnm, _, rfl, hG _ ?_⟩
    clear hG G
    refine wpFor_inv (fun j S => ∃ BK c4, BK.length = m ∧ (∀ y x, x ∈ BK.getD y [] ↔ (x < n ∧ y ∈ nxE E x) ∨ (x = n ∧ y ∈ (nxE E n).take j)) ∧ (∀ y, (BK.getD y []).length ≤ n * 1000 + j) ∧ S = [.val (.int m), .val (eD E), .val (.raw (.ref a1)), .val (.int n), c4, .no, .no, .no, .no, .no, .no, deepS a1 as1 (BK.map fun L => L.map iD)]) 0 ⟨BK, _, hl, fun y x => by rw [hmem]; simp, fun y => hlen y, rfl⟩ (fun j d S De2 hj hI hnx2 _ _ _ _ => ?_) (fun S hI => ?_)
    · clear hl hmem hlen BK c4
      obtain ⟨BK, c4, hl, hmem, hlen, rfl⟩ := hI
      have e0 : 0 + j = j := Nat.zero_add j
      rw [e0] at hnx2 hmem hlen
      rw [List.getElem?_map] at hj
      obtain ⟨y, hy, rfl⟩ := Option.map_eq_some_iff.mp hj
      have hym := hE.lt n y (List.mem_of_getElem? hy)
      have hj1 := (List.getElem?_eq_some_iff.mp hy).1
      have hfew := hE.few n
      have hly := hlen y
      have hn1000 := Nat.mul_le_mul_right 1000 (show n ≤ 5000 by omega)
      walk_at "tg"
      walk_at "go"
      refine ⟨y, rfl, as1, _, rfl, (BK.getD y []).map iD, ?_, by rw [List.length_map]; show _ < 16777216; omega, ?_⟩
      · rw [List.getElem?_map, List.getD_eq_getElem?_getD, List.getElem?_eq_getElem (by omega)]
        rfl
      have hx := hnx2 _ ⟨BK.set y (BK.getD y [] ++ [n]), .val (iD y), by rw [List.length_set]; exact hl, fun u x => ?_, fun u => ?_, rfl⟩
      · rw [List.map_set, List.map_append] at hx
        exact hx
      · rw [gset hl hym, List.take_add_one, hy, Option.toList_some, List.mem_append]
        by_cases c : y = u
        · subst c
          rw [if_pos rfl, List.mem_append, hmem]
          simp only [List.mem_singleton]
          constructor
          · rintro ((q | q) | q)
            · exact .inl q
            · exact .inr ⟨q.1, .inl q.2⟩
            · exact .inr ⟨q, .inr (by first | exact trivial | rfl)⟩
          · rintro (q | ⟨q, q2 | q2⟩)
            · exact .inl (.inl q)
            · exact .inl (.inr ⟨q, q2⟩)
            · exact .inr q
        · rw [if_neg c, hmem]
          simp only [List.mem_singleton]
          constructor
          · rintro (q | q)
            · exact .inl q
            · exact .inr ⟨q.1, .inl q.2⟩
          · rintro (q | ⟨q, q2 | q2⟩)
            · exact .inl q
            · exact .inr ⟨q, q2⟩
            · exact absurd q2.symm c
      · have := hlen u
        rw [gset hl hym]
        split
        · rw [List.length_append, List.length_singleton]; omega
        · omega
    · clear hl hmem hlen BK c4
      obtain ⟨BK, c4, hl, hmem, hlen, rfl⟩ := hI
      rw [Nat.zero_add, List.length_map, List.take_length] at hmem
      rw [Nat.zero_add, List.length_map] at hlen
      have hfew := hE.few n
      refine hnx _ ⟨BK, _, c4, hl, fun y x => ?_, fun y => ?_, rfl⟩
      · rw [hmem]
        constructor
        · rintro (⟨q1, q2⟩ | ⟨rfl, q2⟩)
          · exact ⟨by omega, q2⟩
          · exact ⟨by omega, q2⟩
        · rintro ⟨q1, q2⟩
          by_cases c : x = n
          · subst c; exact .inr ⟨rfl, q2⟩
          · exact .inl ⟨by omega, q2⟩
      · have := hlen y
        rw [Nat.succ_mul]; omega
  obtain ⟨BK, c3, c4, hl, hmem, hlen, rfl⟩ := hI
  rw [Nat.zero_add, List.length_map, List.length_range, Int.toNat_natCast] at hmem hlen
  show R _
  subst hR
  unfold dsFrzD
  refine ⟨a1, as1, _, rfl, rfl, ?_⟩
  simp only [List.set_cons_succ, List.set_cons_zero]
  refine seq_cut fun R hR => ?_
  walk_at "go"
  rw [repL_one, rep_iD]
  refine ⟨by decide, by omega, by omega, by show _ ≤ 16777216; omega, ?_⟩
  have bkA : ∀ u, u < m → atI ((BK.map fun L => L.map iD).map D.lst) (u : Int) = some (.lst ((BK.getD u []).map iD)) := fun u hu => atI_natR (by
    rw [List.getElem?_map, List.getElem?_map, List.getD_eq_getElem?_getD, List.getElem?_eq_getElem (by omega)]
    rfl)
  have pA : ∀ {P : List Int} {u : Nat}, P.length = m → u < m → atI (P.map D.int) (u : Int) = some (.int (P.getD u (-1))) := fun {P u} hl hu => atI_natR (by
    rw [List.getElem?_map, List.getD_eq_getElem?_getD, List.getElem?_eq_getElem (by omega)]
    rfl)
  have pX : ∀ {P : List Int} {u : Nat}, P.length = m → u < m → ixN (P.map D.int).length (u : Int) = some u := fun {P u} hl hu => by
    rw [List.length_map, hl]
    unfold ixN
    simp [hu]
    try omega
  subst hR
  refine seq_cut fun R hR => ?_
  refine for_cutG fun G hG => ?_
  unfold eD
  walk_at "go"
  refine ⟨m, rfl, E, rfl, hE, hm, fun ord hF hnd hall => hG _ ?_⟩
  clear hG G
  rw [← List.map_reverse]
  refine wpFor_inv (fun j S => ∃ P k c3 c4 c7 c8 c9 c10, ScI E m P k ∧ k ≤ j ∧ (∀ u ∈ ord.reverse.take j, 0 ≤ P.getD u (-1)) ∧ S = [.val (.int m), .val (eD E), .val (.lst ((BK.map fun L => L.map iD).map D.lst)), c3, c4, .own (.lst (P.map D.int)), .val (.int (k : Nat)), c7, c8, c9, c10, .no]) 0 ⟨_, 0, _, _, _, _, _, _, sc_start, Nat.le_refl _, by simp, rfl⟩ (fun j d S De' hj hI hnx hct _ _ _ => ?_) (fun S hI => ?_)
  rotate_left
  · obtain ⟨P, k, c3, c4, c7, c8, c9, c10, hP, hk, hdone, rfl⟩ := hI
    show R _
    rw [Nat.zero_add, List.length_map, List.take_length] at hdone
    rw [Nat.zero_add, List.length_map, List.length_reverse] at hk
    have hordl : ord.length ≤ m := nd_len hnd fun x hx => (hall x).mp hx
    have h0 : ∀ u, u < m → 0 ≤ P.getD u (-1) := fun u hu => hdone u (List.mem_reverse.mpr ((hall u).mpr hu))
    subst hR
    walk_at "go"
    have eP : P.map D.int = (P.map Int.toNat).map iD := by
      rw [List.map_map]
      refine List.map_congr_left fun v hv => ?_
      obtain ⟨u, hu⟩ := List.getElem?_of_mem hv
      have hul := (List.getElem?_eq_some_iff.mp hu).1
      rw [hP.len] at hul
      have := h0 u hul
      rw [List.getD_eq_getElem?_getD, hu] at this
      replace this : 0 ≤ v := this
      show D.int v = D.int (v.toNat : Nat)
      rw [Int.toNat_of_nonneg this]
    have gP : ∀ u, u < m → ((P.map Int.toNat).getD u 0 : Int) = P.getD u (-1) := fun u hu => by
      have := h0 u hu
      rw [List.getD_eq_getElem?_getD, List.getElem?_eq_getElem (by rw [hP.len]; exact hu)] at this
      rw [List.getD_eq_getElem?_getD, List.getD_eq_getElem?_getD, List.getElem?_map, List.getElem?_eq_getElem (by rw [hP.len]; exact hu)]
      exact Int.toNat_of_nonneg this
    rw [eP]
    refine h _ (by rw [List.length_map]; exact hP.len) (fun x hx => ?_) fun u v hu hv => ?_
    · obtain ⟨v, hv, rfl⟩ := List.mem_map.mp hx
      obtain ⟨u, hu⟩ := List.getElem?_of_mem hv
      have := hP.val u v hu
      omega
    · rw [← hP.mt u v (h0 u hu) hv, ← gP u hu, ← gP v hv]
      omega
  obtain ⟨P, k, c3, c4, c7, c8, c9, c10, hP, hk, hdone, rfl⟩ := hI
  have e0 : 0 + j = j := Nat.zero_add j
  rw [e0] at hnx hct hdone hk
  rw [List.getElem?_map] at hj
  obtain ⟨r, hr, rfl⟩ := Option.map_eq_some_iff.mp hj
  have hrm : r < m := (hall r).mp (List.mem_reverse.mp (List.mem_of_getElem? hr))
  have hjl := (List.getElem?_eq_some_iff.mp hr).1
  have hordl : ord.length ≤ m := nd_len hnd fun x hx => (hall x).mp hx
  rw [List.length_reverse] at hjl
  walk_at "tg"
  refine seq_cut fun R2 hR2 => ?_
  walk_at "go"
  refine ⟨_, pA hP.len hrm, ?_⟩
  walk_at "go"
  by_cases c0 : 0 ≤ P.getD r (-1)
  · refine iteT (decide_eq_true c0) ?_
    refine hct _ ⟨P, k, _, _, _, _, _, _, hP, by omega, fun u hu => ?_, rfl⟩
    rw [List.take_add_one, hr, Option.toList_some, List.mem_append] at hu
    rcases hu with hu | hu
    · exact hdone u hu
    · rw [List.mem_singleton.mp hu]; exact c0
  refine iteF (decide_eq_false c0) ?_
  have hneg : P.getD r (-1) < 0 := by omega
  have hJ := hP.root hrm hneg
  have hk5 : k ≤ m := by omega
  have hM0 : scM (P.set r k) [r] ≤ m + 1 := by
    have h1 := scM_set (P := P) (e := r) (k := k) hneg (by rw [hP.len]; exact hrm)
    have h2 := List.countP_le_length (p := fun v : Int => decide (v < 0)) (l := P)
    unfold scM
    rw [hP.len] at h2
    simp only [List.length_cons, List.length_nil]
    omega
  subst hR2
  refine seq_cut fun R2 hR2 => ?_
  unfold iD
  walk_at "go"
  refine ⟨r, pX hP.len hrm, ?_⟩
  rw [show (P.map D.int).set r (D.int (k : Nat)) = (P.set r (k : Int)).map D.int by rw [List.map_set]]
  subst hR2
  refine seq_cut fun R2 hR2 => ?_
  walk_at "go"
  refine ⟨by decide, ?_⟩
  subst hR2
  refine seq_cut fun R2 hR2 => ?_
  refine while_cutB (fun M S => ∃ P' T c3 c4 c9 c10, M = scM P' T ∧ M ≤ m + 1 ∧ ScJ E m P k r P' T ∧ S = [.val (.int m), .val (eD E), .val (.lst ((BK.map fun L => L.map iD).map D.lst)), c3, c4, .own (.lst (P'.map D.int)), .val (.int (k : Nat)), .val (.int r), .own (.lst (T.map iD)), c9, c10, .no]) _ ⟨_, [r], _, _, _, _, rfl, hM0, hJ, rfl⟩ (fun B hB N hN M S De2 hI hnx2 hct2 _ _ _ => ?_)
  clear hJ hM0 c3 c4 c8 c9 c10
  obtain ⟨P', T, c3, c4, c9, c10, rfl, hM, hJ, rfl⟩ := hI
  rcases List.eq_nil_or_concat T with rfl | ⟨T, x, rfl⟩
  · walk_at "go"
    refine iteF rfl ?_
    rw [hN]
    show R2 _
    subst hR2
    have eo : ord = (ord.reverse.drop (j + 1)).reverse ++ r :: (ord.reverse.take j).reverse := by
      have : ord.reverse = ord.reverse.take j ++ r :: ord.reverse.drop (j + 1) := by
        have e1 : ord.reverse.drop j = r :: ord.reverse.drop (j + 1) := by
          obtain ⟨h1, h2⟩ := List.getElem?_eq_some_iff.mp hr
          rw [List.drop_eq_getElem_cons h1, h2]
        rw [← e1, List.take_append_drop]
      have e2 : ord = (ord.reverse.take j ++ r :: ord.reverse.drop (j + 1)).reverse := by rw [← this, List.reverse_reverse]
      rw [List.reverse_append, List.reverse_cons, List.append_assoc] at e2
      exact e2
    have hP2 := hJ.next hE hP (eo ▸ hF) (eo ▸ hnd) hrm hneg fun u hu hum => by
      have hin := (hall u).mpr hum
      rw [eo] at hin
      simp only [List.mem_append, List.mem_cons] at hin
      rcases hin with q | q | q
      · exact List.mem_append_left _ q
      · rw [q]; simp
      · have := hdone u (List.mem_reverse.mp q)
        omega
    walk_at "go"
    refine hnx _ ⟨P', k + 1, c3, c4, .val (.int r), .own (.lst []), c9, c10, hP2, by omega, fun u hu => ?_, rfl⟩
    rw [List.take_add_one, hr, Option.toList_some, List.mem_append] at hu
    rcases hu with hu | hu
    · have := hdone u hu
      rcases hJ.old u with q | q
      · rw [q]; exact this
      · omega
    · rw [List.mem_singleton.mp hu, hJ.root]; omega
  · simp only [List.concat_eq_append] at hM hJ hnx2 hct2 ⊢
    have hX := hJ.pop
    have hxk := hX.cur
    have hxm : x < m := by
      obtain ⟨L, _, _, h3⟩ := hX.path x hxk
      exact (h3 x (by simp)).2
    have hpm : scM P' T + 1 = scM P' (T ++ [x]) := by
      unfold scM
      rw [List.length_append, List.length_singleton]
      omega
    rw [List.map_append]
    walk_at "go"
    refine iteT (by cases T <;> rfl) ?_
    subst hB
    refine forP_cut fun G hG => ?_
    walk_at "go"
    refine ⟨T.map iD, iD x, rfl, x, rfl, _, bkA x hxm, _, rfl, hG _ _ ?_⟩
    clear hG G
    obtain ⟨M0, hM0⟩ : ∃ M0, M0 = scM P' T := ⟨_, rfl⟩
    refine wpFor_inv (fun l S => ∃ P' T c4 c9, scM P' T = M0 ∧ ScX E m P k r P' T x ∧ (∀ e ∈ (BK.getD x []).take l, 0 ≤ P'.getD e (-1)) ∧ S = [.val (.int m), .val (eD E), .val (.lst ((BK.map fun L => L.map iD).map D.lst)), c3, c4, .own (.lst (P'.map D.int)), .val (.int (k : Nat)), .val (.int r), .own (.lst (T.map iD)), c9, c10, .no]) 0 ⟨P', T, _, _, hM0.symm, hX, by simp, rfl⟩ (fun l d S De2 hl2 hI hnx3 _ _ _ _ => ?_) (fun S hI => ?_)
    · obtain ⟨P'', T2, c4, c9, hMM, hX2, hdn, rfl⟩ := hI
      have e0 : 0 + l = l := Nat.zero_add l
      rw [e0] at hnx3 hdn
      rw [List.getElem?_map] at hl2
      obtain ⟨e, he, rfl⟩ := Option.map_eq_some_iff.mp hl2
      have hbk := (hmem x e).mp (by
        rw [List.getD_eq_getElem?_getD] at he ⊢
        exact List.mem_of_getElem? he)
      have hem := hbk.1
      have tk : ∀ Q : List Int, (∀ u, 0 ≤ P''.getD u (-1) → 0 ≤ Q.getD u (-1)) → 0 ≤ Q.getD e (-1) → ∀ u ∈ (BK.getD x []).take (l + 1), 0 ≤ Q.getD u (-1) := fun Q q1 q2 u hu => by
        rw [List.take_add_one, he, Option.toList_some, List.mem_append] at hu
        rcases hu with hu | hu
        · exact q1 u (hdn u hu)
        · rw [List.mem_singleton.mp hu]; exact q2
      walk_at "tg"
      walk_at "go"
      refine ⟨_, pA hX2.len hem, ?_⟩
      walk_at "go"
      by_cases cn : P''.getD e (-1) < 0
      · refine iteT (decide_eq_true cn) ⟨e, rfl, e, pX hX2.len hem, ?_⟩
        have hXa := hX2.add hP hem hbk.2 cn
        have hset := scM_set (P := P'') (e := e) (k := k) cn (by rw [hX2.len]; exact hem)
        have hT : T2.length ≤ m + 1 := by
          have : T2.length ≤ scM P'' T2 := by unfold scM; omega
          omega
        refine ⟨by rw [List.length_map]; show _ < 16777216; omega, ?_⟩
        have hx := hnx3 _ ⟨P''.set e k, T2 ++ [e], c4, .val (iD e), ?_, hXa, tk _ (fun u hu => ?_) ?_, rfl⟩
        · rw [List.map_append, List.map_set] at hx
          exact hx
        · rw [← hMM]
          unfold scM
          rw [List.length_append, List.length_singleton]
          omega
        · rw [getD_set (by rw [hX2.len]; exact hem)]
          split
          · omega
          · exact hu
        · rw [getD_set (by rw [hX2.len]; exact hem), if_pos rfl]; omega
      · refine iteF (decide_eq_false cn) ?_
        exact hnx3 _ ⟨P'', T2, c4, .val (iD e), hMM, hX2, tk _ (fun _ q => q) (by omega), rfl⟩
    · obtain ⟨P'', T2, c4, c9, hMM, hX2, hdn, rfl⟩ := hI
      rw [Nat.zero_add, List.length_map, List.take_length] at hdn
      refine hnx2 _ _ (by omega) ⟨P'', T2, c3, c4, c9, c10, rfl, by omega, hX2.end_ fun e he hxe => hdn e ((hmem x e).mpr ⟨he, hxe⟩), rfl⟩
theorem ok_safe_edges (T : Txt K mg a) : FnOk P w K mg base CX0 5 a.f_safe_edges a.fd_safe_edges ["automaton"] (spF 1 (tf_safe_edges a)) := by
  refine ok_F T.F_safe_edges sc_safe_edges rfl (fun cdv A outer s H E hr => ⟨_, (ds_cons (ds_own (i := 1) sc_safe_edges.nd rfl (Or.inl rfl) (df_lst da_nil))
      (ds_cons (ds_for (di_range1 T.n_range (dap_cons (PE.toP (de_fld (dp_var (pv 0)) T.cl_Automaton T.no_Automaton_size)) dap_nil)) (dg_name (i := 2) sc_safe_edges.nd rfl (Or.inr rfl)) (ds_one (ds_app (pv 1) (PE.toE (df_lc2 (own := [("letter", 3), ("late", 4)]) (vs1 := [4]) (di_seq (de_fld (dp_var (pv 0)) T.cl_Automaton T.no_Automaton_alphabet)) sc_safe_edges.nd (blkOk_by (own := [("letter", 3), ("late", 4)]) (N := N_safe_edges) (sc := defScope s_safe_edges) (by decide +kernel)) (by decide) (fun _ _ _ _ _ => (dg_name (i := 3) sc_safe_edges.nd rfl (Or.inl rfl))) (fun _ _ _ _ _ => dts_nil) (di1_seq (fun _ _ _ _ _ => (PE.toE (df_meth (de_var (pv 0)) T.cl_Automaton T.m_Automaton_targets (ok_Automaton_targets T) (hr.mono (by first | decide | omega)) (b0_Automaton_targets T) (fun _ _ _ => .nil) (da_cons (de_var (pv 2)) (da_cons (de_var (pv 3)) (da_cons (de_gstr T.c_SAFE) da_nil))) ar_Automaton_targets)))) (fun _ _ _ _ _ => (dg_name (i := 4) sc_safe_edges.nd rfl (Or.inl rfl))) (fun _ _ _ _ _ => dts_nil) (fun _ _ _ _ _ => (de_var (pv 4))))))))
      (ds_one (ds_retO (pv 1))))), fun ds Qd hd h => ?_⟩)
  obtain ⟨al, n, i, rs, rfl, h⟩ := h
  simp only [List.map_cons, List.map_nil]
  obtain ⟨hg, h⟩ := h
  have h3 := alpha_len hg.alp
  have hn := hg.hi
  have hL : al.length ≤ sizeLine := by show _ ≤ 16777216; omega
  refine seq_cut fun R hR => ?_
  walk_at "go"
  refine ⟨by decide, ?_⟩
  subst hR
  refine seq_cut fun R hR => ?_
  refine for_cutG fun G hG => ?_
  unfold autD
  walk_at "go"
  rw [rng_iD]
  refine ⟨by omega, by omega, hG _ ?_⟩
  clear hG G
  refine wpFor_inv (fun m S => ∃ E c2 c3 c4, E.length = m ∧ (∀ u v, u < m → (v ∈ nxE E u ↔ ∃ c, StepW rs true u c v)) ∧ (∀ u, (nxE E u).length ≤ 195) ∧ S = [.val (autD a.C_Automaton al n i rs), .own (eD E), c2, c3, c4]) 0 ⟨[], _, _, _, rfl, fun u v hu => absurd hu (Nat.not_lt_zero _), fun u => by unfold nxE; simp, rfl⟩ (fun m d S De' hm hI hnx _ _ _ _ => ?_) (fun S hI => ?_)
  · obtain ⟨E, c2, c3, c4, hEl, hmem, hfew, rfl⟩ := hI
    have e0 : 0 + m = m := Nat.zero_add m
    rw [e0] at hnx hmem hEl
    rw [List.getElem?_map] at hm
    obtain ⟨m', hm', rfl⟩ := Option.map_eq_some_iff.mp hm
    obtain ⟨hml, hmm⟩ := List.getElem?_eq_some_iff.mp hm'
    rw [List.length_range] at hml
    rw [List.getElem_range] at hmm
    subst hmm
    walk_at "tg"
    unfold autD eD
    walk_at "go"
    have hin : [Str.ofString "alphabet", Str.ofString "size", Str.ofString "initial", Str.ofString "own_moves"].contains (Str.ofString "targets") = false := by decide
    refine ⟨65, by rw [List.length_map]; show _ ≤ 16777216; omega, wpMap_lets (rs := rs) (w := true) (s := m) (B := 65) (fun c hc k hk => ⟨by decide, al, n, i, rs, rfl, m, rfl, c, rfl, true, by rw [if_pos rfl]; exact congrArg D.str safe_eq, hg, hml, hc, fun L hl hm2 => ?_⟩) fun M hM hm2 => ?_⟩
    · have hl65 : L.length ≤ 65 := Nat.le_trans hl (Nat.le_trans (atA_tgts hg _) hn)
      exact ⟨by rw [List.length_map]; exact hl65, wpMap_map id (fun d _ k q => q) (by rw [List.map_id]; exact hk L hl65 hm2)⟩
    refine ⟨by rw [List.length_map]; show _ < 16777216; omega, ?_⟩
    have hgr : ∀ u, nxE (E ++ [M]) u = if u = m then M else nxE E u := fun u => by
      unfold nxE
      rw [List.getD_eq_getElem?_getD]
      by_cases c : u = m
      · subst c
        rw [if_pos rfl, ← hEl, List.getElem?_append_right (Nat.le_refl _), Nat.sub_self]
        rfl
      · rw [if_neg c]
        by_cases c2 : u < m
        · rw [List.getElem?_append_left (by omega), List.getD_eq_getElem?_getD]
        · rw [List.getElem?_eq_none (by rw [List.length_append, List.length_singleton]; omega), List.getD_eq_getElem?_getD, List.getElem?_eq_none (by omega)]
    have hM195 : M.length ≤ 195 := Nat.le_trans hM (by have := Nat.mul_le_mul_right 65 h3; omega)
    have hx := hnx _ ⟨E ++ [M], .val (iD m), c3, c4, by rw [List.length_append, List.length_singleton, hEl], fun u v hu => ?_, fun u => ?_, rfl⟩
    · unfold autD eD at hx
      rw [List.map_append] at hx
      exact hx
    · rw [hgr]
      by_cases c : u = m
      · subst c
        rw [if_pos rfl, hm2]
        constructor
        · rintro ⟨c, _, h2⟩; exact ⟨c, h2⟩
        · rintro ⟨c, h2⟩
          obtain ⟨r, h4, _, h5, _⟩ := h2
          exact ⟨c, h5 ▸ hg.let' r h4, r, h4, by assumption, h5, by assumption⟩
      · rw [if_neg c]; exact hmem u v (by omega)
    · rw [hgr]
      split
      · exact hM195
      · exact hfew u
  · obtain ⟨E, c2, c3, c4, hEl, hmem, hfew, rfl⟩ := hI
    rw [Nat.zero_add, List.length_map, List.length_range] at hEl hmem
    show R _
    subst hR
    walk_at "go"
    refine h E ⟨⟨hEl, fun u v hv => ?_, fun u => by have := hfew u; omega⟩, hmem⟩
    have hu : u < n := by
      apply Classical.byContradiction
      intro c
      unfold nxE at hv
      rw [List.getD_eq_getElem?_getD, List.getElem?_eq_none (by omega)] at hv
      cases hv
    obtain ⟨c, r, h1, _, _, h4, _⟩ := (hmem u v hu).mp hv
    rw [← h4]; exact hg.tgt r h1
theorem ok_normal (T : Txt K mg a) : FnOk P w K mg base CX0 6 a.f_normal a.fd_normal ["automaton"] (spF 1 (tf_normal a)) := by
  refine ok_F T.F_normal sc_normal rfl (fun cdv A outer s H E hr => ⟨_, (ds_cons (ds_set (i := 1) sc_normal.nd rfl (Or.inl rfl) (PE.toE (df_fn (ok_strong_parts T) (hr.mono (by first | decide | omega)) T.g_strong_parts (k_strong_parts T) (b0_strong_parts T) (fun _ _ _ => .nil) (da_cons (de_fld (dp_var (pv 0)) T.cl_Automaton T.no_Automaton_size) (da_cons (PE.toE (df_fn (ok_safe_edges T) (hr.mono (by first | decide | omega)) T.g_safe_edges (k_safe_edges T) (b0_safe_edges T) (fun _ _ _ => .nil) (da_cons (de_var (pv 0)) da_nil) ar_safe_edges)) da_nil)) ar_strong_parts)))
      (ds_cons (ds_own (i := 2) sc_normal.nd rfl (Or.inl rfl) (df_lst da_nil))
      (ds_cons (ds_for (di_seq (de_meth0 (de_var (pv 0)) T.cl_Automaton T.m_Automaton_transitions (ok_Automaton_transitions T) (hr.mono (by first | decide | omega)) (b0_Automaton_transitions T) (fun _ _ _ => .nil) ar_Automaton_transitions)) (dg_tup (n := 4) (dgs_cons (dg_name (i := 3) sc_normal.nd rfl (Or.inl rfl)) (dgs_cons (dg_name (i := 4) sc_normal.nd rfl (Or.inl rfl)) (dgs_cons (dg_name (i := 5) sc_normal.nd rfl (Or.inl rfl)) (dgs_cons (dg_name (i := 6) sc_normal.nd rfl (Or.inl rfl)) dgs_nil))))) (ds_one (ds_app (pv 2) (de_tup (da_cons (de_var (pv 3)) (da_cons (de_var (pv 4)) (da_cons (de_var (pv 5)) (da_cons (de_if (dt_eq hr.units (PE.toP (de_item (dp_var (pv 1)) (dp_var (pv 3)))) (PE.toP (de_item (dp_var (pv 1)) (dp_var (pv 5))))) (de_var (pv 6)) (de_gstr T.c_SLIP)) da_nil))))))))
      (ds_frz 2 (ds_one (ds_retF (df_makeK (perm := [0, 1, 2, 3]) T.mk_Automaton (ok_Automaton___init__ T) (hr.mono (by first | decide | omega)) T.g_Automaton (kb0_Automaton___init__ T) (da_cons (de_fld (dp_var (pv 0)) T.cl_Automaton T.no_Automaton_alphabet) (da_cons (de_fld (dp_var (pv 0)) T.cl_Automaton T.no_Automaton_size) (da_cons (de_var (pv 2)) da_nil))) (dw_cons (de_fld (dp_var (pv 0)) T.cl_Automaton T.no_Automaton_initial) dw_nil) ar_Automaton___init__))))))), fun ds Qd hd h => ?_⟩)
  obtain ⟨al, n, i, rs, rfl, h⟩ := h
  simp only [List.map_cons, List.map_nil]
  obtain ⟨hg, h⟩ := h
  have hn := hg.hi
  have hrl := hg.len
  refine seq_cut fun R hR => ?_
  unfold autD
  walk_at "go"
  refine ⟨al, n, i, rs, rfl, hg, fun E hE => ⟨n, rfl, E, rfl, hE.ok, by omega, fun P hP1 hP2 hP3 => ?_⟩⟩
  classical
  have key : ∀ r ∈ rs, wC (nrmR rs r).w = if P.getD r.s 0 = P.getD r.t 0 then wC r.w else wC false := fun r hr => by
    have e : P.getD r.s 0 = P.getD r.t 0 ↔ RchS rs r.s r.t ∧ RchS rs r.t r.s := by
      rw [hP3 _ _ (hg.src r hr) (hg.tgt r hr)]
      exact and_congr (hE.rch hg (hg.src r hr)) (hE.rch hg (hg.tgt r hr))
    unfold nrmR
    cases hw : r.w
    · split <;> simp
    · have h1 : RchS rs r.s r.t := .one ⟨r, hr, rfl, rfl, rfl, fun _ => hw⟩
      rw [Bool.true_and]
      by_cases h2 : RchS rs r.t r.s
      · rw [if_pos (e.mpr ⟨h1, h2⟩), decide_eq_true h2]
      · rw [if_neg (fun q => h2 (e.mp q).2), decide_eq_false h2]
  subst hR
  refine seq_cut fun R hR => ?_
  walk_at "go"
  refine ⟨by decide, ?_⟩
  subst hR
  refine seq_cut fun R hR => ?_
  refine for_cutG fun G hG => ?_
  walk_at "go"
  rw [show D.ins a.C_Automaton [Str.ofString "alphabet", Str.ofString "size", Str.ofString "initial", Str.ofString "own_moves"] [D.str al, D.int n, D.int i, D.dic true true (List.map keyA (keysA al n)) (List.map (movA rs) (keysA al n))] = autD a.C_Automaton al n i rs from rfl]
  refine ⟨by decide, al, n, i, rs, rfl, hg, ?_⟩
  rw [sortR_map]
  have hsl : (sortR rs).length = rs.length := (sortR_perm rs).length_eq
  refine hG _ ?_
  clear hG G
  refine wpFor_inv (fun m S => ∃ c3 c4 c5 c6, S = [.val (autD a.C_Automaton al n i rs), .val (.lst (P.map iD)), .own (.lst ((((sortR rs).take m).map (nrmR rs)).map rowD)), c3, c4, c5, c6]) 0 ⟨_, _, _, _, rfl⟩ (fun m d S De' hm hI hnx _ _ _ _ => ?_) (fun S hI => ?_)
  · obtain ⟨c3, c4, c5, c6, rfl⟩ := hI
    have e0 : 0 + m = m := Nat.zero_add m
    rw [e0] at hnx ⊢
    rw [List.getElem?_map] at hm
    obtain ⟨r, hr, rfl⟩ := Option.map_eq_some_iff.mp hm
    have hmem := (sortR_perm rs).mem_iff.mp (List.mem_of_getElem? hr)
    walk_at "tg"
    unfold rowD
    refine ⟨_, rfl, rfl, _, _, rfl, _, _, rfl, _, _, rfl, _, _, rfl, rfl, ?_⟩
    walk_at "go"
    have hml := (List.getElem?_eq_some_iff.mp hr).1
    have hsl2 : ((((sortR rs).take m).map (nrmR rs)).map fun r : Row => D.tup [D.int r.s, D.str [r.l], D.int r.t, D.str (wC r.w)]).length < 16777216 := by
      rw [List.length_map, List.length_map, List.length_take]; omega
    have gp : ∀ u, u < n → atI (P.map iD) (u : Int) = some (iD (P.getD u 0)) := fun u hu => by
      refine atI_nat ?_
      rw [List.getElem?_map, List.getD_eq_getElem?_getD, List.getElem?_eq_getElem (by omega)]
      rfl
    have tk : ((sortR rs).take (m + 1)).map (nrmR rs) = ((sortR rs).take m).map (nrmR rs) ++ [nrmR rs r] := by
      rw [List.take_add_one, hr]; simp
    refine ⟨_, gp _ (hg.src r hmem), _, gp _ (hg.tgt r hmem), rfl, rfl, ?_⟩
    have kr := key r hmem
    rw [show deqv (iD (P.getD r.s 0)) (iD (P.getD r.t 0)) = decide (P.getD r.s 0 = P.getD r.t 0) by
      unfold iD; rw [deqv_int, Bool.eq_iff_iff, decide_eq_true_iff, decide_eq_true_iff]; omega]
    have fin := hnx _ ⟨.val (.int r.s), .val (.str [r.l]), .val (.int r.t), .val (.str (wC r.w)), rfl⟩
    rw [tk, List.map_append] at fin
    unfold rowD at fin
    simp only [List.map_cons, List.map_nil] at fin
    rw [kr] at fin
    by_cases hp : P.getD r.s 0 = P.getD r.t 0
    · rw [if_pos hp] at fin
      rw [if_pos (decide_eq_true hp)]
      exact ⟨by show 4 ≤ 16777216; decide, hsl2, fin⟩
    · rw [if_neg hp] at fin
      rw [if_neg (by simpa using hp)]
      refine ⟨by show 4 ≤ 16777216; decide, hsl2, ?_⟩
      rw [slip_eq]
      exact fin
  · obtain ⟨c3, c4, c5, c6, rfl⟩ := hI
    rw [Nat.zero_add, List.length_map, List.take_length]
    show R _
    subst hR
    unfold autD
    walk_at "go"
    have hgs : GoodA al n i ((sortR rs).map (nrmR rs)) := good_nrm (hg.permA (sortR_perm rs))
    exact ⟨n, rfl, _, rfl, i, rfl, hgs, h⟩
theorem ok_components (T : Txt K mg a) : FnOk P w K mg base CX0 7 a.f_components a.fd_components ["automaton"] (spF 1 (tf_components a)) := by
  refine ok_F T.F_components sc_components rfl (fun cdv A outer s H E hr => ⟨_, (ds_cons (ds_set (i := 1) sc_components.nd rfl (Or.inl rfl) (PE.toE (df_fn (ok_strong_parts T) (hr.mono (by first | decide | omega)) T.g_strong_parts (k_strong_parts T) (b0_strong_parts T) (fun _ _ _ => .nil) (da_cons (de_fld (dp_var (pv 0)) T.cl_Automaton T.no_Automaton_size) (da_cons (PE.toE (df_fn (ok_safe_edges T) (hr.mono (by first | decide | omega)) T.g_safe_edges (k_safe_edges T) (b0_safe_edges T) (fun _ _ _ => .nil) (da_cons (de_var (pv 0)) da_nil) ar_safe_edges)) da_nil)) ar_strong_parts)))
      (ds_cons (ds_own (i := 2) sc_components.nd rfl (Or.inl rfl) df_dnewK)
      (ds_cons (ds_for (di_range1 T.n_range (dap_cons (PE.toP (de_fld (dp_var (pv 0)) T.cl_Automaton T.no_Automaton_size)) dap_nil)) (dg_name (i := 3) sc_components.nd rfl (Or.inl rfl)) (ds_one (ds_dput (u65 hr) (pv 2) (PE.toP (de_item (dp_var (pv 1)) (dp_var (pv 3)))) (de_add (PE.toP (de_dget2 (u65 hr) (dp_var (pv 2)) (PE.toP (de_item (dp_var (pv 1)) (dp_var (pv 3)))) (PE.toE (df_lst da_nil)))) (PE.toP (PE.toE (df_lst (da_cons (de_var (pv 3)) da_nil))))))))
      (ds_one (ds_retF (df_sorted (u70 hr) T.n_sorted (dap_cons (PE.toP (PE.toE (df_listVals T.n_list (dp_var (pv 2))))) dap_nil))))))), fun ds Qd hd h => ?_⟩)
  obtain ⟨al, n, i, rs, rfl, h⟩ := h
  simp only [List.map_cons, List.map_nil]
  obtain ⟨hg, h⟩ := h
  have hn := hg.hi
  refine seq_cut fun R hR => ?_
  unfold autD
  walk_at "go"
  refine ⟨al, n, i, rs, rfl, hg, fun E hE => ⟨n, rfl, E, rfl, hE.ok, by omega, fun P hP1 hP2 hP3 => ?_⟩⟩
  subst hR
  refine seq_cut fun R hR => ?_
  walk_at "go"
  subst hR
  refine seq_cut fun R hR => ?_
  refine for_cutG fun G hG => ?_
  walk_at "go"
  rw [rng_iD]
  refine ⟨by omega, by omega, hG _ ?_⟩
  clear hG G
  refine wpFor_inv (fun m S => ∃ ks c3, LotI P m ks ∧ S = [.val (autD a.C_Automaton al n i rs), .val (.lst (P.map iD)), .own (.dic false false (ks.map iD) (ks.map fun k => .lst ((lotC P m k).map iD))), c3]) 0 ⟨[], _, ⟨List.nodup_nil, fun k => ⟨nofun, fun ⟨s, h, _⟩ => absurd h (Nat.not_lt_zero s)⟩⟩, rfl⟩ (fun m d S De' hm hI hnx _ _ _ _ => ?_) (fun S hI => ?_)
  · obtain ⟨ks, c3, hL, rfl⟩ := hI
    have e0 : 0 + m = m := Nat.zero_add m
    rw [e0] at hnx hL
    rw [List.getElem?_map] at hm
    obtain ⟨m', hm', rfl⟩ := Option.map_eq_some_iff.mp hm
    obtain ⟨hml, hmm⟩ := List.getElem?_eq_some_iff.mp hm'
    rw [List.length_range] at hml
    rw [List.getElem_range] at hmm
    subst hmm
    walk_at "tg"
    unfold autD
    walk_at "go"
    have hk := hL.len
    have ekl : (ks.map iD).length < sizeLine := by rw [List.length_map]; show _ < 16777216; omega
    have elc : ((lotC P m (P.getD m 0)).map iD).length + [iD m].length ≤ sizeLine := by
      have := List.length_filter_le (fun s => decide (P.getD s 0 = P.getD m 0)) (List.range m)
      rw [List.length_range] at this
      rw [List.length_map]
      show (lotC P m (P.getD m 0)).length + 1 ≤ 16777216
      unfold lotC
      omega
    have gp : atI (P.map iD) (m : Int) = some (iD (P.getD m 0)) := by
      refine atI_nat ?_
      rw [List.getElem?_map, List.getD_eq_getElem?_getD, List.getElem?_eq_getElem (by omega)]
      rfl
    have hget : (dgetD (ks.map iD) (ks.map fun k => D.lst ((lotC P m k).map iD)) (iD (P.getD m 0))).getD (.lst []) = .lst ((lotC P m (P.getD m 0)).map iD) := by
      rw [dget_map (kf := iD) (vf := fun k => D.lst ((lotC P m k).map iD)) iD_eq]
      by_cases c : P.getD m 0 ∈ ks
      · rw [if_pos c]; rfl
      · rw [if_neg c, lotC_nil fun q => c ((hL.mem _).mpr q)]; rfl
    rw [e0]
    refine ⟨_, gp, rfl, by show 0 ≤ 16777216; decide, by show 1 ≤ 16777216; decide, ?_⟩
    rw [hget]
    refine ⟨elc, _, gp, rfl, ekl, ?_⟩
    have one : ∀ k, k ≠ P.getD m 0 → lotC P (m + 1) k = lotC P m k := fun k hk => by
      rw [lotC_succ, if_neg fun q => hk q.symm, List.append_nil]
    have eme : D.lst ((lotC P m (P.getD m 0)).map iD ++ [iD m]) = D.lst ((lotC P (m + 1) (P.getD m 0)).map iD) := by
      rw [lotC_succ, if_pos rfl, List.map_append]; rfl
    rw [eme]
    by_cases c : P.getD m 0 ∈ ks
    · obtain ⟨d1, d2⟩ := dput_map (kf := iD) (vf := fun k => D.lst ((lotC P m k).map iD)) (v := D.lst ((lotC P (m + 1) (P.getD m 0)).map iD)) iD_eq c
      rw [d1, d2]
      refine hnx _ ⟨ks, .val (iD m), hL.old c, ?_⟩
      rw [show (ks.map fun k => if k = P.getD m 0 then D.lst ((lotC P (m + 1) (P.getD m 0)).map iD) else D.lst ((lotC P m k).map iD)) = ks.map fun k => D.lst ((lotC P (m + 1) k).map iD) from List.map_congr_left fun k _ => by
        by_cases e : k = P.getD m 0
        · rw [if_pos e, e]
        · rw [if_neg e, one k e]]
      rfl
    · obtain ⟨d1, d2⟩ := dput_new (kf := iD) (vf := fun k => D.lst ((lotC P m k).map iD)) (v := D.lst ((lotC P (m + 1) (P.getD m 0)).map iD)) iD_eq c
      rw [d1, d2]
      refine hnx _ ⟨ks ++ [P.getD m 0], .val (iD m), hL.new c, ?_⟩
      rw [List.map_append (f := fun k => D.lst ((lotC P (m + 1) k).map iD)), show (ks.map fun k => D.lst ((lotC P (m + 1) k).map iD)) = ks.map fun k => D.lst ((lotC P m k).map iD) from List.map_congr_left fun k hk => by
        rw [one k fun e => c (e ▸ hk)]]
      rfl
  · obtain ⟨ks, c3, hL, rfl⟩ := hI
    rw [Nat.zero_add, List.length_map, List.length_range] at hL
    show R _
    subst hR
    unfold autD
    walk_at "go"
    rw [Nat.zero_add, List.length_map, List.length_range]
    have hk := hL.len
    rw [show (ks.map fun k => D.lst ((lotC P n k).map iD)) = (ks.map fun k => lotC P n k).map fun A => D.lst (A.map iD) by rw [List.map_map]; rfl]
    obtain ⟨Ls, e1, e2⟩ : ∃ Ls : List (List Nat), sortD ((ks.map fun k => lotC P n k).map fun A => D.lst (A.map iD)) = Ls.map (fun A => D.lst (A.map iD)) ∧ Ls.Perm (ks.map fun k => lotC P n k) := by
      obtain ⟨Ls, e, p⟩ := perm_map_ex (sortD_perm ((ks.map fun k => lotC P n k).map fun A => D.lst (A.map iD)))
      exact ⟨Ls, e, p⟩
    rw [e1]
    exact ⟨lots_can (by rw [List.length_map]; omega), h Ls (hL.comp hg hE hP3 e2) (e1 ▸ sortD_sorted _)⟩
theorem ok__law_mixed (T : Txt K mg a) : FnOk P w K mg base CX0 2 a.f__law_mixed a.fd__law_mixed ["_law_bag", "_law_rows_here"] (spF 2 tf__law_mixed) := by
  refine ok_F T.F__law_mixed sc__law_mixed rfl (fun cdv A outer s H E hr => ⟨_, (ds_cons (ds_own (i := 2) sc__law_mixed.nd rfl (Or.inl rfl) (df_lst da_nil))
      (ds_cons (ds_for (di_seq (de_var (pv 1))) (dg_name (i := 3) sc__law_mixed.nd rfl (Or.inl rfl)) (ds_one (ds_ins (pv 2) (da_cons (de_fn (ok__law_pull T) (hr.mono (by first | decide | omega)) T.g__law_pull (k__law_pull T) (b0__law_pull T) (fun _ _ _ => .nil) (da_cons (de_var (pv 0)) (da_cons (de_add (PE.toP (de_len T.n_len (dap_cons (dp_var (pv 2)) dap_nil))) (PE.toP (de_int))) da_nil)) ar__law_pull) (da_cons (de_var (pv 3)) da_nil)))))
      (ds_one (ds_retO (pv 2))))), fun ds Qd hd h => ?_⟩)
  obtain ⟨xs, rfl, h⟩ := h
  simp only [List.map_cons, List.map_nil]
  obtain ⟨hl, h⟩ := h
  refine seq_cut fun R hR => ?_
  walk_at "go"
  refine ⟨by decide, ?_⟩
  subst hR
  refine seq_cut fun R hR => ?_
  walk_at "go"
  refine wpFor_inv (fun j S => ∃ c3 ys, ys.Perm (xs.take j) ∧ S = [.val .bag, .val (.lst xs), .own (.lst ys), c3]) 0 ⟨_, _, by simp, rfl⟩ (fun j d S De' hj hI hnx _ _ _ _ => ?_) (fun S hI => ?_)
  · obtain ⟨c3, ys, p, rfl⟩ := hI
    have hy : ys.length ≤ 100000 := by rw [p.length_eq, List.length_take]; omega
    walk_at "go"
    refine ⟨by omega, by omega, fun n n0 n1 => ⟨by omega, by omega, by show _ < 16777216; omega, hnx _ ⟨_, _, ?_, rfl⟩⟩⟩
    have e0 : 0 + j = j := Nat.zero_add j
    rw [e0] at p ⊢
    exact ins_perm p hj _
  · obtain ⟨c3, ys, p, rfl⟩ := hI
    rw [Nat.zero_add, List.take_length] at p
    show R _
    subst hR
    walk_at "go"
    exact h ys p
theorem ok__law_rows (T : Txt K mg a) : FnOk P w K mg base CX0 3 a.f__law_rows a.fd__law_rows ["_law_bag", "_law_alphabet_here", "_law_size", "_law_guesses", "_law_safe"] (spE 5 tf__law_rows) := by
  refine ok_E T.F__law_rows sc__law_rows rfl (fun cdv A outer s H E hr => ⟨_, (ds_cons (ds_set (i := 5) sc__law_rows.nd rfl (Or.inl rfl) (PE.toE (df_lst da_nil)))
      (ds_cons (ds_for (di_range1 T.n_range (dap_cons (dp_var (pv 2)) dap_nil)) (dg_name (i := 6) sc__law_rows.nd rfl (Or.inr rfl)) (ds_one (ds_for (di_seq (de_var (pv 1))) (dg_name (i := 7) sc__law_rows.nd rfl (Or.inr rfl)) (ds_cons (ds_set (i := 8) sc__law_rows.nd rfl (Or.inl rfl) (de_add (PE.toP (de_int)) (PE.toP (de_if (dt_val (dp_var (pv 3))) (de_mul (PE.toP (de_fn (ok__law_pull T) (hr.mono (by first | decide | omega)) T.g__law_pull (k__law_pull T) (b0__law_pull T) (fun _ _ _ => .nil) (da_cons (de_var (pv 0)) (da_cons (de_int) da_nil)) ar__law_pull)) (PE.toP (de_fn (ok__law_pull T) (hr.mono (by first | decide | omega)) T.g__law_pull (k__law_pull T) (b0__law_pull T) (fun _ _ _ => .nil) (da_cons (de_var (pv 0)) (da_cons (de_int) da_nil)) ar__law_pull))) (de_int)))))
      (ds_cons (ds_set (i := 9) sc__law_rows.nd rfl (Or.inl rfl) (de_slice (PE.toP (PE.toE (df_fn (ok__law_mixed T) (hr.mono (by first | decide | omega)) T.g__law_mixed (k__law_mixed T) (b0__law_mixed T) (fun _ _ _ => .nil) (da_cons (de_var (pv 0)) (da_cons (PE.toE (df_listRange T.n_list T.n_range (dp_var (pv 2)))) da_nil)) ar__law_mixed))) do_none (do_some (dp_var (pv 8)))))
      (ds_one (ds_set (i := 5) sc__law_rows.nd rfl (Or.inl rfl) (de_add (dp_var (pv 5)) (PE.toP (PE.toE (df_lc (own := [("_law_goal", 10)]) (di_seq (de_var (pv 9))) sc__law_rows.nd (blkOk_by (own := [("_law_goal", 10)]) (N := N__law_rows) (sc := defScope s__law_rows) (by decide +kernel)) (fun _ _ _ _ _ => (dg_name (i := 10) sc__law_rows.nd rfl (Or.inl rfl))) (fun _ _ _ _ _ => dts_nil) (fun _ _ _ _ _ => (de_tup (da_cons (de_var (pv 6)) (da_cons (de_var (pv 7)) (da_cons (de_var (pv 10)) (da_cons (de_if (dt_eq hr.units (PE.toP (de_fn (ok__law_pull T) (hr.mono (by first | decide | omega)) T.g__law_pull (k__law_pull T) (b0__law_pull T) (fun _ _ _ => .nil) (da_cons (de_var (pv 0)) (da_cons (de_var (pv 4)) da_nil)) ar__law_pull)) (PE.toP (de_int))) (de_str) (de_str)) da_nil)))))))))))))))))
      (ds_one (ds_ret (de_var (pv 5)))))), fun ds Qd hd h => ?_⟩)
  obtain ⟨al, n, g, sf, rfl, h⟩ := h
  simp only [List.map_cons, List.map_nil]
  obtain ⟨⟨ha, hn, s0, s1⟩, h⟩ := h
  have h3 := alpha_len ha
  have hL : al.length ≤ sizeLine := by show _ ≤ 16777216; omega
  have slip0 : (Str.ofString "slip").cps.toList = wC false := slip_eq
  have safe0 : (Str.ofString "safe").cps.toList = wC true := safe_eq
  refine seq_cut fun R hR => ?_
  walk_at "go"
  refine ⟨by decide, ?_⟩
  subst hR
  refine seq_cut fun R hR => ?_
  refine for_cutG fun G hG => ?_
  walk_at "go"
  refine ⟨by omega, by omega, hG _ ?_⟩
  clear hG G
  refine wpFor_inv (fun j S => ∃ rs c6 c7 c8 c9, Part n g (keysA al j) rs ∧ S = [.val .bag, .val (.str al), .val (.int n), .val (.bl g), .val (.int sf), .val (.lst (rs.map rowD)), c6, c7, c8, c9, .no]) 0 ⟨[], _, _, _, _, by simpa [keysA] using Part.nil, rfl⟩ (fun j d S De' hj hI hnx _ _ _ _ => ?_) (fun S hI => ?_)
  · obtain ⟨rs, c6, c7, c8, c9, hp, rfl⟩ := hI
    have e0 : 0 + j = j := Nat.zero_add j
    rw [e0] at hp hnx
    have hjn : j < n := by
      have := (List.getElem?_eq_some_iff.mp hj).1
      rw [List.length_map, List.length_range] at this
      omega
    obtain rfl : d = .int j := by
      rw [List.getElem?_map, List.getElem?_range (by omega)] at hj
      simpa using hj.symm
    walk_at "tg"
    refine for_cutG fun G hG => ?_
    walk_at "go"
    refine hG _ ?_
    clear hG G
    refine wpFor_inv (fun m S => ∃ rs c7 c8 c9, Part n g (keysA al j ++ (al.take m).map fun l => (j, l)) rs ∧ S = [.val .bag, .val (.str al), .val (.int n), .val (.bl g), .val (.int sf), .val (.lst (rs.map rowD)), .val (.int j), c7, c8, c9, .no]) 0 ⟨rs, _, _, _, by simpa using hp, rfl⟩ (fun m d S De2 hm hI hnx2 _ _ _ _ => ?_) (fun S hI => ?_)
    · clear rs hp
      obtain ⟨rs, c7, c8, c9, hp, rfl⟩ := hI
      have e0 : 0 + m = m := Nat.zero_add m
      rw [e0] at hp hnx2
      rw [List.getElem?_map] at hm
      obtain ⟨l, hm', rfl⟩ := Option.map_eq_some_iff.mp hm
      have hlen : rs.length ≤ 1200 := by
        have h1 := hp.len
        have h2 : (keysA al j ++ (al.take m).map fun l => (j, l)).length ≤ 198 := by
          rw [List.length_append, List.length_map, List.length_take, keysA_len]
          have := Nat.mul_le_mul (show j ≤ 65 by omega) h3
          omega
        omega
      walk_at "tg"
      refine seq_cut fun R2 hR2 => ?_
      have join : ∀ mny : Nat, 1 ≤ mny → mny ≤ 3 → (g = false → mny = 1) → R2 [.val .bag, .val (.str al), .val (.int n), .val (.bl g), .val (.int sf), .val (.lst (rs.map rowD)), .val (.int j), .val (.str [l]), .val (.int mny), c9, .no] := ?_
      · walk_at "go"
        cases g
        · exact join 1 (by decide) (by decide) (fun _ => rfl)
        · refine ⟨by decide, by decide, fun x x0 x1 => ⟨by decide, by decide, fun y y0 y1 => ?_⟩⟩
          have hxy : ∃ z : Nat, x * y = z ∧ z ≤ 2 := by
            have : x = 0 ∨ x = 1 := by omega
            rcases this with rfl | rfl
            · exact ⟨0, by simp, by decide⟩
            · exact ⟨y.toNat, by omega, by omega⟩
          obtain ⟨z, ez, hz⟩ := hxy
          refine ⟨.inl ⟨by omega, by omega⟩, ?_⟩
          rw [ez, show (1 : Int) + (z : Int) = ((1 + z : Nat) : Int) by omega]
          exact join (1 + z) (by omega) (by omega) (fun q => by cases q)
      intro mny m1 m3 md
      subst hR2
      refine seq_cut fun R2 hR2 => ?_
      walk_at "go"
      refine ⟨by omega, by omega, by rw [List.length_map, List.length_range]; omega, fun ys py => ?_⟩
      obtain ⟨L, rfl, pL⟩ := perm_map_ex (f := fun i : Nat => D.int (0 + (i : Int))) py
      rw [cut_take', ← List.map_take]
      subst hR2
      walk_at "go"
      have hnL : L.length = n := by rw [pL.length_eq, List.length_range]; omega
      refine ⟨by rw [List.length_map, List.length_take]; show _ ≤ 16777216; omega, ?_⟩
      refine wpMap_draw (kf := fun i : Nat => D.int (0 + (i : Int))) (fun (t : Nat) (w : Bool) => rowD ⟨j, l, t, w⟩) (fun t _ k q => ⟨s0, s1, fun x x0 x1 => ⟨rfl, rfl, ?_⟩⟩) (fun ws hw => ?_)
      · have := q (!decide (x = 0))
        rw [deqv_int, slip0, safe0, Int.zero_add]
        by_cases hx : x = 0 <;> simp [hx, rowD] at this ⊢ <;> exact ⟨by show 4 ≤ 16777216; decide, this⟩
      · refine ⟨by rw [List.length_map, List.length_zipWith, hw, List.length_take]; show _ ≤ 16777216; omega, hnx2 _ ⟨rs ++ List.zipWith (fun t w => Row.mk j l t w) (L.take mny) ws, .val (.str [l]), .val (.int mny), .val (.lst ((L.take mny).map fun i : Nat => .int (0 + (i : Int)))), ?_, ?_⟩⟩
        · have hlm : l ∈ al := List.mem_of_getElem? hm'
          have nd := alpha_nd ha
          have := hp.step (k := (j, l)) (ts := L.take mny) (ws := ws) ?_ hw ((pL.nodup_iff.mpr List.nodup_range).sublist (List.take_sublist _ _)) (fun t ht => by have := pL.mem_iff.mp (List.mem_of_mem_take ht); rw [List.mem_range] at this; omega) ?_ (by rw [List.length_take]; omega) (fun q => by rw [List.length_take, hnL, md q]; omega)
          · rw [show m + 1 = m + 1 from rfl, List.take_add_one, hm', Option.toList_some, List.map_append, ← List.append_assoc]
            exact this
          · intro hk
            rcases List.mem_append.mp hk with q | q
            · have := (keysA_mem.mp q).1
              simp at this
            · obtain ⟨l', hl', e⟩ := List.mem_map.mp q
              simp only [Prod.mk.injEq, true_and] at e
              subst e
              have := nodup_at (f := fun x : Nat => x) (by simpa using nd) hm'
              exact this (by simpa using hl')
          · intro e
            have := congrArg List.length e
            rw [List.length_take, List.length_nil, hnL] at this
            omega
        · rw [List.map_append, List.map_zipWith]
    · clear rs hp
      obtain ⟨rs, c7, c8, c9, hp, rfl⟩ := hI
      rw [Nat.zero_add, List.length_map, List.take_length, ← keysA_succ] at hp
      exact hnx _ ⟨rs, _, _, _, _, hp, rfl⟩
  · obtain ⟨rs, c6, c7, c8, c9, hp, rfl⟩ := hI
    rw [Nat.zero_add, List.length_map, List.length_range, Int.toNat_natCast] at hp
    show R _
    subst hR
    walk_at "go"
    exact h rs hp
theorem ok__law_spec (T : Txt K mg a) : FnOk P w K mg base CX0 4 a.f__law_spec a.fd__law_spec ["_law_bag", "_law_most", "_law_guesses"] (spF 3 tf__law_spec) := by
  refine ok_F T.F__law_spec sc__law_spec rfl (fun cdv A outer s H E hr => ⟨_, (ds_cons (ds_set (i := 3) sc__law_spec.nd rfl (Or.inl rfl) (de_fn (ok__law_alphabet T) (hr.mono (by first | decide | omega)) T.g__law_alphabet (k__law_alphabet T) (b0__law_alphabet T) (fun _ _ _ => .nil) (da_cons (de_var (pv 0)) (da_cons (de_int) da_nil)) ar__law_alphabet))
      (ds_cons (ds_set (i := 4) sc__law_spec.nd rfl (Or.inl rfl) (de_add (PE.toP (de_int)) (PE.toP (de_fn (ok__law_pull T) (hr.mono (by first | decide | omega)) T.g__law_pull (k__law_pull T) (b0__law_pull T) (fun _ _ _ => .nil) (da_cons (de_var (pv 0)) (da_cons (de_var (pv 1)) da_nil)) ar__law_pull))))
      (ds_cons (ds_set (i := 5) sc__law_spec.nd rfl (Or.inl rfl) (de_fn (ok__law_rows T) (hr.mono (by first | decide | omega)) T.g__law_rows (k__law_rows T) (b0__law_rows T) (fun _ _ _ => .nil) (da_cons (de_var (pv 0)) (da_cons (de_var (pv 3)) (da_cons (de_var (pv 4)) (da_cons (de_var (pv 2)) (da_cons (de_fn (ok__law_any T) (hr.mono (by first | decide | omega)) T.g__law_any (k__law_any T) (b0__law_any T) (fun _ _ _ => .nil) (da_cons (de_var (pv 0)) (da_cons (PE.toE (df_lst (da_cons (de_int) (da_cons (de_int) (da_cons (de_int) (da_cons (de_int) da_nil)))))) da_nil)) ar__law_any) da_nil))))) ar__law_rows))
      (ds_one (ds_retF (df_lst (da_cons (de_var (pv 3)) (da_cons (de_var (pv 4)) (da_cons (PE.toE (df_fn (ok__law_mixed T) (hr.mono (by first | decide | omega)) T.g__law_mixed (k__law_mixed T) (b0__law_mixed T) (fun _ _ _ => .nil) (da_cons (de_var (pv 0)) (da_cons (de_var (pv 5)) da_nil)) ar__law_mixed)) (da_cons (de_fn (ok__law_pull T) (hr.mono (by first | decide | omega)) T.g__law_pull (k__law_pull T) (b0__law_pull T) (fun _ _ _ => .nil) (da_cons (de_var (pv 0)) (da_cons (de_var (pv 4)) da_nil)) ar__law_pull) da_nil)))))))))), fun ds Qd hd h => ?_⟩)
  obtain ⟨m, g, rfl, h⟩ := h
  simp only [List.map_cons, List.map_nil]
  obtain ⟨⟨m1, m2⟩, h⟩ := h
  refine seq_cut fun R hR => ?_
  walk_at "go"
  refine ⟨by decide, by decide, fun al ha hl => ?_⟩
  subst hR
  refine seq_cut fun R hR => ?_
  walk_at "go"
  refine ⟨by omega, by omega, fun k k0 k1 => ?_⟩
  obtain ⟨n, rfl⟩ : ∃ n : Nat, k = (n : Int) - 1 := ⟨(k + 1).toNat, by omega⟩
  rw [show (1 : Int) + ((n : Int) - 1) = n by omega]
  subst hR
  refine seq_cut fun R hR => ?_
  walk_at "go"
  refine ⟨by decide, by decide, by decide, fun d hd => ?_⟩
  have hd' : ∃ sf : Int, d = .int sf ∧ 0 < sf ∧ sf < 1073741824 := by
    simp only [List.mem_cons, List.not_mem_nil, or_false] at hd
    rcases hd with rfl | rfl | rfl | rfl <;> exact ⟨_, rfl, by decide, by decide⟩
  obtain ⟨sf, rfl, f0, f1⟩ := hd'
  refine ⟨n, rfl, sf, rfl, ha, by omega, f0, f1, fun rs hp => ?_⟩
  subst hR
  walk_at "go"
  have hk : (keysA al n).length ≤ 195 := by rw [keysA_len]; have := Nat.mul_le_mul (show n ≤ 65 by omega) (show al.length ≤ 3 by omega); omega
  have hpl := hp.len
  refine ⟨by rw [List.length_map]; omega, fun ys py => ?_⟩
  obtain ⟨rs', rfl, p'⟩ := perm_map_ex py
  have hp' := hp.perm p'
  refine ⟨by omega, by omega, fun i i0 i1 => ⟨by decide, ?_⟩⟩
  obtain ⟨i, rfl⟩ : ∃ j : Nat, i = j := ⟨i.toNat, by omega⟩
  exact h al n i rs' (by omega) (hp'.good ha (by omega) (by omega) (by omega)) hp'
theorem ok__law_made (T : Txt K mg a) : FnOk P w K mg base CX0 5 a.f__law_made a.fd__law_made ["_law_spec_here"] (spF 1 (tf__law_made a)) := by
  refine ok_F T.F__law_made sc__law_made rfl (fun cdv A outer s H E hr => ⟨_, (ds_one (ds_retF (df_makeK (perm := [0, 1, 2, 3]) T.mk_Automaton (ok_Automaton___init__ T) (hr.mono (by first | decide | omega)) T.g_Automaton (kb0_Automaton___init__ T) (da_cons (de_item (dp_var (pv 0)) (PE.toP (de_int))) (da_cons (de_item (dp_var (pv 0)) (PE.toP (de_int))) (da_cons (PE.toE (df_listc T.n_list (dap_cons (PE.toP (de_item (dp_var (pv 0)) (PE.toP (de_int)))) dap_nil))) da_nil))) (dw_cons (de_item (dp_var (pv 0)) (PE.toP (de_int))) dw_nil) ar_Automaton___init__))), fun ds Qd hd h => ?_⟩)
  obtain ⟨al, n, rs, i, rfl, h⟩ := h
  simp only [List.map_cons, List.map_nil]
  obtain ⟨hg, h⟩ := h
  unfold specD
  walk_at "go"
  exact ⟨n, rfl, rs, rfl, i, rfl, hg, h⟩
theorem ok__law_steps (T : Txt K mg a) : FnOk P w K mg base CX0 1 a.f__law_steps a.fd__law_steps ["_law_spec_here"] (spF 1 tf__law_steps) := by
  refine ok_F T.F__law_steps sc__law_steps rfl (fun cdv A outer s H E hr => ⟨_, (ds_cons (ds_own (i := 1) sc__law_steps.nd rfl (Or.inl rfl) df_dnewT)
      (ds_cons (ds_for (di_range1 T.n_range (dap_cons (PE.toP (de_item (dp_var (pv 0)) (PE.toP (de_int)))) dap_nil)) (dg_name (i := 2) sc__law_steps.nd rfl (Or.inl rfl)) (ds_one (ds_for (di_seq (de_item (dp_var (pv 0)) (PE.toP (de_int)))) (dg_name (i := 3) sc__law_steps.nd rfl (Or.inl rfl)) (ds_one (ds_dput (u65 hr) (pv 1) (PE.toP (de_tup (da_cons (de_var (pv 2)) (da_cons (de_var (pv 3)) da_nil)))) (PE.toE (df_lst da_nil)))))))
      (ds_cons (ds_for (di_seq (de_item (dp_var (pv 0)) (PE.toP (de_int)))) (dg_name (i := 4) sc__law_steps.nd rfl (Or.inl rfl)) (ds_one (ds_dput (u65 hr) (pv 1) (PE.toP (de_slice (dp_var (pv 4)) do_none (do_some (PE.toP (de_int))))) (de_add (PE.toP (de_dget (u65 hr) (dp_var (pv 1)) (PE.toP (de_slice (dp_var (pv 4)) do_none (do_some (PE.toP (de_int))))))) (PE.toP (PE.toE (df_lst (da_cons (de_slice (dp_var (pv 4)) (do_some (PE.toP (de_int))) do_none) da_nil))))))))
      (ds_one (ds_retO (pv 1)))))), fun ds Qd hd h => ?_⟩)
  obtain ⟨al, n, rs, i, rfl, h⟩ := h
  simp only [List.map_cons, List.map_nil]
  obtain ⟨hg, h⟩ := h
  have h3 := alpha_len hg.alp
  have hn := hg.hi
  have hL : al.length ≤ sizeLine := by show _ ≤ 16777216; omega
  unfold specD
  refine seq_cut fun R hR => ?_
  walk_at "go"
  subst hR
  refine seq_cut fun R hR => ?_
  refine for_cutG fun G hG => ?_
  walk_at "go"
  refine ⟨by omega, by omega, hG _ ?_⟩
  clear hG G
  refine wpFor_inv (fun j S => ∃ c2 c3 c4, S = [.val (specD al n rs i), .own (.dic true false ((keysA al j).map keyA) ((keysA al j).map fun k => .lst [])), c2, c3, c4]) 0 ⟨_, _, _, rfl⟩ (fun j d S De' hj hI hnx _ _ _ _ => ?_) (fun S hI => ?_)
  · obtain ⟨c2, c3, c4, rfl⟩ := hI
    have e0 : 0 + j = j := Nat.zero_add j
    rw [e0] at hnx ⊢
    have hjn : j < n := by
      have := (List.getElem?_eq_some_iff.mp hj).1
      rw [List.length_map, List.length_range] at this
      omega
    obtain rfl : d = .int j := by
      rw [List.getElem?_map, List.getElem?_range (by omega)] at hj
      simpa using hj.symm
    unfold specD
    walk_at "tg"
    refine for_cutG fun G hG => ?_
    walk_at "go"
    refine hG _ ?_
    clear hG G
    refine wpFor_inv (fun m S => ∃ c3 c4, S = [.val (specD al n rs i), .own (.dic true false ((keysA al j ++ (al.take m).map fun l => (j, l)).map keyA) ((keysA al j ++ (al.take m).map fun l => (j, l)).map fun k => .lst [])), .val (.int j), c3, c4]) 0 ⟨c3, c4, by simp [specD]⟩ (fun m d S De2 hm hI hnx2 _ _ _ _ => ?_) (fun S hI => ?_)
    · obtain ⟨c3, c4, rfl⟩ := hI
      have e0 : 0 + m = m := Nat.zero_add m
      rw [e0] at hnx2 ⊢
      rw [List.getElem?_map] at hm
      obtain ⟨l, hl', rfl⟩ := Option.map_eq_some_iff.mp hm
      have hlm := List.mem_of_getElem? hl'
      unfold specD
      walk_at "tg"
      walk_at "go"
      have hnot : (j, l) ∉ keysA al j ++ (al.take m).map fun l => (j, l) := by
        intro hk
        rcases List.mem_append.mp hk with q | q
        · have := (keysA_mem.mp q).1
          simp at this
        · obtain ⟨l', h', e⟩ := List.mem_map.mp q
          simp only [Prod.mk.injEq, true_and] at e
          subst e
          exact nodup_at (f := fun x : Nat => x) (by simpa using alpha_nd hg.alp) hl' (by simpa using h')
      have hkl : (keysA al j ++ (al.take m).map fun l => (j, l)).length ≤ 198 := by
        rw [List.length_append, List.length_map, List.length_take, keysA_len]
        have := Nat.mul_le_mul (show j ≤ 65 by omega) h3
        omega
      obtain ⟨p1, p2⟩ := dput_new (kf := keyA) (vf := fun _ => D.lst []) (v := D.lst []) keyA_eq hnot
      refine ⟨by decide, by decide, rfl, by rw [List.length_map]; show _ < 16777216; omega, ?_⟩
      rw [show D.tup [D.int j, D.str [l]] = keyA (j, l) from rfl, p1, p2]
      refine hnx2 _ ⟨.val (.str [l]), c4, ?_⟩
      rw [List.take_add_one, hl', Option.toList_some, List.map_append (f := fun l => (j, l)), ← List.append_assoc, List.map_append (f := fun _ => D.lst []) (l₁ := keysA al j ++ _)]
      rfl
    · obtain ⟨c3, c4, rfl⟩ := hI
      rw [Nat.zero_add, List.length_map, List.take_length, ← keysA_succ]
      exact hnx _ ⟨_, _, _, rfl⟩
  · obtain ⟨c2, c3, c4, rfl⟩ := hI
    rw [Nat.zero_add, List.length_map, List.length_range, Int.toNat_natCast]
    show R _
    subst hR
    refine seq_cut fun R hR => ?_
    refine for_cutG fun G hG => ?_
    unfold specD
    walk_at "go"
    refine hG _ ?_
    clear hG G
    refine wpFor_inv (fun j S => ∃ c2 c3 c4, S = [.val (specD al n rs i), .own (.dic true false ((keysA al n).map keyA) ((keysA al n).map fun k => .lst ((atA (rs.take j) k).map pairD))), c2, c3, c4]) 0 ⟨_, _, _, rfl⟩ (fun j d S De' hj hI hnx _ _ _ _ => ?_) (fun S hI => ?_)
    · obtain ⟨c2, c3, c4, rfl⟩ := hI
      have e0 : 0 + j = j := Nat.zero_add j
      rw [e0] at hnx ⊢
      rw [List.getElem?_map] at hj
      obtain ⟨r, hr0, rfl⟩ := Option.map_eq_some_iff.mp hj
      have hmem := List.mem_of_getElem? hr0
      unfold specD
      walk_at "tg"
      rw [show rowD r = D.tup [.int r.s, .str [r.l], .int r.t, .str (wC r.w)] from rfl]
      walk_at "go"
      have e2 : D.tup (cut [D.int r.s, D.str [r.l], D.int r.t, D.str (wC r.w)] none (some 2)) = keyA (r.s, r.l) := rfl
      have e4 : D.tup (cut [D.int r.s, D.str [r.l], D.int r.t, D.str (wC r.w)] (some 2) none) = pairD r := rfl
      have hin : (r.s, r.l) ∈ keysA al n := keysA_mem.mpr ⟨hg.src r hmem, hg.let' r hmem⟩
      have hat : (atA (rs.take j) (r.s, r.l)).length ≤ 80000 := Nat.le_trans (List.length_filter_le _ _) (by have := hg.len; rw [List.length_take]; omega)
      rw [e2, e4]
      refine ⟨by simp [HT.sIx], rfl, .lst ((atA (rs.take j) (r.s, r.l)).map pairD), ?_, by simp [HT.sIx], by decide, ?_⟩
      · rw [dget_map (kf := keyA) (vf := fun k => D.lst ((atA (rs.take j) k).map pairD)) keyA_eq, if_pos hin]
      refine ⟨by show _ ≤ 16777216; simp only [List.length_map, List.length_cons, List.length_nil]; omega, by simp [HT.sIx], rfl, ?_, ?_⟩
      · show _ < 16777216
        rw [List.length_map, keysA_len]
        have := Nat.mul_le_mul hg.hi h3
        omega
      obtain ⟨q1, q2⟩ := dput_map (kf := keyA) (vf := fun k => D.lst ((atA (rs.take j) k).map pairD)) (v := .lst ((atA (rs.take j) (r.s, r.l)).map pairD ++ [pairD r])) keyA_eq hin
      rw [q1, q2]
      refine hnx _ ⟨c2, c3, .val (rowD r), ?_⟩
      have g1 : ((keysA al n).map fun a => if a = (r.s, r.l) then D.lst ((atA (rs.take j) (r.s, r.l)).map pairD ++ [pairD r]) else D.lst ((atA (rs.take j) a).map pairD)) = (keysA al n).map fun k => D.lst ((atA (rs.take (j + 1)) k).map pairD) := by
        refine List.map_congr_left fun k _ => ?_
        rw [atA_take hr0]
        by_cases hk : k = (r.s, r.l)
        · subst hk; simp
        · rw [if_neg hk, if_neg (Ne.symm hk)]
      rw [g1]
      rfl
    · obtain ⟨c2, c3, c4, rfl⟩ := hI
      rw [Nat.zero_add, List.length_map, List.take_length]
      show R _
      subst hR
      walk_at "go"
      exact h
theorem ok__law_goals (T : Txt K mg a) : FnOk P w K mg base CX0 1 a.f__law_goals a.fd__law_goals ["_law_steps_here", "_law_states", "_law_letter", "_law_words"] (spE 4 tf__law_goals) := by
  refine ok_E T.F__law_goals sc__law_goals rfl (fun cdv A outer s H E hr => ⟨_, (ds_cons (ds_own (i := 4) sc__law_goals.nd rfl (Or.inl rfl) (df_lst da_nil))
      (ds_cons (ds_for (di_seq (de_var (pv 1))) (dg_name (i := 5) sc__law_goals.nd rfl (Or.inl rfl)) (ds_one (ds_for (di_seq (de_dget (u65 hr) (dp_var (pv 0)) (PE.toP (de_tup (da_cons (de_var (pv 5)) (da_cons (de_var (pv 2)) da_nil)))))) (dg_tup (n := 2) (dgs_cons (dg_name (i := 6) sc__law_goals.nd rfl (Or.inl rfl)) (dgs_cons (dg_name (i := 7) sc__law_goals.nd rfl (Or.inl rfl)) dgs_nil))) (ds_one (ds_if (PW.pt (dt_and (dt_in (u65 hr) (dp_var (pv 7)) (dp_var (pv 3))) (dt_and1 (dt_notIn (u65 hr) (dp_var (pv 6)) (dp_var (pv 4)))))) (ds_one (ds_app (pv 4) (de_var (pv 6)))) ds_nil)))))
      (ds_one (ds_ret (PE.toE (df_sorted (u70 hr) T.n_sorted (dap_cons (dp_var (pv 4)) dap_nil))))))), fun ds Qd hd h => ?_⟩)
  obtain ⟨al, n, rs, here, c, w, d, rfl, h⟩ := h
  simp only [List.map_cons, List.map_nil]
  obtain ⟨hit, ⟨⟨i, hg⟩, hc, hh⟩, h⟩ := h
  have hn65 := hg.hi
  refine seq_cut fun R hR => ?_
  walk_at "go"
  refine ⟨by decide, ?_⟩
  subst hR
  refine seq_cut fun R hR => ?_
  refine for_cutG fun G hG => ?_
  walk_at "go"
  refine ⟨_, hit, hG _ ?_⟩
  clear hG G
  refine wpFor_inv (fun m S => ∃ F c5 c6 c7, F.Nodup ∧ (∀ t ∈ F, ∃ s ∈ here, StepW rs w s c t) ∧ (∀ s ∈ here.take m, ∀ t, StepW rs w s c t → t ∈ F) ∧ S = [.val (.dic true false ((keysA al n).map keyA) ((keysA al n).map fun k => .lst ((atA rs k).map pairD))), .val d, .val (.str [c]), .val (.lst (if w then [.str (wC true)] else [.str (wC true), .str (wC false)])), .own (.lst (F.map iD)), c5, c6, c7]) 0 ⟨[], _, _, _, .nil, by simp, by simp, rfl⟩ (fun m dm S De' hm hI hnx _ _ _ _ => ?_) (fun S hI => ?_)
  · obtain ⟨F, c5, c6, c7, nd, sd, cp0, rfl⟩ := hI
    have e0 : 0 + m = m := Nat.zero_add m
    rw [e0] at hnx cp0
    rw [List.getElem?_map] at hm
    obtain ⟨s, hs', rfl⟩ := Option.map_eq_some_iff.mp hm
    have hsm := List.mem_of_getElem? hs'
    have hkey : (s, c) ∈ keysA al n := keysA_mem.mpr ⟨hh s hsm, hc⟩
    walk_at "tg"
    refine for_cutG fun G hG => ?_
    walk_at "go"
    refine ⟨by decide, rfl, .lst ((atA rs (s, c)).map pairD), ?_, (atA rs (s, c)).map pairD, rfl, hG _ ?_⟩
    · rw [show D.tup [iD s, D.str [c]] = keyA (s, c) from rfl, dget_map (kf := keyA) (vf := fun k => D.lst ((atA rs k).map pairD)) keyA_eq, if_pos hkey]
    clear hG G
    refine wpFor_inv (fun j S => ∃ F c6 c7, (F.Nodup ∧ (∀ t ∈ F, ∃ s ∈ here, StepW rs w s c t) ∧ (∀ s ∈ here.take m, ∀ t, StepW rs w s c t → t ∈ F) ∧ ∀ r ∈ (atA rs (s, c)).take j, (w = true → r.w = true) → r.t ∈ F) ∧ S = [.val (.dic true false ((keysA al n).map keyA) ((keysA al n).map fun k => .lst ((atA rs k).map pairD))), .val d, .val (.str [c]), .val (.lst (if w then [.str (wC true)] else [.str (wC true), .str (wC false)])), .own (.lst (F.map iD)), .val (iD s), c6, c7]) 0 ⟨F, _, _, ⟨nd, sd, cp0, by simp⟩, rfl⟩ (fun j d S De2 hm2 hI hnx2 _ _ _ _ => ?_) (fun S hI => ?_)
    · clear nd sd cp0 F c6 c7
      obtain ⟨F, c6, c7, ⟨nd, sd, cp0, cp⟩, rfl⟩ := hI
      have e0 : 0 + j = j := Nat.zero_add j
      rw [e0] at hnx2 cp
      rw [List.getElem?_map] at hm2
      obtain ⟨r, hr, rfl⟩ := Option.map_eq_some_iff.mp hm2
      have hra := mem_atA.mp (List.mem_of_getElem? hr)
      simp only [Prod.mk.injEq] at hra
      have hFl : F.length ≤ n := nd_len nd fun t ht => by
        obtain ⟨_, _, q, hq, _, _, rfl, _⟩ := sd t ht
        exact hg.tgt q hq
      have tk : ∀ F' : List Nat, (∀ q ∈ (atA rs (s, c)).take j, (w = true → q.w = true) → q.t ∈ F') → ((w = true → r.w = true) → r.t ∈ F') → ∀ q ∈ (atA rs (s, c)).take (j + 1), (w = true → q.w = true) → q.t ∈ F' := fun F' h1 h2 q hq => by
        rw [List.take_add_one, hr, Option.toList_some, List.mem_append] at hq
        rcases hq with hq | hq
        · exact h1 q hq
        · rw [List.mem_singleton.mp hq]; exact h2
      walk_at "tg"
      refine ⟨_, rfl, rfl, _, _, rfl, _, _, rfl, rfl, ?_⟩
      walk_at "go"
      have kd : ((if w = true then [D.str (wC true)] else [D.str (wC true), D.str (wC false)]).any fun z => deqv z (D.str (wC r.w))) = decide (w = true → r.w = true) := by cases w <;> cases r.w <;> decide
      refine ⟨by cases r.w <;> decide, by cases w <;> decide, ?_⟩
      rw [kd]
      by_cases hw : (w = true → r.w = true)
      · rw [if_pos (decide_eq_true hw)]
        refine ⟨rfl, ints_ok, ?_⟩
        rw [any_int]
        by_cases hin : r.t ∈ F
        · rw [if_neg (by simpa using hin)]
          exact hnx2 _ ⟨F, .val (iD r.t), .val (.str (wC r.w)), ⟨nd, sd, cp0, tk F cp fun _ => hin⟩, rfl⟩
        · rw [if_pos (by simpa using hin)]
          refine ⟨by rw [List.length_map]; show _ < 16777216; omega, ?_⟩
          refine hnx2 _ ⟨F ++ [r.t], .val (iD r.t), .val (.str (wC r.w)), ⟨List.nodup_append.mpr ⟨nd, by simp, fun x hx y hy e => hin (by rw [List.mem_singleton.mp hy] at e; exact e ▸ hx)⟩, fun t ht => ?_, fun s hs t ht => List.mem_append_left _ (cp0 s hs t ht), tk _ (fun q hq hw' => List.mem_append_left _ (cp q hq hw')) (fun _ => by simp)⟩, ?_⟩
          · rcases List.mem_append.mp ht with ht | ht
            · exact sd t ht
            · rw [List.mem_singleton.mp ht]
              exact ⟨s, hsm, r, hra.1, hra.2.1, hra.2.2, rfl, hw⟩
          · rw [List.map_append]
            rfl
      · rw [if_neg (by simpa using hw)]
        exact hnx2 _ ⟨F, .val (iD r.t), .val (.str (wC r.w)), ⟨nd, sd, cp0, tk F cp fun q => absurd q hw⟩, rfl⟩
    · obtain ⟨F, c6, c7, ⟨nd, sd, cp0, cp⟩, rfl⟩ := hI
      rw [Nat.zero_add, List.length_map, List.take_length] at cp
      refine hnx _ ⟨F, _, _, _, nd, sd, fun s2 hs2 t ht => ?_, rfl⟩
      rw [List.take_add_one, hs', Option.toList_some, List.mem_append] at hs2
      rcases hs2 with hs2 | hs2
      · exact cp0 s2 hs2 t ht
      · rw [List.mem_singleton.mp hs2] at ht
        obtain ⟨q, h1, h2, h3, h4, h5⟩ := ht
        exact h4 ▸ cp q (mem_atA.mpr ⟨h1, by rw [h2, h3]⟩) h5
  · obtain ⟨F, c5, c6, c7, nd, sd, cp, rfl⟩ := hI
    rw [Nat.zero_add, List.length_map, List.take_length] at cp
    show R _
    subst hR
    walk_at "go"
    have hFl : F.length ≤ n := nd_len nd fun t ht => by
      obtain ⟨_, _, q, hq, _, _, rfl, _⟩ := sd t ht
      exact hg.tgt q hq
    refine ⟨ints_can (by omega), ?_⟩
    have pm : F.Perm (goalsF n rs w here c) := perm_of_same nd (by unfold goalsF; exact List.nodup_range.filter _) fun t => by
      rw [mem_goalsF hg]
      exact ⟨sd t, fun ⟨s, hs, ht⟩ => cp s hs t ht⟩
    rw [sort_ints pm (by unfold goalsF; exact (List.pairwise_lt_range.imp Nat.le_of_lt).filter _)]
    exact h
theorem ok__law_reach (T : Txt K mg a) : FnOk P w K mg base CX0 3 a.f__law_reach a.fd__law_reach ["_law_spec_here", "_law_start", "_law_words"] (spE 3 tf__law_reach) := by
  refine ok_E T.F__law_reach sc__law_reach rfl (fun cdv A outer s H E hr => ⟨_, (ds_cons (ds_mulT3R (i := 3) (j := 4) (k := 5) sc__law_reach.nd rfl rfl rfl (Or.inl rfl) (Or.inr rfl) (Or.inl rfl) (d3_E (PE.toE (df_fn (ok__law_steps T) (hr.mono (by first | decide | omega)) T.g__law_steps (k__law_steps T) (b0__law_steps T) (fun _ _ _ => .nil) (da_cons (de_var (pv 0)) da_nil) ar__law_steps)) (d3_E (PE.toE (df_lst (da_cons (de_var (pv 1)) da_nil))) (d3_E (PE.toE (df_lst (da_cons (de_var (pv 1)) da_nil))) d3_nil))))
      (ds_cons (ds_for (di_range1 T.n_range (dap_cons (PE.toP (de_item (dp_var (pv 0)) (PE.toP (de_int)))) dap_nil)) (dg_name (i := 6) sc__law_reach.nd rfl (Or.inl rfl)) (ds_cons (ds_set (i := 7) sc__law_reach.nd rfl (Or.inr rfl) (PE.toE (df_lst da_nil)))
      (ds_cons (ds_for (di_seq (de_item (dp_var (pv 0)) (PE.toP (de_int)))) (dg_name (i := 8) sc__law_reach.nd rfl (Or.inl rfl)) (ds_one (ds_set (i := 7) sc__law_reach.nd rfl (Or.inr rfl) (de_add (dp_var (pv 7)) (PE.toP (PE.toE (df_lc (own := [("_law_goal", 9)]) (di_seq (de_fn (ok__law_goals T) (hr.mono (by first | decide | omega)) T.g__law_goals (k__law_goals T) (b0__law_goals T) (fun _ _ _ => .nil) (da_cons (de_var (pv 3)) (da_cons (de_var (pv 5)) (da_cons (de_var (pv 8)) (da_cons (de_var (pv 2)) da_nil)))) ar__law_goals)) sc__law_reach.nd (blkOk_by (own := [("_law_goal", 9)]) (N := N__law_reach) (sc := defScope s__law_reach) (by decide +kernel)) (fun _ _ _ _ _ => (dg_name (i := 9) sc__law_reach.nd rfl (Or.inl rfl))) (fun _ _ _ _ _ => (dts_one (PW.pt (dt_and (dt_notIn (u65 hr) (dp_var (pv 9)) (dp_var (pv 4))) (dt_and1 (dt_notIn (u65 hr) (dp_var (pv 9)) (dp_var (pv 7)))))))) (fun _ _ _ _ _ => (de_var (pv 9))))))))))
      (ds_cons (ds_if (dt_eq hr.units (dp_var (pv 7)) (PE.toP (PE.toE (df_lst da_nil)))) (ds_one ds_break) ds_nil)
      (ds_one (ds_asg (de_tup (da_cons (de_add (dp_var (pv 4)) (dp_var (pv 7))) (da_cons (de_var (pv 7)) da_nil))) (dg_tup (n := 2) (dgs_cons (dg_name (i := 4) sc__law_reach.nd rfl (Or.inr rfl)) (dgs_cons (dg_name (i := 5) sc__law_reach.nd rfl (Or.inl rfl)) dgs_nil)))))))))
      (ds_one (ds_ret (PE.toE (df_sorted (u70 hr) T.n_sorted (dap_cons (dp_var (pv 4)) dap_nil))))))), fun ds Qd hd h => ?_⟩)
  obtain ⟨al, n, i, rs, s, w, rfl, h⟩ := h
  simp only [List.map_cons, List.map_nil]
  obtain ⟨⟨hg, hs⟩, h⟩ := h
  have hn := hg.hi
  have h3 := alpha_len hg.alp
  refine seq_cut fun R hR => ?_
  unfold specD
  walk_at "go"
  refine ⟨al, n, rs, i, rfl, hg, by decide, by decide, by decide, ?_⟩
  subst hR
  refine seq_cut fun R hR => ?_
  refine for_cutG fun G hG => ?_
  walk_at "go"
  rw [rng_iD]
  refine ⟨by omega, by omega, hG _ ?_⟩
  clear hG G
  have fin : ∀ F : List Nat, F.Nodup → s ∈ F → (∀ t ∈ F, t < n ∧ RK rs w s t) → (∀ x ∈ F, ∀ c t, StepW rs w x c t → t ∈ F) → ∀ c5 c6 c7 c8 c9, R [.val (specD al n rs i), .val (.int s), .val (.lst (if w then [.str (wC true)] else [.str (wC true), .str (wC false)])), .val (.dic true false ((keysA al n).map keyA) ((keysA al n).map fun k => .lst ((atA rs k).map pairD))), .val (.lst (F.map iD)), c5, c6, c7, c8, c9] := fun F nd h0 hF hc c5 c6 c7 c8 c9 => by
    subst hR
    walk_at "go"
    have hl := nd_len nd fun x hx => (hF x hx).1
    refine ⟨ints_can (by omega), ?_⟩
    obtain ⟨L, e, pL⟩ := perm_map_ex (sortD_perm (F.map iD))
    have so := sortD_sorted (F.map iD)
    rw [e, List.pairwise_map] at so
    have so2 : L.Pairwise (· < ·) := (so.and (pL.nodup_iff.mpr nd)).imp fun {a b} q => by
      have q1 := q.1
      have q2 := q.2
      rw [dle_int, decide_eq_true_iff] at q1
      omega
    rw [e]
    exact h L so2 fun t => ⟨fun q => (hF t (pL.mem_iff.mp q)).2, fun q => pL.mem_iff.mpr (RK.cl h0 hc q)⟩
  refine wpFor_inv (fun m S => ∃ F H c6 c7 c8 c9, F.Nodup ∧ s ∈ F ∧ (∀ t ∈ F, t < n ∧ RK rs w s t) ∧ (∀ x ∈ H, x ∈ F) ∧ (∀ x ∈ F, x ∉ H → ∀ c t, StepW rs w x c t → t ∈ F) ∧ m + 1 ≤ F.length ∧ S = [.val (specD al n rs i), .val (.int s), .val (.lst (if w then [.str (wC true)] else [.str (wC true), .str (wC false)])), .val (.dic true false ((keysA al n).map keyA) ((keysA al n).map fun k => .lst ((atA rs k).map pairD))), .val (.lst (F.map iD)), .val (.lst (H.map iD)), c6, c7, c8, c9]) 0 ⟨[s], [s], _, _, _, _, by simp, by simp, fun t ht => by rw [List.mem_singleton.mp ht]; exact ⟨hs, .refl⟩, fun x hx => hx, fun x hx hn => absurd hx hn, by simp, rfl⟩ (fun m d S De' hm hI hnx _ hbk _ _ => ?_) (fun S hI => ?_)
  rotate_left
  · obtain ⟨F, H, c6, c7, c8, c9, nd, h0, hF, hH, hc, hlen, rfl⟩ := hI
    have hl := nd_len nd fun x hx => (hF x hx).1
    rw [Nat.zero_add, List.length_map, List.length_range] at hlen
    omega
  obtain ⟨F, H, c6, c7, c8, c9, nd, h0, hF, hH, hc, hlen, rfl⟩ := hI
  have e0 : 0 + m = m := Nat.zero_add m
  rw [e0] at hnx hlen
  have hl := nd_len nd fun x hx => (hF x hx).1
  walk_at "tg"
  refine seq_cut fun R2 hR2 => ?_
  walk_at "go"
  refine ⟨by decide, ?_⟩
  subst hR2
  refine seq_cut fun R2 hR2 => ?_
  refine for_cutG fun G hG => ?_
  unfold specD
  walk_at "go"
  refine hG _ ?_
  clear hG G
  refine wpFor_inv (fun j S => ∃ (Lt : List Nat) (c8 c9 : Sl), Lt.Nodup ∧ (∀ t ∈ Lt, t ∉ F ∧ ∃ x ∈ H, ∃ c, StepW rs w x c t) ∧ (∀ c ∈ al.take j, ∀ x ∈ H, ∀ t, StepW rs w x c t → t ∈ F ∨ t ∈ Lt) ∧ S = [.val (specD al n rs i), .val (.int s), .val (.lst (if w then [.str (wC true)] else [.str (wC true), .str (wC false)])), .val (.dic true false ((keysA al n).map keyA) ((keysA al n).map fun k => .lst ((atA rs k).map pairD))), .val (.lst (F.map iD)), .val (.lst (H.map iD)), .val d, .val (.lst (Lt.map iD)), c8, c9]) 0 ⟨[], c8, c9, .nil, by simp, by simp, rfl⟩ (fun j d S De2 hj hI hnx2 _ _ _ _ => ?_) (fun S hI => ?_)
  · clear c8 c9
    obtain ⟨Lt, c8, c9, nl, hLt, hcl, rfl⟩ := hI
    have e0 : 0 + j = j := Nat.zero_add j
    rw [e0] at hnx2 hcl
    rw [List.getElem?_map] at hj
    obtain ⟨c, hc2, rfl⟩ := Option.map_eq_some_iff.mp hj
    have hcm := List.mem_of_getElem? hc2
    have hLl := nd_len nl (n := n) fun x hx => by
      obtain ⟨_, y, hy, c', st⟩ := hLt x hx
      obtain ⟨r, h1, _, _, h4, _⟩ := st
      rw [← h4]; exact hg.tgt r h1
    walk_at "tg"
    unfold specD
    walk_at "go"
    refine ⟨al, n, rfl, rs, rfl, H, w, rfl, rfl, ⟨i, hg⟩, hcm, fun x hx => (hF x (hH x hx)).1, ?_⟩
    have hgl := goalsF_len (n := n) (rs := rs) (w := w) (here := H) (c := c)
    refine ⟨by rw [List.length_map]; show _ ≤ 16777216; omega, ?_⟩
    refine wpMap_onF (kf := iD) (fun t => if (decide (t ∉ F) && decide (t ∉ Lt)) = true then [iD t] else []) (fun t ht k q => ?_) ?_
    · rw [any_int' F t, any_int' Lt t]
      refine ⟨rfl, ints_ok, ?_⟩
      by_cases c1 : t ∈ F
      · rw [if_neg (by simp [c1])] at q
        rw [if_neg (by simp [c1])]
        exact q
      · rw [if_pos (by simp [c1])]
        refine ⟨rfl, ints_ok, ?_⟩
        by_cases c2 : t ∈ Lt
        · rw [if_neg (by simp [c2])] at q
          rw [if_neg (by simp [c2])]
          exact q
        · rw [if_pos (by simp [c1, c2])] at q
          rw [if_pos (by simp [c2])]
          exact q
    rw [flat_filterP (f := iD) (p := fun t => decide (t ∉ F) && decide (t ∉ Lt))]
    have hfl : ((goalsF n rs w H c).filter fun t => decide (t ∉ F) && decide (t ∉ Lt)).length ≤ n := Nat.le_trans (List.length_filter_le _ _) hgl
    refine ⟨by rw [List.length_map, List.length_map]; show _ ≤ 16777216; omega, ?_⟩
    rw [← List.map_append]
    refine hnx2 _ ⟨Lt ++ ((goalsF n rs w H c).filter fun t => decide (t ∉ F) && decide (t ∉ Lt)), _, _, ?_, fun t ht => ?_, fun c' hc' x hx t st => ?_, rfl⟩
    · rw [List.nodup_append]
      refine ⟨nl, goalsF_nd.filter _, fun x hx y hy e => ?_⟩
      have := (List.mem_filter.mp hy).2
      rw [Bool.and_eq_true, decide_eq_true_iff, decide_eq_true_iff] at this
      exact this.2 (e ▸ hx)
    · rcases List.mem_append.mp ht with ht | ht
      · exact hLt t ht
      · obtain ⟨q1, q2⟩ := List.mem_filter.mp ht
        rw [Bool.and_eq_true, decide_eq_true_iff, decide_eq_true_iff] at q2
        obtain ⟨x, hx, st⟩ := (mem_goalsF hg).mp q1
        exact ⟨q2.1, x, hx, c, st⟩
    · rw [List.take_add_one, hc2, Option.toList_some, List.mem_append] at hc'
      rcases hc' with hc' | hc'
      · exact (hcl c' hc' x hx t st).imp id (List.mem_append_left _)
      · rw [List.mem_singleton.mp hc'] at st
        by_cases c1 : t ∈ F
        · exact .inl c1
        · by_cases c2 : t ∈ Lt
          · exact .inr (List.mem_append_left _ c2)
          · exact .inr (List.mem_append_right _ (List.mem_filter.mpr ⟨(mem_goalsF hg).mpr ⟨x, hx, st⟩, by simp [c1, c2]⟩))
  · clear c8 c9
    obtain ⟨Lt, c8, c9, nl, hLt, hcl, rfl⟩ := hI
    rw [Nat.zero_add, List.length_map, List.take_length] at hcl
    show R2 _
    subst hR2
    walk_at "go"
    have cl2 : ∀ x ∈ H, ∀ c t, StepW rs w x c t → t ∈ F ∨ t ∈ Lt := fun x hx c t st => by
      obtain ⟨r, h1, _, h5, _⟩ := id st
      exact hcl c (h5 ▸ hg.let' r h1) x hx t st
    refine ⟨by decide, ints_ok, by rfl, ?_⟩
    by_cases e : Lt = []
    · subst e
      rw [if_pos (by rfl)]
      refine hbk _ (fin F nd h0 hF (fun x hx c t st => ?_) _ _ _ _ _)
      by_cases hxH : x ∈ H
      · exact (cl2 x hxH c t st).resolve_right (by simp)
      · exact hc x hx hxH c t st
    · rw [if_neg (show ¬ deqv (D.lst (Lt.map iD)) (D.lst []) = true from fun q => e ((eq_ints Lt []).mp q))]
      have hLl := nd_len nl (n := n) fun x hx => by
        obtain ⟨_, y, hy, c', st⟩ := hLt x hx
        obtain ⟨r, h1, _, _, h4, _⟩ := st
        rw [← h4]; exact hg.tgt r h1
      refine ⟨by rw [List.length_map, List.length_map]; show _ ≤ 16777216; omega, by decide, ?_⟩
      rw [← List.map_append]
      refine hnx _ ⟨F ++ Lt, Lt, _, _, _, _, ?_, List.mem_append_left _ h0, fun t ht => ?_, fun x hx => List.mem_append_right _ hx, fun x hx hxL c t st => ?_, ?_, rfl⟩
      · rw [List.nodup_append]
        exact ⟨nd, nl, fun x hx y hy e => (hLt y hy).1 (e ▸ hx)⟩
      · rcases List.mem_append.mp ht with ht | ht
        · exact hF t ht
        · obtain ⟨_, x, hx, c, st⟩ := hLt t ht
          refine ⟨?_, RK.stepW (hF x (hH x hx)).2 st⟩
          obtain ⟨r, h1, _, _, h4, _⟩ := st
          rw [← h4]; exact hg.tgt r h1
      · have hxF := (List.mem_append.mp hx).resolve_right hxL
        by_cases hxH : x ∈ H
        · exact (cl2 x hxH c t st).elim (List.mem_append_left _) (List.mem_append_right _)
        · exact List.mem_append_left _ (hc x hxF hxH c t st)
      · rw [List.length_append]
        have := List.length_pos_iff.mpr e
        omega
theorem ok__law_lots (T : Txt K mg a) : FnOk P w K mg base CX0 4 a.f__law_lots a.fd__law_lots ["_law_spec_here"] (spF 1 tf__law_lots) := by
  refine ok_F T.F__law_lots sc__law_lots rfl (fun cdv A outer s H E hr => ⟨_, (ds_cons (ds_set (i := 2) sc__law_lots.nd rfl (Or.inr rfl) (PE.toE (df_lc (own := [("_law_state", 1)]) (di_range1 T.n_range (dap_cons (PE.toP (de_item (dp_var (pv 0)) (PE.toP (de_int)))) dap_nil)) sc__law_lots.nd (blkOk_by (own := [("_law_state", 1)]) (N := N__law_lots) (sc := defScope s__law_lots) (by decide +kernel)) (fun _ _ _ _ _ => (dg_name (i := 1) sc__law_lots.nd rfl (Or.inl rfl))) (fun _ _ _ _ _ => dts_nil) (fun _ _ _ _ _ => (de_fn (ok__law_reach T) (hr.mono (by first | decide | omega)) T.g__law_reach (k__law_reach T) (b0__law_reach T) (fun _ _ _ => .nil) (da_cons (de_var (pv 0)) (da_cons (de_var (pv 1)) (da_cons (PE.toE (df_lst (da_cons (de_str) da_nil))) da_nil))) ar__law_reach)))))
      (ds_cons (ds_own (i := 3) sc__law_lots.nd rfl (Or.inl rfl) (df_lst da_nil))
      (ds_cons (ds_for (di_range1 T.n_range (dap_cons (PE.toP (de_item (dp_var (pv 0)) (PE.toP (de_int)))) dap_nil)) (dg_name (i := 1) sc__law_lots.nd rfl (Or.inr rfl)) (ds_cons (ds_setLc (i := 4) (own := [("_law_late", 5)]) (di_seq (de_item (dp_var (pv 2)) (dp_var (pv 1)))) sc__law_lots.nd rfl rfl (sw_true rfl rfl rfl (by decide +kernel)) (blkOk_by (own := [("_law_late", 5)]) (N := N__law_lots) (sc := defScope s__law_lots) (by decide +kernel)) (fun _ _ _ _ _ => (dg_name (i := 5) sc__law_lots.nd rfl (Or.inl rfl))) (fun _ _ _ _ _ => (dts_one (dt_in (u65 hr) (dp_var (pv 1)) (PE.toP (de_item (dp_var (pv 2)) (dp_var (pv 5))))))) (fun _ _ _ _ _ => (de_var (pv 5))))
      (ds_one (ds_if (dt_notIn (u65 hr) (dp_var (pv 4)) (dp_var (pv 3))) (ds_one (ds_app (pv 3) (de_var (pv 4)))) ds_nil))))
      (ds_one (ds_retO (pv 3)))))), fun ds Qd hd h => ?_⟩)
  obtain ⟨al, n, i, rs, rfl, h⟩ := h
  simp only [List.map_cons, List.map_nil]
  obtain ⟨hg, h⟩ := h
  have hn := hg.hi
  refine seq_cut fun R hR => ?_
  unfold specD
  walk_at "go"
  refine ⟨by omega, by omega, by rw [List.length_map, List.length_range, Int.toNat_natCast]; show _ ≤ 16777216; omega, ?_⟩
  rw [rng_iD]
  refine wpMap_each (kf := iD) (fun s y => ∃ L : List Nat, y = .lst (L.map iD) ∧ L.Pairwise (· < ·) ∧ ∀ t, t ∈ L ↔ RchS rs s t) (fun s hs k q => ?_) fun F hFl hF => ?_
  · have hs := List.mem_range.mp hs
    exact ⟨by decide, al, n, i, rs, rfl, s, rfl, true, by rw [safe_eq]; rfl, hg, hs, fun L pL hL => q _ ⟨L, rfl, pL, fun t => (hL t).trans RK_true⟩⟩
  have hFat : ∀ s, s < n → ∃ L : List Nat, atI F (s : Int) = some (.lst (L.map iD)) ∧ L.Pairwise (· < ·) ∧ ∀ t, t ∈ L ↔ RchS rs s t := fun s hs => by
    obtain ⟨y, hy, L, rfl, hL⟩ := hF s s (List.getElem?_range hs)
    exact ⟨L, atI_nat hy, hL⟩
  subst hR
  refine seq_cut fun R hR => ?_
  walk_at "go"
  refine ⟨by decide, ?_⟩
  subst hR
  refine seq_cut fun R hR => ?_
  refine for_cutG fun Gq hGq => ?_
  walk_at "go"
  rw [rng_iD]
  refine ⟨by omega, by omega, hGq _ ?_⟩
  clear hGq Gq
  refine wpFor_inv (fun k S => ∃ Ls c1 c4 c5, LtJ n rs k Ls ∧ S = [.val (.lst [.str al, .int n, .lst (rs.map rowD), .int i]), c1, .val (.lst F), .own (.lst (Ls.map fun L => .lst (L.map iD))), c4, c5]) 0 ⟨[], _, _, _, .nil, rfl⟩ (fun k d S De2 hm hI hnx _ _ _ _ => ?_) (fun S hI => ?_)
  · classical
    obtain ⟨Ls, c1, c4, c5, hL, rfl⟩ := hI
    have e0 : 0 + k = k := Nat.zero_add k
    rw [e0] at hnx hL
    rw [List.getElem?_map] at hm
    obtain ⟨s, hs, rfl⟩ := Option.map_eq_some_iff.mp hm
    obtain ⟨hs1, hs2⟩ := List.getElem?_eq_some_iff.mp hs
    rw [List.length_range] at hs1
    rw [List.getElem_range] at hs2
    subst hs2
    obtain ⟨XL, hXL⟩ : ∃ XL, XL = Ls.map fun L => D.lst (L.map iD) := ⟨_, rfl⟩
    have hLl : Ls.length ≤ k := by
      have := nd_le (A := Ls) (B := (List.range k).map (lotS n rs)) hL.nd fun L h => by
        obtain ⟨s, h1, h2⟩ := (hL.mem L).mp h
        exact List.mem_map.mpr ⟨s, List.mem_range.mpr h1, h2.symm⟩
      rwa [List.length_map, List.length_range] at this
    have hXl : XL.length < 16777216 := by rw [hXL, List.length_map]; omega
    have inX : ∀ L : List Nat, (XL.any fun z => deqv z (.lst (L.map iD))) = decide (L ∈ Ls) := fun L => by rw [hXL]; exact any_lots
    have okX : okD (.lst XL) = true := by rw [hXL]; exact lots_ok
    rw [← hXL]
    obtain ⟨L, hLa, pL, hL2⟩ := hFat k hs1
    have hLk : L.length ≤ n := nd_len (pL.imp fun {a b} q => by omega) fun x hx => RchS.lt hg hs1 ((hL2 x).mp hx)
    unfold iD
    walk_at "tg"
    refine seq_cut fun R2 hR2 => ?_
    walk_at "go"
    refine ⟨_, hLa, _, rfl, by rw [List.length_map]; show _ ≤ 16777216; omega, ?_⟩
    refine wpMap_onF (kf := iD) (fun t => if decide (RchS rs t k) = true then [iD t] else []) (fun t ht kk q => ?_) ?_
    · obtain ⟨M, hMa, _, hM⟩ := hFat t (RchS.lt hg hs1 ((hL2 t).mp ht))
      have ea : ((M.map iD).any fun z => deqv z (D.int (k : Nat))) = decide (k ∈ M) := any_int
      refine ⟨_, hMa, rfl, ints_ok, ?_⟩
      rw [ea]
      by_cases c : RchS rs t k
      · rw [if_pos (decide_eq_true c)] at q
        rw [if_pos (decide_eq_true ((hM k).mpr c))]
        exact q
      · rw [if_neg (by simpa using c)] at q
        rw [if_neg (by rw [decide_eq_true_iff]; exact fun h => c ((hM k).mp h))]
        exact q
    rw [flat_filterP (f := iD) (p := fun t => decide (RchS rs t k))]
    have eL : (L.filter fun t => decide (RchS rs t k)) = lotS n rs k := by
      refine asc_eqN (pL.filter _) lotS_pw fun t => ?_
      rw [List.mem_filter, hL2, lotS_mem, decide_eq_true_iff]
      exact ⟨fun ⟨q1, q2⟩ => ⟨RchS.lt hg hs1 q1, q1, q2⟩, fun ⟨_, q1, q2⟩ => ⟨q1, q2⟩⟩
    rw [eL]
    subst hR2
    refine if_cut fun B hB => ?_
    walk_at "go"
    have ix := inX (lotS n rs k)
    refine ⟨ints_ok, okX, ?_⟩
    rw [ix]
    by_cases c : lotS n rs k ∈ Ls
    · rw [if_neg (by rw [decide_eq_true c]; decide)]
      rw [hXL]
      exact hnx _ ⟨Ls, _, _, _, hL.old c, rfl⟩
    · rw [if_pos (by rw [decide_eq_false c]; rfl)]
      subst hB
      walk_at "go"
      refine ⟨hXl, ?_⟩
      have em : (Ls ++ [lotS n rs k]).map (fun L => D.lst (L.map iD)) = (Ls.map fun L => D.lst (L.map iD)) ++ [D.lst ((lotS n rs k).map iD)] := by rw [List.map_append]; rfl
      rw [hXL, ← em]
      exact hnx _ ⟨Ls ++ [lotS n rs k], _, _, _, hL.new c hs1, rfl⟩
  obtain ⟨Ls, c1, c4, c5, hL, rfl⟩ := hI
  rw [Nat.zero_add, List.length_map, List.length_range] at hL
  show R _
  subst hR
  walk_at "go"
  exact h Ls hL
theorem ok__law_normal (T : Txt K mg a) : FnOk P w K mg base CX0 4 a.f__law_normal a.fd__law_normal ["_law_spec_here"] (spE 1 tf__law_normal) := by
  refine ok_E T.F__law_normal sc__law_normal rfl (fun cdv A outer s H E hr => ⟨_, (ds_cons (ds_set (i := 1) sc__law_normal.nd rfl (Or.inr rfl) (PE.toE (df_lc (own := [("_law_state", 3)]) (di_range1 T.n_range (dap_cons (PE.toP (de_item (dp_var (pv 0)) (PE.toP (de_int)))) dap_nil)) sc__law_normal.nd (blkOk_by (own := [("_law_state", 3)]) (N := N__law_normal) (sc := defScope s__law_normal) (by decide +kernel)) (fun _ _ _ _ _ => (dg_name (i := 3) sc__law_normal.nd rfl (Or.inl rfl))) (fun _ _ _ _ _ => dts_nil) (fun _ _ _ _ _ => (de_fn (ok__law_reach T) (hr.mono (by first | decide | omega)) T.g__law_reach (k__law_reach T) (b0__law_reach T) (fun _ _ _ => .nil) (da_cons (de_var (pv 0)) (da_cons (de_var (pv 3)) (da_cons (PE.toE (df_lst (da_cons (de_str) da_nil))) da_nil))) ar__law_reach)))))
      (ds_cons (ds_setLc (i := 2) (own := [("_law_row", 4)]) (di_seq (de_item (dp_var (pv 0)) (PE.toP (de_int)))) sc__law_normal.nd rfl rfl (sw_true rfl rfl rfl (by decide +kernel)) (blkOk_by (own := [("_law_row", 4)]) (N := N__law_normal) (sc := defScope s__law_normal) (by decide +kernel)) (fun _ _ _ _ _ => (dg_name (i := 4) sc__law_normal.nd rfl (Or.inl rfl))) (fun _ _ _ _ _ => dts_nil) (fun _ _ _ _ _ => (de_add (PE.toP (de_slice (dp_var (pv 4)) do_none (do_some (PE.toP (de_int))))) (PE.toP (de_tup (da_cons (de_if (PW.pt (dt_and (dt_eq hr.units (PE.toP (de_item (dp_var (pv 4)) (PE.toP (de_int)))) (PE.toP (de_str))) (dt_and1 (dt_in (u65 hr) (PE.toP (de_item (dp_var (pv 4)) (PE.toP (de_int)))) (PE.toP (de_item (dp_var (pv 1)) (PE.toP (de_item (dp_var (pv 4)) (PE.toP (de_int)))))))))) (de_str) (de_str)) da_nil))))))
      (ds_one (ds_ret (PE.toE (df_lst (da_cons (de_item (dp_var (pv 0)) (PE.toP (de_int))) (da_cons (de_item (dp_var (pv 0)) (PE.toP (de_int))) (da_cons (de_var (pv 2)) (da_cons (de_item (dp_var (pv 0)) (PE.toP (de_int))) da_nil)))))))))), fun ds Qd hd h => ?_⟩)
  obtain ⟨al, n, i, rs, rfl, h⟩ := h
  simp only [List.map_cons, List.map_nil]
  obtain ⟨hg, h⟩ := h
  have hn := hg.hi
  have hrl := hg.len
  refine seq_cut fun R hR => ?_
  unfold specD
  walk_at "go"
  refine ⟨by omega, by omega, by rw [List.length_map, List.length_range, Int.toNat_natCast]; show _ ≤ 16777216; omega, ?_⟩
  rw [Int.toNat_natCast]
  refine wpMap_each (kf := fun i : Nat => D.int (0 + (i : Int))) (fun s y => ∃ L : List Nat, y = .lst (L.map iD) ∧ ∀ t, t ∈ L ↔ RK rs true s t) (fun s hs k q => ?_) fun F hFl hF => ?_
  · have hs := List.mem_range.mp hs
    rw [show (0 : Int) + (s : Int) = ((s : Nat) : Int) by omega]
    exact ⟨by decide, al, n, i, rs, rfl, s, rfl, true, by rw [safe_eq]; rfl, hg, hs, fun L _ hL => q _ ⟨L, rfl, hL⟩⟩
  have hFat : ∀ s, s < n → ∃ L : List Nat, atI F (s : Int) = some (.lst (L.map iD)) ∧ ∀ t, t ∈ L ↔ RK rs true s t := fun s hs => by
    obtain ⟨y, hy, L, rfl, hL⟩ := hF s s (List.getElem?_range hs)
    exact ⟨L, atI_nat hy, hL⟩
  subst hR
  refine seq_cut fun R hR => ?_
  walk_at "go"
  refine ⟨by rw [List.length_map]; show _ ≤ 16777216; omega, ?_⟩
  rw [safe_eq, slip_eq]
  refine wpMap_on (kf := rowD) (fun r => rowD (nrmR rs r)) (fun r hr k q => ?_) ?_
  · have hrs := hg.src r hr
    have hrt := hg.tgt r hr
    obtain ⟨L, hLa, hL⟩ := hFat r.t hrt
    replace q : k [D.tup ([D.int r.s, D.str [r.l], D.int r.t] ++ [D.str (wC (nrmR rs r).w)])] := q
    have fin : ∀ b : Bool, (b = true ↔ r.w = true ∧ RchS rs r.t r.s) → k [D.tup ([D.int r.s, D.str [r.l], D.int r.t] ++ [D.str (wC b)])] := fun b hb => by
      have : (nrmR rs r).w = b := by
        classical
        show (r.w && decide (RchS rs r.t r.s)) = b
        rw [Bool.eq_iff_iff, hb, Bool.and_eq_true, decide_eq_true_iff]
      rw [← this]; exact q
    unfold rowD
    refine ⟨by simp [HT.sIx], _, rfl, wC_ok _, wC_ok _, ?_⟩
    rw [wC_deq]
    by_cases c1 : r.w = true
    rotate_left
    · rw [if_neg (by rw [decide_eq_true_iff]; exact c1)]
      exact ⟨by decide, by simp [cut, HT.sIx], by show 4 ≤ 16777216; decide, fin false ⟨nofun, fun q => absurd q.1 c1⟩⟩
    rw [if_pos (by rw [decide_eq_true_iff]; exact c1)]
    refine ⟨_, rfl, _, rfl, _, hLa, rfl, ints_ok, ?_⟩
    rw [any_int]
    by_cases c2 : RchS rs r.t r.s
    · rw [if_pos (by rw [decide_eq_true_iff, hL]; exact RK_true.mpr c2)]
      exact ⟨by decide, by simp [cut, HT.sIx], by show 4 ≤ 16777216; decide, fin true ⟨fun _ => ⟨c1, c2⟩, fun _ => rfl⟩⟩
    · rw [if_neg (by rw [decide_eq_true_iff, hL]; exact fun h => c2 (RK_true.mp h))]
      exact ⟨by decide, by simp [cut, HT.sIx], by show 4 ≤ 16777216; decide, fin false ⟨nofun, fun q => absurd q.2 c2⟩⟩
  · rw [show (rs.map fun r => rowD (nrmR rs r)) = (rs.map (nrmR rs)).map rowD by rw [List.map_map]; rfl]
    subst hR
    walk_at "go"
    exact ⟨by decide, h⟩
theorem ok__law_is (T : Txt K mg a) : FnOk P w K mg base CX0 68 a.f__law_is a.fd__law_is ["_law_made_z", "_law_spec_here"] (spE 2 (tf__law_is a)) := by
  refine ok_E T.F__law_is sc__law_is rfl (fun cdv A outer s H E hr => ⟨_, (ds_one (ds_ret (de_fn (okL T 65) (hr.mono (by first | decide | omega)) T.g__law_like (k__law_like T) (b0__law_like T) (fun _ _ _ => .nil) (da_cons (PE.toE (df_lst (da_cons (de_fld (dp_var (pv 0)) T.cl_Automaton T.no_Automaton_alphabet) (da_cons (de_fld (dp_var (pv 0)) T.cl_Automaton T.no_Automaton_size) (da_cons (de_fld (dp_var (pv 0)) T.cl_Automaton T.no_Automaton_initial) (da_cons (de_meth0 (de_var (pv 0)) T.cl_Automaton T.m_Automaton_transitions (ok_Automaton_transitions T) (hr.mono (by first | decide | omega)) (b0_Automaton_transitions T) (fun _ _ _ => .nil) ar_Automaton_transitions) da_nil)))))) (da_cons (PE.toE (df_lst (da_cons (de_item (dp_var (pv 1)) (PE.toP (de_int))) (da_cons (de_item (dp_var (pv 1)) (PE.toP (de_int))) (da_cons (de_item (dp_var (pv 1)) (PE.toP (de_int))) (da_cons (PE.toE (df_sorted (u70 hr) T.n_sorted (dap_cons (PE.toP (de_item (dp_var (pv 1)) (PE.toP (de_int)))) dap_nil))) da_nil)))))) da_nil)) (ar_tL 65)))), fun ds Qd hd h => ?_⟩)
  obtain ⟨al, n, i, rs, rs2, rfl, h⟩ := h
  simp only [List.map_cons, List.map_nil]
  obtain ⟨⟨hg, hp⟩, h⟩ := h
  unfold autD specD
  walk_at "go"
  refine ⟨by decide, al, n, i, rs, rfl, hg, by decide, rows_can (hg.permA hp), by decide, ?_⟩
  rw [(sort_rows rs2 rs).mpr (hp.map rowD), sortR_map]
  exact ⟨_, rfl, auto_gv (hg.permA (sortR_perm rs)), h⟩
local macro_rules | `(tactic| walk_at "go") => `(tactic| simp (maxSteps := 3000000) only [tf__law_draws, tf__law_pull, tf__law_any, tf_is_number, tf_is_word, tf_is_alphabet, tf__law_like, tf__law_alphabet, tf_is_transition, tf_Automaton___init__, tf_Automaton_check_state, tf_Automaton_check_letter, tf_Automaton_moves, tf_Automaton_targets, tf_Automaton_transitions, tf_Automaton___eq__, tf_finishing_order, tf_strong_parts, tf_safe_edges, tf_normal, tf_components, tf__law_mixed, tf__law_rows, tf__law_spec, tf__law_made, tf__law_steps, tf__law_goals, tf__law_reach, tf__law_lots, tf__law_normal, tf__law_is, tf_law, fn_alphabet_size, fn_alphabet_initial, fn_alphabet_own_moves, fn_size_alphabet, fn_size_initial, fn_size_own_moves, fn_initial_alphabet, fn_initial_size, fn_initial_own_moves, fn_own_moves_alphabet, fn_own_moves_size, fn_own_moves_initial, ati0, ati1, ati2, ati3, dLRg, dIndex, dFnX, dsRaise, dMethX, dMethKF, daCons, daNil, dsAppF, dOwn1, dMakeCp, dGet2R, dDispT, diEnumG, dFnKX, dProp, rIsBD, rNotBD, dsMul3, dsMulT3, set3, d3E, d3F, d3R, d3Nil, dDispN, dsNPut, dNIn, dNGet, dsRes, dDeep, dsDApp, dsFrzD, dsRetG, dFnG0, rSumD, dsSetI, dgLst, dsAsgP, dPop, dItemP, dsForP, dDisp1, dsDSetd, dFnB, dListV, dFnDp, daDeep, dFnKX, rNotBD, tL, dsNil, dsSeq, dsDrop, dsRet, dsRetF, dsRetN, dsRetO, dsIf, dsSet, dsOwn, dsFrz, dsPar, dsMul, setK, dkE, dkF, dkNil, rLenSet, rSortD, rMaxD, dFnK, dsAug, augD, dsApp, dsAsg, dsFor, dsBreak, dsCont, dgName, dgTup, dgCons, dgNil, dVar, dPeek, dC, d1, d2, d3, dAnd, dOr, dNot, dTest, dTestB, truD, dtAnd, dtOr, dtNot, dIf, dLst, dTup, dCall, dFn, daCons, daNil, rAddD, rMulD, rMulF, rII, rEqDD, rNeDD, rOrdD, rInDD, rIxD, rSlD, dSl, dSlF, doSome, doNone, rLenD, rIntD, rMM, rAllD, rListD, rTupD, rStrI, rIsiD, rIsiLT, rNegD, dJoin, rJoinD, diSeq, diRng1, diRng2, diEnum, diZip, itemsD, dLc, lcF, dtsNil, dLc2, lcF2, Sl.dat, tyN, isNon, knownD, isIntD, isBoolD, isStrD, isListD, isTupD, isSeqD, List.getElem?_cons_succ, List.getElem?_cons_zero, List.set_cons_succ, List.set_cons_zero, List.cons_append, List.nil_append, List.append_nil, List.replicate_succ, List.replicate_zero, List.length_cons, List.length_nil, Nat.reduceAdd, Nat.reduceSub, Int.reduceToNat, Int.reducePow, wipeS, List.map_cons, List.map_nil, Option.bind_some, Option.some.injEq, D.int.injEq, D.bl.injEq, D.str.injEq, D.lst.injEq, D.tup.injEq, Sl.val.injEq, Sl.own.injEq, List.cons.injEq, and_true, true_and, ex_eq, exists_eq_left, exists_eq_left', exists_eq, exists_eq', and_assoc, exists_and_left, if_true, if_false, ite_true, ite_false, Bool.false_eq_true, Bool.not_true, Bool.not_false, reduceCtorEq, ↓reduceIte, Option.isSome_some, Option.isSome_none, false_and, and_false, exists_false, D.ins.injEq, D.raw.injEq, V.ref.injEq, eq_self, dFld, dsFld, dMeth, dOp2, dRadd, dGet, dEqI, rIsiC, rIsiX, dFmt, dFmtR, dJoined, dJs, dOwn1, rStrO, rLenO, rReprS, rListS, dSS, rSS, dEqX, dNeX, okOther, dsDput, dGetR, dInR, dsFrzL, dLk, diKeys, dDc, dcF, dDc2, dcF2, dsIns, rEqDic, rLenDic, D.dic.injEq, id, getF, putN, putV, permL_cons, permL_nil, Option.toList_some, iteAnd, iteOr, wpFor, wpMap])
theorem law_at (T : Txt K mg a) : FnOk P w K mg base CX0 70 a.f_law a.fd_law ["_law_script"] (spLaw K) := by
  refine T.F_law.ok sc_law (fun vs H Q E h => ?_) (fun cdv A outer s H vs Q E hr h => ?_)
  · obtain ⟨sc, ns, rfl, _⟩ := h
    rfl
  · obtain ⟨sc, ns, rfl, hS, hlen, q⟩ := h
    refine ⟨_, PSs.nox (pss_cons (ps_set (i := 1) sc_law.nd rfl (Or.inl rfl) (pe_call (ok__law_draws T) (hr.mono (by decide)) (by rfl) T.g__law_draws (k__law_draws T) (T.F__law_draws.bindsN (ps := ["_law_script"]) fun _ _ _ _ _ _ us hl => match us, hl with | [_], _ => rfl) .nil pass0 (pa_cons (pv 0) pa_nil)))
      (ds_cons (ds_for (di_range1 T.n_range (dap_cons (PE.toP (de_int)) dap_nil)) (dg_name (i := 2) sc_law.nd rfl (Or.inl rfl)) (ds_cons (ds_set (i := 3) sc_law.nd rfl (Or.inl rfl) (PE.toE (df_fn (ok__law_spec T) (hr.mono (by first | decide | omega)) T.g__law_spec (k__law_spec T) (b0__law_spec T) (fun _ _ _ => .nil) (da_cons (de_var (pv 1)) (da_cons (de_int) (da_cons (de_eq hr.units (PE.toP (de_fn (ok__law_pull T) (hr.mono (by first | decide | omega)) T.g__law_pull (k__law_pull T) (b0__law_pull T) (fun _ _ _ => .nil) (da_cons (de_var (pv 1)) (da_cons (de_int) da_nil)) ar__law_pull)) (PE.toP (de_int))) da_nil))) ar__law_spec)))
      (ds_cons (ds_set (i := 4) sc_law.nd rfl (Or.inl rfl) (PE.toE (df_fn (ok__law_made T) (hr.mono (by first | decide | omega)) T.g__law_made (k__law_made T) (b0__law_made T) (fun _ _ _ => .nil) (da_cons (de_var (pv 3)) da_nil) ar__law_made)))
      (ds_cons (ds_mul2R (i := 5) (j := 6) sc_law.nd rfl rfl (by decide) rfl rfl (d3_R (r := 7) (dr_fnDp (ok_components T) (hr.mono (by first | decide | omega)) T.g_components (k_components T) (b0_components T) (fun _ _ _ => .nil) (da_cons (de_var (pv 4)) da_nil) ar_components) (d3_E (PE.toE (df_fn (ok_normal T) (hr.mono (by first | decide | omega)) T.g_normal (k_normal T) (b0_normal T) (fun _ _ _ => .nil) (da_cons (de_var (pv 4)) da_nil) ar_normal)) d3_nil)))
      (ds_cons (ds_if (PW.pt (dt_or (dt_not (dt_val (PE.toP (de_fnAB (okL T 65) (hr.mono (by first | decide | omega)) T.g__law_like (k__law_like T) (b0__law_like T) (fun _ _ _ => .nil) (ab_D (r := 7) (pv 5) (ab_P (PE.toP (PE.toE (df_fn (ok__law_lots T) (hr.mono (by first | decide | omega)) T.g__law_lots (k__law_lots T) (b0__law_lots T) (fun _ _ _ => .nil) (da_cons (de_var (pv 3)) da_nil) ar__law_lots))) ab_nil)) (ar_tL 65))))) (dt_or (dt_not (dt_val (PE.toP (de_fn (ok__law_is T) (hr.mono (by first | decide | omega)) T.g__law_is (k__law_is T) (b0__law_is T) (fun _ _ _ => .nil) (da_cons (de_var (pv 6)) (da_cons (de_fn (ok__law_normal T) (hr.mono (by first | decide | omega)) T.g__law_normal (k__law_normal T) (b0__law_normal T) (fun _ _ _ => .nil) (da_cons (de_var (pv 3)) da_nil) ar__law_normal) da_nil)) ar__law_is)))) (dt_or1 (dt_not (dt_val (PE.toP (de_fn (ok__law_is T) (hr.mono (by first | decide | omega)) T.g__law_is (k__law_is T) (b0__law_is T) (fun _ _ _ => .nil) (da_cons (de_var (pv 4)) (da_cons (de_var (pv 3)) da_nil)) ar__law_is)))))))) (ds_one (ds_ret (de_bl))) ds_nil)
      (ds_cons (ds_dapp (r := 7) (pv 5) (de_int) (de_int))
      (ds_one (ds_if (PW.pt (dt_or (dt_not (dt_val (PE.toP (de_fn (okL T 65) (hr.mono (by first | decide | omega)) T.g__law_like (k__law_like T) (b0__law_like T) (fun _ _ _ => .nil) (da_cons (PE.toE (df_fnK0 (ok_components T) (hr.mono (by first | decide | omega)) T.g_components (k_components T) (kb1_components T) (dw_cons (de_var (pv 4)) dw_nil) ar_components)) (da_cons (PE.toE (df_fn (ok__law_lots T) (hr.mono (by first | decide | omega)) T.g__law_lots (k__law_lots T) (b0__law_lots T) (fun _ _ _ => .nil) (da_cons (de_var (pv 3)) da_nil) ar__law_lots)) da_nil)) (ar_tL 65))))) (dt_or (dt_not (dt_val (PE.toP (de_fn (okL T 65) (hr.mono (by first | decide | omega)) T.g__law_like (k__law_like T) (b0__law_like T) (fun _ _ _ => .nil) (da_cons (PE.toE (df_fn (ok_components T) (hr.mono (by first | decide | omega)) T.g_components (k_components T) (b0_components T) (fun _ _ _ => .nil) (da_cons (de_var (pv 6)) da_nil) ar_components)) (da_cons (PE.toE (df_fn (ok__law_lots T) (hr.mono (by first | decide | omega)) T.g__law_lots (k__law_lots T) (b0__law_lots T) (fun _ _ _ => .nil) (da_cons (de_var (pv 3)) da_nil) ar__law_lots)) da_nil)) (ar_tL 65))))) (dt_or1 (dt_not (dt_eqX (PE.toE (df_fn (ok_normal T) (hr.mono (by first | decide | omega)) T.g_normal (k_normal T) (b0_normal T) (fun _ _ _ => .nil) (da_cons (de_var (pv 6)) da_nil) ar_normal)) (de_var (pv 6)) T.eq_Automaton (ok_Automaton___eq__ T) (hr.mono (by first | decide | omega)) (b0_Automaton___eq__ T))))))) (ds_one (ds_ret (de_bl))) ds_nil))))))))
      (ds_one (ds_ret (de_bl))))), ?_⟩
    refine ⟨.ref sc, rfl, sc, ns, rfl, hS, hlen, fun H' p l gr bg => ?_⟩
    refine lS_law (n := 6) bg (fun H' => q H') ?_
    refine seq_cut fun R hR => ?_
    refine for_rng (fun _ S => ∃ c2 c3 c4 c5 c6 c7, S = [.no, .val .bag, c2, c3, c4, c5, c6, c7]) (by decide) (by decide) ⟨_, _, _, _, _, _, rfl⟩ (fun j S De' _ hI hn _ _ hrt hrf => ?_) (fun S hI => ?_)
    · obtain ⟨c2, c3, c4, c5, c6, c7, rfl⟩ := hI
      clear hR
      have hrt' : De'.rt = fun d => d = D.bl true := hrt
      clear hrt hrf
      refine seq_cut fun R hR => ?_
      walk_at "go"
      refine ⟨by decide, by decide, fun x x0 x1 => ⟨rfl, rfl, 7, rfl, by decide, by decide, fun al n i rs hn7 hg hp => ?_⟩⟩
      clear hp x0 x1 x
      have h3 := alpha_len hg.alp
      have low := alpha_lowS hg.alp
      have hap := alpha_pos hg.alp
      have hn0 := hg.lo
      subst hR
      refine seq_cut fun R hR => ?_
      walk_at "go"
      refine ⟨al, n, rs, i, rfl, hg, ?_⟩
      subst hR
      refine seq_cut fun R hR => ?_
      walk_at "go"
      refine ⟨by rw [noIL_cons, noI_aut]; rfl, al, n, i, rs, rfl, hg, fun Ls hC hS => dpN hC.ne hC.nd fun p as hl => ⟨al, n, i, rs, rfl, hg, ?_⟩⟩
      subst hR
      refine seq_cut fun R hR => ?_
      walk_at "go"
      refine ⟨as, Ls.map fun L => L.map iD, rfl, al, n, i, rs, rfl, hg, fun Ms hM => ?_⟩
      obtain rfl : Ls = Ms := comp_uniq hC hS hM
      have gL : Gv 62 (.lst (Ls.map fun L => .lst (L.map iD))) := Gv.lst (n := 60) (GvL.map (f := fun L : List Nat => D.lst (L.map iD)) fun L hL => Gv.lst (n := 59) ints_gv (by rw [List.length_map]; have := hC.lenL hL; have := hg.hi; omega)) (by rw [List.length_map]; have := hM.len; have := hg.hi; omega)
      have pN := sortR_perm rs
      have hgN : GoodA al n i ((sortR rs).map (nrmR rs)) := good_nrm (hg.permA pN)
      rw [lls_map]
      refine ⟨rfl, gL.1, gL.2.1, by have := gL.2.2; omega, rfl, al, n, i, rs, rfl, hg, al, n, i, _, rfl, _, rfl, hgN, (pN.symm.map _), al, n, i, rs, rfl, rs, rfl, hg, .refl _, ?_⟩
      subst hR
      refine seq_cut fun R hR => ?_
      walk_at "go"
      obtain ⟨L0, Lt, hL0⟩ : ∃ L0 Lt, Ls = L0 :: Lt := by
        obtain ⟨L, hL, _⟩ := hC.all 0 (by omega)
        cases Ls with
        | nil => cases hL
        | cons a K => exact ⟨a, K, rfl⟩
      refine ⟨0, rfl, as, Ls.map fun L => L.map iD, rfl, L0.map iD, by rw [hL0]; rfl, ?_, ?_⟩
      · have := hC.lenL (L := L0) (by rw [hL0]; simp)
        rw [List.length_map]
        show _ < 16777216
        have := hg.hi
        omega
      generalize ((Ls.map fun L => L.map iD).set 0 (L0.map iD ++ [D.int 99])) = W
      subst hR
      walk_at "go"
      refine ⟨al, n, i, rs, rfl, hg, fun Ms hC2 hS2 => ⟨al, n, i, rs, rfl, hg, fun Ns hN => ?_⟩⟩
      obtain rfl : Ls = Ns := comp_uniq hC hS hN
      obtain rfl : Ls = Ms := (comp_uniq hC2 hS2 hM).symm
      refine ⟨rfl, gL.1, gL.2.1, by have := gL.2.2; omega, al, n, i, _, rfl, hgN, fun Ms hC3 hS3 => ⟨al, n, i, rs, rfl, hg, fun Ns hN2 => ?_⟩⟩
      obtain rfl : Ls = Ns := comp_uniq hC hS hN2
      obtain rfl : Ls = Ms := (comp_uniq (hC3.permR (pN.map _)).unnrm hS3 hM).symm
      refine ⟨rfl, gL.1, gL.2.1, by have := gL.2.2; omega, al, n, i, _, rfl, hgN, ⟨_, _, rfl⟩, rfl, ?_⟩
      have htw := nrm_twice hg
      generalize (sortR rs).map (nrmR rs) = ts at hgN htw ⊢
      have hg2 : GoodA al n i ((sortR ts).map (nrmR ts)) := good_nrm (hgN.permA (sortR_perm ts))
      refine ⟨al, n, i, _, rfl, hg2, .inl ⟨al, n, i, ts, rfl, hgN⟩, ?_⟩
      rw [eqAut_aut hg2 hgN, decide_eq_true rfl, decide_eq_true rfl, decide_eq_true rfl, decide_eq_true htw, if_neg (by decide)]
      exact hn _ ⟨_, _, _, _, _, _, rfl⟩
    · obtain ⟨c2, c3, c4, c5, c6, c7, rfl⟩ := hI
      subst hR
      walk_at "go"
end
end L2.DL.LW
namespace L2.DL.LW
open PySem PySem.Spec PyProof.Rows
section
namespace Hd
theorem txt {K : PySem.W.Frag} {h : Heap} {mg : Str → Option Value} (X : K.In h) (G : h.Ns mainGlobals mg) (c : Hk.SaysM fb fn K) : ∃ a : Adr, Txt K mg a ∧ a.f_law = He.ga K "law" ∧ FunD K "law" "law" (defArgs s_law) (defBody s_law) (defScope s_law) [] [] (He.ga K "law") a.fd_law ∧ mg "law" = some (.ref (He.ga K "law")) := by
  have aC_Automaton : PySem.W.nsIn K mainGlobals "Automaton" = some (some (.ref (He.ga K "Automaton"))) := (He.eqO_ok (c.fact 0 rfl))
  have a0 : PySem.W.nsIn K mainGlobals "_law_draws" = some (some (.ref (He.ga K "_law_draws"))) := (He.eqO_ok (c.fact 1 rfl))
  obtain ⟨fd0, F0⟩ := c.def_ 0 (d := d0) rfl
  have a1 : PySem.W.nsIn K mainGlobals "_law_pull" = some (some (.ref (He.ga K "_law_pull"))) := (He.eqO_ok (c.fact 2 rfl))
  obtain ⟨fd1, F1⟩ := c.def_ 1 (d := d1) rfl
  have a2 : PySem.W.nsIn K mainGlobals "_law_any" = some (some (.ref (He.ga K "_law_any"))) := (He.eqO_ok (c.fact 3 rfl))
  obtain ⟨fd2, F2⟩ := c.def_ 2 (d := d2) rfl
  have a3 : PySem.W.nsIn K mainGlobals "is_number" = some (some (.ref (He.ga K "is_number"))) := (He.eqO_ok (c.fact 4 rfl))
  obtain ⟨fd3, F3⟩ := c.def_ 3 (d := d3) rfl
  have a4 : PySem.W.nsIn K mainGlobals "is_word" = some (some (.ref (He.ga K "is_word"))) := (He.eqO_ok (c.fact 5 rfl))
  obtain ⟨fd4, F4⟩ := c.def_ 4 (d := d4) rfl
  have a5 : PySem.W.nsIn K mainGlobals "is_alphabet" = some (some (.ref (He.ga K "is_alphabet"))) := (He.eqO_ok (c.fact 6 rfl))
  obtain ⟨fd5, F5⟩ := c.def_ 5 (d := d5) rfl
  have a6 : PySem.W.nsIn K mainGlobals "_law_like" = some (some (.ref (He.ga K "_law_like"))) := (He.eqO_ok (c.fact 7 rfl))
  obtain ⟨fd6, F6⟩ := c.def_ 6 (d := d6) rfl
  have a7 : PySem.W.nsIn K mainGlobals "_law_alphabet" = some (some (.ref (He.ga K "_law_alphabet"))) := (He.eqO_ok (c.fact 8 rfl))
  obtain ⟨fd7, F7⟩ := c.def_ 7 (d := d7) rfl
  have a8 : PySem.W.nsIn K mainGlobals "is_transition" = some (some (.ref (He.ga K "is_transition"))) := (He.eqO_ok (c.fact 9 rfl))
  obtain ⟨fd8, F8⟩ := c.def_ 8 (d := d8) rfl
  have a9 : PySem.W.findIn K (.ref (He.ga K "Automaton")) "__init__" = some (some (.ref (He.ma K (He.ga K "Automaton") "__init__"))) := (He.eqO_ok (c.fact 10 rfl))
  have i9 : PySem.W.isFn K (.ref (He.ma K (He.ga K "Automaton") "__init__")) = true := (c.fact 11 rfl)
  have k9 : PySem.W.keepIn K (.ref (He.ma K (He.ga K "Automaton") "__init__")) = true := (c.fact 12 rfl)
  obtain ⟨fd9, F9⟩ := c.def_ 9 (d := d9) rfl
  have a10 : PySem.W.findIn K (.ref (He.ga K "Automaton")) "check_state" = some (some (.ref (He.ma K (He.ga K "Automaton") "check_state"))) := (He.eqO_ok (c.fact 13 rfl))
  have i10 : PySem.W.isFn K (.ref (He.ma K (He.ga K "Automaton") "check_state")) = true := (c.fact 14 rfl)
  have k10 : PySem.W.keepIn K (.ref (He.ma K (He.ga K "Automaton") "check_state")) = true := (c.fact 15 rfl)
  obtain ⟨fd10, F10⟩ := c.def_ 10 (d := d10) rfl
  have a11 : PySem.W.findIn K (.ref (He.ga K "Automaton")) "check_letter" = some (some (.ref (He.ma K (He.ga K "Automaton") "check_letter"))) := (He.eqO_ok (c.fact 16 rfl))
  have i11 : PySem.W.isFn K (.ref (He.ma K (He.ga K "Automaton") "check_letter")) = true := (c.fact 17 rfl)
  have k11 : PySem.W.keepIn K (.ref (He.ma K (He.ga K "Automaton") "check_letter")) = true := (c.fact 18 rfl)
  obtain ⟨fd11, F11⟩ := c.def_ 11 (d := d11) rfl
  have a12 : PySem.W.findIn K (.ref (He.ga K "Automaton")) "moves" = some (some (.ref (He.ma K (He.ga K "Automaton") "moves"))) := (He.eqO_ok (c.fact 19 rfl))
  have i12 : PySem.W.isFn K (.ref (He.ma K (He.ga K "Automaton") "moves")) = true := (c.fact 20 rfl)
  have k12 : PySem.W.keepIn K (.ref (He.ma K (He.ga K "Automaton") "moves")) = true := (c.fact 21 rfl)
  obtain ⟨fd12, F12⟩ := c.def_ 12 (d := d12) rfl
  have a13 : PySem.W.findIn K (.ref (He.ga K "Automaton")) "targets" = some (some (.ref (He.ma K (He.ga K "Automaton") "targets"))) := (He.eqO_ok (c.fact 22 rfl))
  have i13 : PySem.W.isFn K (.ref (He.ma K (He.ga K "Automaton") "targets")) = true := (c.fact 23 rfl)
  have k13 : PySem.W.keepIn K (.ref (He.ma K (He.ga K "Automaton") "targets")) = true := (c.fact 24 rfl)
  obtain ⟨fd13, F13⟩ := c.def_ 13 (d := d13) rfl
  have a14 : PySem.W.findIn K (.ref (He.ga K "Automaton")) "transitions" = some (some (.ref (He.ma K (He.ga K "Automaton") "transitions"))) := (He.eqO_ok (c.fact 25 rfl))
  have i14 : PySem.W.isFn K (.ref (He.ma K (He.ga K "Automaton") "transitions")) = true := (c.fact 26 rfl)
  have k14 : PySem.W.keepIn K (.ref (He.ma K (He.ga K "Automaton") "transitions")) = true := (c.fact 27 rfl)
  obtain ⟨fd14, F14⟩ := c.def_ 14 (d := d14) rfl
  have a15 : PySem.W.findIn K (.ref (He.ga K "Automaton")) "__eq__" = some (some (.ref (He.ma K (He.ga K "Automaton") "__eq__"))) := (He.eqO_ok (c.fact 28 rfl))
  have i15 : PySem.W.isFn K (.ref (He.ma K (He.ga K "Automaton") "__eq__")) = true := (c.fact 29 rfl)
  have k15 : PySem.W.keepIn K (.ref (He.ma K (He.ga K "Automaton") "__eq__")) = true := (c.fact 30 rfl)
  obtain ⟨fd15, F15⟩ := c.def_ 15 (d := d15) rfl
  have a16 : PySem.W.nsIn K mainGlobals "finishing_order" = some (some (.ref (He.ga K "finishing_order"))) := (He.eqO_ok (c.fact 31 rfl))
  obtain ⟨fd16, F16⟩ := c.def_ 16 (d := d16) rfl
  have a17 : PySem.W.nsIn K mainGlobals "strong_parts" = some (some (.ref (He.ga K "strong_parts"))) := (He.eqO_ok (c.fact 32 rfl))
  obtain ⟨fd17, F17⟩ := c.def_ 17 (d := d17) rfl
  have a18 : PySem.W.nsIn K mainGlobals "safe_edges" = some (some (.ref (He.ga K "safe_edges"))) := (He.eqO_ok (c.fact 33 rfl))
  obtain ⟨fd18, F18⟩ := c.def_ 18 (d := d18) rfl
  have a19 : PySem.W.nsIn K mainGlobals "normal" = some (some (.ref (He.ga K "normal"))) := (He.eqO_ok (c.fact 34 rfl))
  obtain ⟨fd19, F19⟩ := c.def_ 19 (d := d19) rfl
  have a20 : PySem.W.nsIn K mainGlobals "components" = some (some (.ref (He.ga K "components"))) := (He.eqO_ok (c.fact 35 rfl))
  obtain ⟨fd20, F20⟩ := c.def_ 20 (d := d20) rfl
  have a21 : PySem.W.nsIn K mainGlobals "_law_mixed" = some (some (.ref (He.ga K "_law_mixed"))) := (He.eqO_ok (c.fact 36 rfl))
  obtain ⟨fd21, F21⟩ := c.def_ 21 (d := d21) rfl
  have a22 : PySem.W.nsIn K mainGlobals "_law_rows" = some (some (.ref (He.ga K "_law_rows"))) := (He.eqO_ok (c.fact 37 rfl))
  obtain ⟨fd22, F22⟩ := c.def_ 22 (d := d22) rfl
  have a23 : PySem.W.nsIn K mainGlobals "_law_spec" = some (some (.ref (He.ga K "_law_spec"))) := (He.eqO_ok (c.fact 38 rfl))
  obtain ⟨fd23, F23⟩ := c.def_ 23 (d := d23) rfl
  have a24 : PySem.W.nsIn K mainGlobals "_law_made" = some (some (.ref (He.ga K "_law_made"))) := (He.eqO_ok (c.fact 39 rfl))
  obtain ⟨fd24, F24⟩ := c.def_ 24 (d := d24) rfl
  have a25 : PySem.W.nsIn K mainGlobals "_law_steps" = some (some (.ref (He.ga K "_law_steps"))) := (He.eqO_ok (c.fact 40 rfl))
  obtain ⟨fd25, F25⟩ := c.def_ 25 (d := d25) rfl
  have a26 : PySem.W.nsIn K mainGlobals "_law_goals" = some (some (.ref (He.ga K "_law_goals"))) := (He.eqO_ok (c.fact 41 rfl))
  obtain ⟨fd26, F26⟩ := c.def_ 26 (d := d26) rfl
  have a27 : PySem.W.nsIn K mainGlobals "_law_reach" = some (some (.ref (He.ga K "_law_reach"))) := (He.eqO_ok (c.fact 42 rfl))
  obtain ⟨fd27, F27⟩ := c.def_ 27 (d := d27) rfl
  have a28 : PySem.W.nsIn K mainGlobals "_law_lots" = some (some (.ref (He.ga K "_law_lots"))) := (He.eqO_ok (c.fact 43 rfl))
  obtain ⟨fd28, F28⟩ := c.def_ 28 (d := d28) rfl
  have a29 : PySem.W.nsIn K mainGlobals "_law_normal" = some (some (.ref (He.ga K "_law_normal"))) := (He.eqO_ok (c.fact 44 rfl))
  obtain ⟨fd29, F29⟩ := c.def_ 29 (d := d29) rfl
  have a30 : PySem.W.nsIn K mainGlobals "_law_is" = some (some (.ref (He.ga K "_law_is"))) := (He.eqO_ok (c.fact 45 rfl))
  obtain ⟨fd30, F30⟩ := c.def_ 30 (d := d30) rfl
  have a31 : PySem.W.nsIn K mainGlobals "law" = some (some (.ref (He.ga K "law"))) := (He.eqO_ok (c.fact 46 rfl))
  obtain ⟨fd31, F31⟩ := c.def_ 31 (d := d31) rfl
  have pg_Automaton : PySem.W.plainGet K (He.ga K "Automaton") Str.empty = true := (c.fact 47 rfl)
  have hd_Automaton : PySem.W.hasDictIn K (He.ga K "Automaton") = true := (c.fact 48 rfl)
  have po_Automaton : PySem.W.plainOver K (He.ga K "Automaton") = true := (c.fact 49 rfl)
  have sa_Automaton : PySem.W.findIn K (.ref (He.ga K "Automaton")) "__setattr__" = some (some (.builtin "object.__setattr__")) := (He.eqO_ok (c.fact 50 rfl))
  have ia_Automaton : PySem.W.findIn K (.ref (He.ga K "Automaton")) "__class__" = some (some (.builtin "object.__class__")) := (He.eqO_ok (c.fact 51 rfl))
  have ib_Automaton : PySem.W.specialIn K (.builtin "object.__class__") "__get__" = some (some (.builtin "getset_descriptor.__get__")) := (He.eqO_ok (c.fact 52 rfl))
  have ic_Automaton : PySem.W.takesIn K (.builtin "object.__class__") = some true := (of_decide_eq_true (c.fact 53 rfl))
  have im_Automaton : PySem.W.mroIn K (He.ga K "Automaton") (.type "object") = some true := (of_decide_eq_true (c.fact 54 rfl))
  have ks_Automaton : PySem.W.isClsIn K (He.ga K "Automaton") = true := (c.fact 55 rfl)
  have kt_Automaton : PySem.W.typeIn K (.ref (He.ga K "Automaton")) = some (.type "type") := (of_decide_eq_true (c.fact 56 rfl))
  have kn0_Automaton : PySem.W.subIn K (.type "NoneType") (.ref (He.ga K "Automaton")) = some false := (of_decide_eq_true (c.fact 57 rfl))
  have kn1_Automaton : PySem.W.subIn K (.type "bool") (.ref (He.ga K "Automaton")) = some false := (of_decide_eq_true (c.fact 58 rfl))
  have kn2_Automaton : PySem.W.subIn K (.type "int") (.ref (He.ga K "Automaton")) = some false := (of_decide_eq_true (c.fact 59 rfl))
  have kn3_Automaton : PySem.W.subIn K (.type "str") (.ref (He.ga K "Automaton")) = some false := (of_decide_eq_true (c.fact 60 rfl))
  have kn4_Automaton : PySem.W.subIn K (.type "list") (.ref (He.ga K "Automaton")) = some false := (of_decide_eq_true (c.fact 61 rfl))
  have kn5_Automaton : PySem.W.subIn K (.type "tuple") (.ref (He.ga K "Automaton")) = some false := (of_decide_eq_true (c.fact 62 rfl))
  have mk_Automaton : PySem.W.makesIn K (He.ga K "Automaton") = true := (c.fact 63 rfl)
  have kp_Automaton : PySem.W.keepIn K (.ref (He.ga K "Automaton")) = true := (c.fact 64 rfl)
  have no_Automaton_alphabet : PySem.W.findIn K (.ref (He.ga K "Automaton")) "alphabet" = some none := (He.eqO_ok (c.fact 65 rfl))
  have no_Automaton_size : PySem.W.findIn K (.ref (He.ga K "Automaton")) "size" = some none := (He.eqO_ok (c.fact 66 rfl))
  have no_Automaton_initial : PySem.W.findIn K (.ref (He.ga K "Automaton")) "initial" = some none := (He.eqO_ok (c.fact 67 rfl))
  have no_Automaton_own_moves : PySem.W.findIn K (.ref (He.ga K "Automaton")) "own_moves" = some none := (He.eqO_ok (c.fact 68 rfl))
  have nf_Automaton : PySem.W.findIn K (.ref (He.ga K "Automaton")) "__ne__" = some (some (.builtin "object.__ne__")) := (He.eqO_ok (c.fact 69 rfl))
  have n_all : PySem.W.nsIn K mainGlobals "all" = some none := (He.eqO_ok (c.fact 75 rfl))
  have n_bool : PySem.W.nsIn K mainGlobals "bool" = some none := (He.eqO_ok (c.fact 76 rfl))
  have n_enumerate : PySem.W.nsIn K mainGlobals "enumerate" = some none := (He.eqO_ok (c.fact 77 rfl))
  have n_int : PySem.W.nsIn K mainGlobals "int" = some none := (He.eqO_ok (c.fact 78 rfl))
  have n_isinstance : PySem.W.nsIn K mainGlobals "isinstance" = some none := (He.eqO_ok (c.fact 79 rfl))
  have n_len : PySem.W.nsIn K mainGlobals "len" = some none := (He.eqO_ok (c.fact 80 rfl))
  have n_list : PySem.W.nsIn K mainGlobals "list" = some none := (He.eqO_ok (c.fact 81 rfl))
  have n_min : PySem.W.nsIn K mainGlobals "min" = some none := (He.eqO_ok (c.fact 82 rfl))
  have n_range : PySem.W.nsIn K mainGlobals "range" = some none := (He.eqO_ok (c.fact 83 rfl))
  have n_sorted : PySem.W.nsIn K mainGlobals "sorted" = some none := (He.eqO_ok (c.fact 84 rfl))
  have n_str : PySem.W.nsIn K mainGlobals "str" = some none := (He.eqO_ok (c.fact 85 rfl))
  have n_tuple : PySem.W.nsIn K mainGlobals "tuple" = some none := (He.eqO_ok (c.fact 86 rfl))
  have n_zip : PySem.W.nsIn K mainGlobals "zip" = some none := (He.eqO_ok (c.fact 87 rfl))
  exact ⟨⟨(He.ga K "_law_draws"), fd0, (He.ga K "_law_pull"), fd1, (He.ga K "_law_any"), fd2, (He.ga K "is_number"), fd3, (He.ga K "is_word"), fd4, (He.ga K "is_alphabet"), fd5, (He.ga K "_law_like"), fd6, (He.ga K "_law_alphabet"), fd7, (He.ga K "is_transition"), fd8, (He.ma K (He.ga K "Automaton") "__init__"), fd9, (He.ma K (He.ga K "Automaton") "check_state"), fd10, (He.ma K (He.ga K "Automaton") "check_letter"), fd11, (He.ma K (He.ga K "Automaton") "moves"), fd12, (He.ma K (He.ga K "Automaton") "targets"), fd13, (He.ma K (He.ga K "Automaton") "transitions"), fd14, (He.ma K (He.ga K "Automaton") "__eq__"), fd15, (He.ga K "finishing_order"), fd16, (He.ga K "strong_parts"), fd17, (He.ga K "safe_edges"), fd18, (He.ga K "normal"), fd19, (He.ga K "components"), fd20, (He.ga K "_law_mixed"), fd21, (He.ga K "_law_rows"), fd22, (He.ga K "_law_spec"), fd23, (He.ga K "_law_made"), fd24, (He.ga K "_law_steps"), fd25, (He.ga K "_law_goals"), fd26, (He.ga K "_law_reach"), fd27, (He.ga K "_law_lots"), fd28, (He.ga K "_law_normal"), fd29, (He.ga K "_law_is"), fd30, (He.ga K "law"), fd31, (He.ga K "Automaton")⟩, {
    g__law_draws := PySem.W.mg_of X G a0,
    F__law_draws := F0,
    g__law_pull := PySem.W.mg_of X G a1,
    F__law_pull := F1,
    g__law_any := PySem.W.mg_of X G a2,
    F__law_any := F2,
    g_is_number := PySem.W.mg_of X G a3,
    F_is_number := F3,
    g_is_word := PySem.W.mg_of X G a4,
    F_is_word := F4,
    g_is_alphabet := PySem.W.mg_of X G a5,
    F_is_alphabet := F5,
    g__law_like := PySem.W.mg_of X G a6,
    F__law_like := F6,
    g__law_alphabet := PySem.W.mg_of X G a7,
    F__law_alphabet := F7,
    g_is_transition := PySem.W.mg_of X G a8,
    F_is_transition := F8,
    m_Automaton___init__ := ⟨a9, i9, k9⟩,
    F_Automaton___init__ := F9,
    m_Automaton_check_state := ⟨a10, i10, k10⟩,
    F_Automaton_check_state := F10,
    m_Automaton_check_letter := ⟨a11, i11, k11⟩,
    F_Automaton_check_letter := F11,
    m_Automaton_moves := ⟨a12, i12, k12⟩,
    F_Automaton_moves := F12,
    m_Automaton_targets := ⟨a13, i13, k13⟩,
    F_Automaton_targets := F13,
    m_Automaton_transitions := ⟨a14, i14, k14⟩,
    F_Automaton_transitions := F14,
    m_Automaton___eq__ := ⟨a15, i15, k15⟩,
    F_Automaton___eq__ := F15,
    g_finishing_order := PySem.W.mg_of X G a16,
    F_finishing_order := F16,
    g_strong_parts := PySem.W.mg_of X G a17,
    F_strong_parts := F17,
    g_safe_edges := PySem.W.mg_of X G a18,
    F_safe_edges := F18,
    g_normal := PySem.W.mg_of X G a19,
    F_normal := F19,
    g_components := PySem.W.mg_of X G a20,
    F_components := F20,
    g__law_mixed := PySem.W.mg_of X G a21,
    F__law_mixed := F21,
    g__law_rows := PySem.W.mg_of X G a22,
    F__law_rows := F22,
    g__law_spec := PySem.W.mg_of X G a23,
    F__law_spec := F23,
    g__law_made := PySem.W.mg_of X G a24,
    F__law_made := F24,
    g__law_steps := PySem.W.mg_of X G a25,
    F__law_steps := F25,
    g__law_goals := PySem.W.mg_of X G a26,
    F__law_goals := F26,
    g__law_reach := PySem.W.mg_of X G a27,
    F__law_reach := F27,
    g__law_lots := PySem.W.mg_of X G a28,
    F__law_lots := F28,
    g__law_normal := PySem.W.mg_of X G a29,
    F__law_normal := F29,
    g__law_is := PySem.W.mg_of X G a30,
    F__law_is := F30,
    g_law := PySem.W.mg_of X G a31,
    F_law := F31,
    g_Automaton := PySem.W.mg_of X G aC_Automaton,
    cl_Automaton := ⟨pg_Automaton, hd_Automaton, po_Automaton, sa_Automaton⟩,
    is_Automaton := (IsX.mk' ⟨⟨pg_Automaton, hd_Automaton, po_Automaton, sa_Automaton⟩, ia_Automaton, ib_Automaton, ic_Automaton, im_Automaton⟩ ks_Automaton kt_Automaton kn0_Automaton kn1_Automaton kn2_Automaton kn3_Automaton kn4_Automaton kn5_Automaton),
    mk_Automaton := ⟨mk_Automaton, a9, i9, kp_Automaton⟩,
    no_Automaton_alphabet := no_Automaton_alphabet,
    no_Automaton_size := no_Automaton_size,
    no_Automaton_initial := no_Automaton_initial,
    no_Automaton_own_moves := no_Automaton_own_moves,
    eq_Automaton := ⟨(IsX.mk' ⟨⟨pg_Automaton, hd_Automaton, po_Automaton, sa_Automaton⟩, ia_Automaton, ib_Automaton, ic_Automaton, im_Automaton⟩ ks_Automaton kt_Automaton kn0_Automaton kn1_Automaton kn2_Automaton kn3_Automaton kn4_Automaton kn5_Automaton), a15, i15, nf_Automaton⟩,
    c_LETTERS := He.str_ok X G (c.fact 70 rfl),
    c_MOST_LETTERS := He.int_ok X G (c.fact 71 rfl),
    c_MOST_STATES := He.int_ok X G (c.fact 72 rfl),
    c_SAFE := He.str_ok X G (c.fact 73 rfl),
    c_SLIP := He.str_ok X G (c.fact 74 rfl),
    n_all := PySem.W.mg_none_of X G n_all,
    n_bool := PySem.W.mg_none_of X G n_bool,
    n_enumerate := PySem.W.mg_none_of X G n_enumerate,
    n_int := PySem.W.mg_none_of X G n_int,
    n_isinstance := PySem.W.mg_none_of X G n_isinstance,
    n_len := PySem.W.mg_none_of X G n_len,
    n_list := PySem.W.mg_none_of X G n_list,
    n_min := PySem.W.mg_none_of X G n_min,
    n_range := PySem.W.mg_none_of X G n_range,
    n_sorted := PySem.W.mg_none_of X G n_sorted,
    n_str := PySem.W.mg_none_of X G n_str,
    n_tuple := PySem.W.mg_none_of X G n_tuple,
    n_zip := PySem.W.mg_none_of X G n_zip }, rfl, F31, PySem.W.mg_of X G a31⟩
end Hd
end
end L2.DL.LW
open PySem PySem.W PySem.Calls PyProof.Rows
set_option maxHeartbeats 0 in
theorem PySem.Challenge.cw_lastslip_k12_components_and_normal_forms_holds : PySem.Challenge.rw_lastslip_k12_components_and_normal_forms.Holds := by
  w_on; o_law
  refine HandSHeadRun.head_any (r := PySem.W.OpenLaw.row PySem.Challenge.rw_lastslip_k12_components_and_normal_forms) (q := PySem.W.view (PySem.W.OpenLaw.row PySem.Challenge.rw_lastslip_k12_components_and_normal_forms).prog [43]) (H := L2.DL.LW.Hd.hk) (ob := L2.DL.LW.Hd.ob) (M := 14000) (loose := L2.DL.LW.Hd.names) (d := HandSHeadRun.topDef (PySem.W.OpenLaw.row PySem.Challenge.rw_lastslip_k12_components_and_normal_forms).prog 43) (kwd := []) L2.DL.LW.Hd.ob_eq
    (by kernel_rfl) (fun s => by kernel_rfl) L2.DL.LW.Hd.run (by kernel_rfl) (by kernel_rfl) (by kernel_rfl) (by rfl) (by first | assumption | decide +kernel) (by decide +kernel) ⟨rfl, rfl, rfl, rfl, rfl, by decide +kernel⟩ ?hw ?hc
  case hw => w_witness2
  case hc =>
    refine L2.walk_ofE (l := PySem.Challenge.rw_lastslip_k12_components_and_normal_forms) (n := 63) (k := 70) (x := "_law_script") (CX := L2.CX0) rfl (by decide) (by kernel_rfl) ⟨rfl, by decide, by decide⟩ ?F (fun _ _ _ _ z => z)
    intro w mg fa h Y G hmg0
    obtain ⟨K, KX, c⟩ := Y
    obtain ⟨a, T, ea, FL, hmg1⟩ := L2.DL.LW.Hd.txt KX G c
    have hmg : mg ("law" : PySem.Str) = some (.ref fa) := by
      have e : (HandSHeadRun.topDef (PySem.W.OpenLaw.row PySem.Challenge.rw_lastslip_k12_components_and_normal_forms).prog 43).name = ("law" : PySem.Str) := by kernel_rfl
      rw [← e]
      exact hmg0
    rw [hmg1] at hmg
    cases hmg
    have b := L2.FunD.bindsA (ps := ["_law_script"]) FL fun _ _ _ _ _ _ us hl => match us, hl with | [_], _ => rfl
    exact ⟨K, a.fd_law, L2.DL.LW.spLaw K, KX, fun s v => b s [v] rfl, fun H a ns hl _ hS => ⟨a, ns, rfl, hS, hl, fun _ => rfl⟩, fun base _ _ => ea ▸ L2.DL.LW.law_at T⟩
#print axioms PySem.Challenge.cw_lastslip_k12_components_and_normal_forms_holds
