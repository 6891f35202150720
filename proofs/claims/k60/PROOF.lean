import PyProof.Rows.All
import Wide.All
import KE.KStateDown
import HandS.Head0
import HandS.Head1
import HandS.Head2
import HandS.HeadEnd
import HandS.HeadHook1
import HandS.HeadHook2
import HandS.EndOwn
import KE.KSuper
import HandS.Words
import PySem.Challenge.RW_lastslip_k60_wishes_told
import HandS.ForMost
import HandS.ForExc
import HandS.IsInst
import HandS.Flow
import HandS.AnyAll
import HandS.StrMore
import HandS.Sort
import HandS.SortKw
import HandS.SetKeys
import HandS.Defaults
import HandS.Deep
import HandS.MakeKw
import KE.SortData
import HandS.SortInts
import HandS.Text
import HandS.Zip
import HandS.Style
import PyProof.Rows.SetFrom
import KE.KOpsOwn
import PyProof.InstNe
import HandS.Set
import HandS.FStr
import HandS.ClsMeth
import HandS.MakeKwOnly
import KE.KCallOwn
import PyProof.ListStr
import HandS.DictComp
import KE.GoesZip
import KE.GoesMore
import HandS.Conv
import HandS.ExcInit
import HandS.Lambda
import KE.KDflt
import HandS.HotCalls
import HandS.ExcField
import KE.KTryMore
import HandS.Codes
import HandS.TryOnly
import PyProof.TwoTypes
import PyProof.StrReplace2
import HandS.RaiseMore
import HandS.TupLe
import HandS.Exc
import PyProof.WalksMore
import PyProof.TupleIter
import KE.GoesEnum
import HandS.TupLen
import HandS.WordsDict
import PyProof.CollectStr
import HandS.Property
import HandS.DictSub
import PyProof.Rows.Range3
import KE.KDictDisplayH
import PyProof.Rows.TupDisplay
import HandS.Dict
import KE.KDictKeyed
import KE.KeyNested
import PyProof.DictMoreH
import HandS.TupSets
import HandS.SortOrd
import HandS.More
import HandS.Star
set_option Elab.async false
set_option linter.all false
set_option maxRecDepth 100000
set_option maxHeartbeats 4000000
namespace L2.DL.Hk
open PySem PySem.Spec PyProof.Rows L2
/-- a constant of a class, read through an instance -/
def conB (K : PySem.W.Frag) (C : Addr) (m : Str) (v : V) : Bool := match PySem.W.findIn K (.ref C) m with
  | some (some u) => He.relB v u && ((match PySem.W.specialIn K u "__get__" with
    | some none => true
    | _ => false) && !PySem.W.copiedNames.contains m)
  | _ => false
theorem con_ok {K : PySem.W.Frag} {C : Addr} {m : Str} {v : V} (h : conB K C m v = true) : ∃ u, Con K C m v u := by
  unfold conB at h
  split at h
  · rename_i u e
    obtain ⟨h1, h2⟩ := He.ba h
    obtain ⟨h2, h3⟩ := He.ba h2
    refine ⟨u, e, He.relB_ok h1, ?_, by simpa using h3⟩
    split at h2
    · assumption
    · cases h2
  · cases h
/-- one def -/
structure DefM where
  at_ : PySem.W.Frag → Addr
  name : Str
  qual : Str
  params : Arguments
  body : List Stmt
  scope : Scope
  dfl : List V := []
  kwd : List (Str × V) := []
  /-- a def that writes super(): its file -/
  sup : Option Str := none
def fnM (K : PySem.W.Frag) (d : DefM) : He.FnW := match K.lookup (d.at_ K) with
  | some ⟨_, _, .func fd, _⟩ => some (fd.name, fd.qualname, fd.params, fd.body, fd.scope, fd.globals, if d.sup.isSome then [] else fd.closure, fd.builtins)
  | _ => none
def DefM.val (d : DefM) : He.FnW := some (d.name, d.qual, d.params, .stmts d.body, d.scope, mainGlobals, [], builtinsNs)
/-- the cell of __class__, the code, the class of a def that writes super() -/
def clA (K : PySem.W.Frag) (f : Addr) : Addr := match K.lookup f with
  | some ⟨_, _, .func fd, _⟩ => (match fd.closure with
    | [(_, c)] => c
    | _ => 0)
  | _ => 0
def cdA (K : PySem.W.Frag) (f : Addr) : Addr := match K.lookup f with
  | some ⟨_, _, .func fd, _⟩ => (match fd.code with
    | .ref c => c
    | _ => 0)
  | _ => 0
def dsA (K : PySem.W.Frag) (f : Addr) : Addr := match K.lookup (clA K f) with
  | some ⟨_, _, .cell (some (.ref D)), _⟩ => D
  | _ => 0
def supB (K : PySem.W.Frag) (f : Addr) (file : Str) : Bool := (match K.lookup f with
  | some ⟨_, _, .func fd, _⟩ => decide (fd.closure = [(("__class__" : Str), clA K f)]) && (decide (fd.code = .ref (cdA K f)) && (match fd.defaults with
    | .none => true
    | _ => false))
  | _ => false) && ((match K.lookup (cdA K f) with
  | some ⟨_, _, .fields vs, _⟩ => (match (vs[2]? : Option Value) with
    | some (.str g _) => file == g
    | _ => false)
  | _ => false) && ((match K.lookup (clA K f) with
  | some ⟨_, _, .cell (some (.ref D)), _⟩ => decide (D = dsA K f)
  | _ => false) && (PySem.W.clsIn K (dsA K f)).isSome))
def DefM.ok (K : PySem.W.Frag) (d : DefM) : Bool := PySem.W.keepIn K (.ref (d.at_ K)) && ((match K.lookup (d.at_ K) with
  | some ⟨_, _, .func fd, _⟩ => PySem.W.codeIn K fd.code d.qual && (He.dflB K fd.defaults d.dfl && He.kwdB K fd.kwdefaults d.kwd)
  | _ => false) && (match d.sup with
  | none => true
  | some file => supB K (d.at_ K) file))
theorem DefM.funD {K : PySem.W.Frag} {d : DefM} (e : fnM K d = d.val) (c : d.ok K = true) (hs : d.sup = none) : ∃ fd, FunD K d.name d.qual d.params d.body d.scope d.dfl d.kwd (d.at_ K) fd := by
  obtain ⟨kp, c2⟩ := He.ba c
  obtain ⟨c2, _⟩ := He.ba c2
  unfold fnM at e
  cases q : K.lookup (d.at_ K) with
  | none =>
    rw [q] at c2
    cases c2
  | some o =>
    obtain ⟨oc, od, dt, osl⟩ := o
    rw [q] at c2 e
    cases dt with
    | func fd =>
      obtain ⟨n1, n2, n3, n4, n5, n6, n7, n8, n9, n10, n11, n12, n13, n14, n15⟩ := fd
      have e2 : (some (n1, n2, n3, n4, n5, n6, n7, n15) : He.FnW) = some (d.name, d.qual, d.params, .stmts d.body, d.scope, mainGlobals, [], builtinsNs) := by
        have e3 : (some (n1, n2, n3, n4, n5, n6, if d.sup.isSome then [] else n7, n15) : He.FnW) = some (d.name, d.qual, d.params, .stmts d.body, d.scope, mainGlobals, [], builtinsNs) := e
        rw [hs] at e3
        exact e3
      simp only [Option.some.injEq, Prod.mk.injEq] at e2
      obtain ⟨h1, h2, h3, h4, h5, h6, h7, h8⟩ := e2
      subst h1 h2 h3 h4 h5 h6 h7 h8
      have c3 : (PySem.W.codeIn K n13 d.qual && (He.dflB K n8 d.dfl && He.kwdB K n9 d.kwd)) = true := c2
      obtain ⟨k1, k2⟩ := He.ba c3
      obtain ⟨k3, k4⟩ := He.ba k2
      exact ⟨_, ⟨oc, od, n8, n9, n10, n11, n12, n13, n14, osl, rfl, q, k1, He.dflB_ok k3, He.kwdB_ok k4⟩, kp⟩
    | _ => cases c2
def obsM (fb : List (PySem.W.Frag → Bool)) (fn : List DefM) (K : PySem.W.Frag) : He.AlD := ((fb.all fun f => f K) && fn.all fun d => d.ok K, fn.map fun d => fnM K d)
def valM (fn : List DefM) : He.AlD := (true, fn.map DefM.val)
def SaysM (fb : List (PySem.W.Frag → Bool)) (fn : List DefM) (K : PySem.W.Frag) : Prop := obsM fb fn K = valM fn
/-- what an object names; the parts of code are not asked for -/
def refsM (o : Obj) : List Addr := match o.cls with
  | .type "code" => []
  | _ => He.refsD o
/-- all that stands in all, and what the objects at late reach in n steps -/
def goM (g : Addr → Option Obj) : Nat → List Addr → List Addr → List Addr
  | 0, all, late => late ++ all
  | n + 1, all, late => goM g n (late ++ all) (((late.flatMap fun a => match g a with
    | some o => refsM o
    | none => []).filter fun a => !((late ++ all).contains a)).eraseDups)
def asM (g : Addr → Option Obj) (n : Nat) : List Addr := goM g n [cStatics] [mainGlobals]
def obsG (n : Nat) (fb : List (PySem.W.Frag → Bool)) (fn : List DefM) (g : Addr → Option Obj) : He.AlD := obsM fb fn (He.frG g (asM g n))
def hookM (n : Nat) (fb : List (PySem.W.Frag → Bool)) (fn : List DefM) : PySem.W.Hook where
  α := He.AlD
  obs := fun s => obsG n fb fn s.heap.get?
  val := fun _ => valM fn
  says := fun _ h => ∃ K : PySem.W.Frag, K.In h ∧ SaysM fb fn K
  of := fun _ _ e => ⟨_, He.frG_in, e⟩
  keeps := fun _ _ _ ⟨K, hK, c⟩ k => ⟨K, PySem.W.Frag.In.keeps hK k, c⟩
theorem obsG_eq {n : Nat} {fb : List (PySem.W.Frag → Bool)} {fn : List DefM} {g : Addr → Option Obj} {s : Shared} (h : ∀ a, g a = s.heap.get? a) : obsG n fb fn g = (hookM n fb fn).obs s := by
  have e : g = s.heap.get? := funext h
  rw [e] <;> rfl
section
variable {fb : List (PySem.W.Frag → Bool)} {fn : List DefM} {K : PySem.W.Frag}
theorem SaysM.fact (c : SaysM fb fn K) (i : Nat) {f : PySem.W.Frag → Bool} (h : fb[i]? = some f) : f K = true := by
  have c1 := (He.ba (show ((fb.all fun f => f K) && fn.all fun d => d.ok K) = true from congrArg (fun z : He.AlD => z.1) c)).1
  exact List.all_eq_true.mp c1 f (List.mem_of_getElem? h)
theorem SaysM.def_ (c : SaysM fb fn K) (i : Nat) {d : DefM} (h : fn[i]? = some d) (hs : d.sup = none := by rfl) : ∃ fd, FunD K d.name d.qual d.params d.body d.scope d.dfl d.kwd (d.at_ K) fd := by
  have c2 := (He.ba (show ((fb.all fun f => f K) && fn.all fun d => d.ok K) = true from congrArg (fun z : He.AlD => z.1) c)).2
  have e : fn.map (fun d => fnM K d) = fn.map DefM.val := congrArg (fun z : He.AlD => z.2) c
  have e2 : (fn.map fun d => fnM K d)[i]? = (fn.map DefM.val)[i]? := by rw [e]
  rw [List.getElem?_map, List.getElem?_map, h] at e2
  exact DefM.funD (Option.some.inj e2) (List.all_eq_true.mp c2 d (List.mem_of_getElem? h)) hs
end
end L2.DL.Hk
namespace L2.DL.LW
open PySem PySem.Spec PyProof.Rows
def topS (i : Nat) : Stmt := PySem.Challenge.pw_lastslip_k60_wishes_told.main.body.getD i (.Pass ⟨0, 0, 0, 0⟩)
def bodyC : Stmt → List Stmt
  | .ClassDef _ _ _ b _ _ _ _ _ _ _ => b
  | _ => []
def clsS (i j : Nat) : Stmt := (bodyC (topS i)).getD j (.Pass ⟨0, 0, 0, 0⟩)
abbrev s__law_draws : Stmt := topS 27
abbrev s__law_pull : Stmt := topS 28
abbrev s__law_any : Stmt := topS 29
abbrev s_is_word : Stmt := topS 9
abbrev s_is_name : Stmt := topS 14
abbrev s_Wish___init__ : Stmt := clsS 15 0
abbrev s_Never___init__ : Stmt := clsS 16 1
abbrev s_Blocks___init__ : Stmt := clsS 16 1
abbrev s_Behind___init__ : Stmt := clsS 19 0
abbrev s_Both___init__ : Stmt := clsS 20 0
abbrev s_Either___init__ : Stmt := clsS 21 0
abbrev s_Named___init__ : Stmt := clsS 22 0
abbrev s_Wish_text : Stmt := clsS 15 2
abbrev s_words_token : Stmt := topS 23
abbrev s_token_read : Stmt := topS 24
abbrev s_read_wish : Stmt := topS 25
abbrev s__law_alphabet : Stmt := topS 32
abbrev s__law_word : Stmt := topS 33
abbrev s__law_words : Stmt := topS 34
abbrev s__law_leaf : Stmt := topS 35
abbrev s__law_tree : Stmt := topS 36
abbrev s__law_tokens : Stmt := topS 37
abbrev s__law_mixed : Stmt := topS 30
abbrev s__law_names : Stmt := topS 40
abbrev s_Wish_tokens : Stmt := clsS 15 1
abbrev s_Wish_names : Stmt := clsS 15 3
abbrev s_Words_needed : Stmt := clsS 16 2
abbrev s_Wish_needed : Stmt := clsS 15 4
abbrev s_Behind_needed : Stmt := clsS 19 1
abbrev s_Wish___and__ : Stmt := clsS 15 6
abbrev s_Wish___or__ : Stmt := clsS 15 7
abbrev s_Wish___eq__ : Stmt := clsS 15 8
abbrev s_Wish___repr__ : Stmt := clsS 15 9
abbrev s__law_made_words : Stmt := topS 39
abbrev s__law_wish : Stmt := topS 38
abbrev s__law_letters_of : Stmt := topS 41
abbrev s__law_like : Stmt := topS 31
abbrev s_law : Stmt := topS 42
end L2.DL.LW
namespace L2.DL.LW
open PySem PySem.Spec PyProof.Rows
section
namespace Hd
abbrev progF : Str := (PySem.Challenge.pw_lastslip_k60_wishes_told.main.file : Str)
def d0 : Hk.DefM := ⟨fun K => (He.ga K "_law_draws"), "_law_draws", "_law_draws", defArgs s__law_draws, defBody s__law_draws, defScope s__law_draws, [], [], none⟩
def d1 : Hk.DefM := ⟨fun K => (He.ga K "_law_pull"), "_law_pull", "_law_pull", defArgs s__law_pull, defBody s__law_pull, defScope s__law_pull, [], [], none⟩
def d2 : Hk.DefM := ⟨fun K => (He.ga K "_law_any"), "_law_any", "_law_any", defArgs s__law_any, defBody s__law_any, defScope s__law_any, [], [], none⟩
def d3 : Hk.DefM := ⟨fun K => (He.ga K "is_word"), "is_word", "is_word", defArgs s_is_word, defBody s_is_word, defScope s_is_word, [V.int 200], [], none⟩
def d4 : Hk.DefM := ⟨fun K => (He.ga K "is_name"), "is_name", "is_name", defArgs s_is_name, defBody s_is_name, defScope s_is_name, [], [], none⟩
def d5 : Hk.DefM := ⟨fun K => (He.ma K (He.ga K "Wish") "__init__"), "__init__", "Wish.__init__", defArgs s_Wish___init__, defBody s_Wish___init__, defScope s_Wish___init__, [], [], none⟩
def d6 : Hk.DefM := ⟨fun K => (He.ma K (He.ga K "Never") "__init__"), "__init__", "Words.__init__", defArgs s_Never___init__, defBody s_Never___init__, defScope s_Never___init__, [], [], some progF⟩
def d7 : Hk.DefM := ⟨fun K => (He.ma K (He.ga K "Blocks") "__init__"), "__init__", "Words.__init__", defArgs s_Blocks___init__, defBody s_Blocks___init__, defScope s_Blocks___init__, [], [], some progF⟩
def d8 : Hk.DefM := ⟨fun K => (He.ma K (He.ga K "Behind") "__init__"), "__init__", "Behind.__init__", defArgs s_Behind___init__, defBody s_Behind___init__, defScope s_Behind___init__, [], [], some progF⟩
def d9 : Hk.DefM := ⟨fun K => (He.ma K (He.ga K "Both") "__init__"), "__init__", "Both.__init__", defArgs s_Both___init__, defBody s_Both___init__, defScope s_Both___init__, [], [], some progF⟩
def d10 : Hk.DefM := ⟨fun K => (He.ma K (He.ga K "Either") "__init__"), "__init__", "Either.__init__", defArgs s_Either___init__, defBody s_Either___init__, defScope s_Either___init__, [], [], some progF⟩
def d11 : Hk.DefM := ⟨fun K => (He.ma K (He.ga K "Named") "__init__"), "__init__", "Named.__init__", defArgs s_Named___init__, defBody s_Named___init__, defScope s_Named___init__, [], [], some progF⟩
def d12 : Hk.DefM := ⟨fun K => (He.ma K (He.ga K "Wish") "text"), "text", "Wish.text", defArgs s_Wish_text, defBody s_Wish_text, defScope s_Wish_text, [], [], none⟩
def d13 : Hk.DefM := ⟨fun K => (He.ga K "words_token"), "words_token", "words_token", defArgs s_words_token, defBody s_words_token, defScope s_words_token, [], [], none⟩
def d14 : Hk.DefM := ⟨fun K => (He.ga K "token_read"), "token_read", "token_read", defArgs s_token_read, defBody s_token_read, defScope s_token_read, [], [], none⟩
def d15 : Hk.DefM := ⟨fun K => (He.ga K "read_wish"), "read_wish", "read_wish", defArgs s_read_wish, defBody s_read_wish, defScope s_read_wish, [], [], none⟩
def d16 : Hk.DefM := ⟨fun K => (He.ga K "_law_alphabet"), "_law_alphabet", "_law_alphabet", defArgs s__law_alphabet, defBody s__law_alphabet, defScope s__law_alphabet, [], [], none⟩
def d17 : Hk.DefM := ⟨fun K => (He.ga K "_law_word"), "_law_word", "_law_word", defArgs s__law_word, defBody s__law_word, defScope s__law_word, [], [], none⟩
def d18 : Hk.DefM := ⟨fun K => (He.ga K "_law_words"), "_law_words", "_law_words", defArgs s__law_words, defBody s__law_words, defScope s__law_words, [], [], none⟩
def d19 : Hk.DefM := ⟨fun K => (He.ga K "_law_leaf"), "_law_leaf", "_law_leaf", defArgs s__law_leaf, defBody s__law_leaf, defScope s__law_leaf, [], [], none⟩
def d20 : Hk.DefM := ⟨fun K => (He.ga K "_law_tree"), "_law_tree", "_law_tree", defArgs s__law_tree, defBody s__law_tree, defScope s__law_tree, [], [], none⟩
def d21 : Hk.DefM := ⟨fun K => (He.ga K "_law_tokens"), "_law_tokens", "_law_tokens", defArgs s__law_tokens, defBody s__law_tokens, defScope s__law_tokens, [], [], none⟩
def d22 : Hk.DefM := ⟨fun K => (He.ga K "_law_mixed"), "_law_mixed", "_law_mixed", defArgs s__law_mixed, defBody s__law_mixed, defScope s__law_mixed, [], [], none⟩
def d23 : Hk.DefM := ⟨fun K => (He.ga K "_law_names"), "_law_names", "_law_names", defArgs s__law_names, defBody s__law_names, defScope s__law_names, [], [], none⟩
def d24 : Hk.DefM := ⟨fun K => (He.ma K (He.ga K "Wish") "tokens"), "tokens", "Wish.tokens", defArgs s_Wish_tokens, defBody s_Wish_tokens, defScope s_Wish_tokens, [], [], none⟩
def d25 : Hk.DefM := ⟨fun K => (He.ma K (He.ga K "Wish") "names"), "names", "Wish.names", defArgs s_Wish_names, defBody s_Wish_names, defScope s_Wish_names, [], [], none⟩
def d26 : Hk.DefM := ⟨fun K => (He.ma K (He.ga K "Words") "needed"), "needed", "Words.needed", defArgs s_Words_needed, defBody s_Words_needed, defScope s_Words_needed, [], [], none⟩
def d27 : Hk.DefM := ⟨fun K => (He.ma K (He.ga K "Wish") "needed"), "needed", "Wish.needed", defArgs s_Wish_needed, defBody s_Wish_needed, defScope s_Wish_needed, [], [], none⟩
def d28 : Hk.DefM := ⟨fun K => (He.ma K (He.ga K "Behind") "needed"), "needed", "Behind.needed", defArgs s_Behind_needed, defBody s_Behind_needed, defScope s_Behind_needed, [], [], some progF⟩
def d29 : Hk.DefM := ⟨fun K => (He.ma K (He.ga K "Wish") "__and__"), "__and__", "Wish.__and__", defArgs s_Wish___and__, defBody s_Wish___and__, defScope s_Wish___and__, [], [], none⟩
def d30 : Hk.DefM := ⟨fun K => (He.ma K (He.ga K "Wish") "__or__"), "__or__", "Wish.__or__", defArgs s_Wish___or__, defBody s_Wish___or__, defScope s_Wish___or__, [], [], none⟩
def d31 : Hk.DefM := ⟨fun K => (He.ma K (He.ga K "Wish") "__eq__"), "__eq__", "Wish.__eq__", defArgs s_Wish___eq__, defBody s_Wish___eq__, defScope s_Wish___eq__, [], [], none⟩
def d32 : Hk.DefM := ⟨fun K => (He.ma K (He.ga K "Wish") "__repr__"), "__repr__", "Wish.__repr__", defArgs s_Wish___repr__, defBody s_Wish___repr__, defScope s_Wish___repr__, [], [], none⟩
def d33 : Hk.DefM := ⟨fun K => (He.ga K "_law_made_words"), "_law_made_words", "_law_made_words", defArgs s__law_made_words, defBody s__law_made_words, defScope s__law_made_words, [], [], none⟩
def d34 : Hk.DefM := ⟨fun K => (He.ga K "_law_wish"), "_law_wish", "_law_wish", defArgs s__law_wish, defBody s__law_wish, defScope s__law_wish, [], [], none⟩
def d35 : Hk.DefM := ⟨fun K => (He.ga K "_law_letters_of"), "_law_letters_of", "_law_letters_of", defArgs s__law_letters_of, defBody s__law_letters_of, defScope s__law_letters_of, [], [], none⟩
def d36 : Hk.DefM := ⟨fun K => (He.ga K "_law_like"), "_law_like", "_law_like", defArgs s__law_like, defBody s__law_like, defScope s__law_like, [], [], none⟩
def d37 : Hk.DefM := ⟨fun K => (He.ga K "law"), "law", "law", defArgs s_law, defBody s_law, defScope s_law, [], [], none⟩
def fn : List Hk.DefM := [d0, d1, d2, d3, d4, d5, d6, d7, d8, d9, d10, d11, d12, d13, d14, d15, d16, d17, d18, d19, d20, d21, d22, d23, d24, d25, d26, d27, d28, d29, d30, d31, d32, d33, d34, d35, d36, d37]
def fb0 : List (PySem.W.Frag → Bool) := [fun K => He.eqO (PySem.W.nsIn K mainGlobals "Wish") (some (some (.ref (He.ga K "Wish")))),
  fun K => He.eqO (PySem.W.nsIn K mainGlobals "Words") (some (some (.ref (He.ga K "Words")))),
  fun K => He.eqO (PySem.W.nsIn K mainGlobals "Never") (some (some (.ref (He.ga K "Never")))),
  fun K => He.eqO (PySem.W.nsIn K mainGlobals "Blocks") (some (some (.ref (He.ga K "Blocks")))),
  fun K => He.eqO (PySem.W.nsIn K mainGlobals "Behind") (some (some (.ref (He.ga K "Behind")))),
  fun K => He.eqO (PySem.W.nsIn K mainGlobals "Both") (some (some (.ref (He.ga K "Both")))),
  fun K => He.eqO (PySem.W.nsIn K mainGlobals "Either") (some (some (.ref (He.ga K "Either")))),
  fun K => He.eqO (PySem.W.nsIn K mainGlobals "Named") (some (some (.ref (He.ga K "Named")))),
  fun K => He.eqO (PySem.W.nsIn K mainGlobals "_law_draws") (some (some (.ref (He.ga K "_law_draws")))),
  fun K => He.eqO (PySem.W.nsIn K mainGlobals "_law_pull") (some (some (.ref (He.ga K "_law_pull")))),
  fun K => He.eqO (PySem.W.nsIn K mainGlobals "_law_any") (some (some (.ref (He.ga K "_law_any")))),
  fun K => He.eqO (PySem.W.nsIn K mainGlobals "is_word") (some (some (.ref (He.ga K "is_word")))),
  fun K => He.eqO (PySem.W.nsIn K mainGlobals "is_name") (some (some (.ref (He.ga K "is_name")))),
  fun K => He.eqO (PySem.W.findIn K (.ref (He.ga K "Wish")) "__init__") (some (some (.ref (He.ma K (He.ga K "Wish") "__init__")))),
  fun K => PySem.W.isFn K (.ref (He.ma K (He.ga K "Wish") "__init__")),
  fun K => PySem.W.keepIn K (.ref (He.ma K (He.ga K "Wish") "__init__")),
  fun K => He.eqO (PySem.W.findIn K (.ref (He.ga K "Never")) "__init__") (some (some (.ref (He.ma K (He.ga K "Never") "__init__")))),
  fun K => PySem.W.isFn K (.ref (He.ma K (He.ga K "Never") "__init__")),
  fun K => PySem.W.keepIn K (.ref (He.ma K (He.ga K "Never") "__init__")),
  fun K => decide (PySem.W.mroIn K (He.ga K "Never") (.ref (Hk.dsA K (He.ma K (He.ga K "Never") "__init__"))) = some true),
  fun K => He.eqO (PySem.W.ks_superIn K (He.ga K "Never") (Hk.dsA K (He.ma K (He.ga K "Never") "__init__")) "__init__") (some (some (.ref (He.ma K (He.ga K "Wish") "__init__")))),
  fun K => decide (PySem.W.typeIn K (.ref (He.ma K (He.ga K "Wish") "__init__")) = some (.type "function")),
  fun K => He.eqO (PySem.W.nsIn K cStatics "thirdparty.any") (some none),
  fun K => PySem.W.fnIn K (He.ma K (He.ga K "Wish") "__init__"),
  fun K => He.eqO (PySem.W.findIn K (.ref (He.ga K "Blocks")) "__init__") (some (some (.ref (He.ma K (He.ga K "Blocks") "__init__")))),
  fun K => PySem.W.isFn K (.ref (He.ma K (He.ga K "Blocks") "__init__")),
  fun K => PySem.W.keepIn K (.ref (He.ma K (He.ga K "Blocks") "__init__")),
  fun K => decide (PySem.W.mroIn K (He.ga K "Blocks") (.ref (Hk.dsA K (He.ma K (He.ga K "Blocks") "__init__"))) = some true),
  fun K => He.eqO (PySem.W.ks_superIn K (He.ga K "Blocks") (Hk.dsA K (He.ma K (He.ga K "Blocks") "__init__")) "__init__") (some (some (.ref (He.ma K (He.ga K "Wish") "__init__")))),
  fun K => decide (PySem.W.typeIn K (.ref (He.ma K (He.ga K "Wish") "__init__")) = some (.type "function"))]
def fb1 : List (PySem.W.Frag → Bool) := [fun K => He.eqO (PySem.W.nsIn K cStatics "thirdparty.any") (some none),
  fun K => PySem.W.fnIn K (He.ma K (He.ga K "Wish") "__init__"),
  fun K => He.eqO (PySem.W.findIn K (.ref (He.ga K "Behind")) "__init__") (some (some (.ref (He.ma K (He.ga K "Behind") "__init__")))),
  fun K => PySem.W.isFn K (.ref (He.ma K (He.ga K "Behind") "__init__")),
  fun K => PySem.W.keepIn K (.ref (He.ma K (He.ga K "Behind") "__init__")),
  fun K => decide (PySem.W.mroIn K (He.ga K "Behind") (.ref (Hk.dsA K (He.ma K (He.ga K "Behind") "__init__"))) = some true),
  fun K => He.eqO (PySem.W.ks_superIn K (He.ga K "Behind") (Hk.dsA K (He.ma K (He.ga K "Behind") "__init__")) "__init__") (some (some (.ref (He.ma K (He.ga K "Wish") "__init__")))),
  fun K => decide (PySem.W.typeIn K (.ref (He.ma K (He.ga K "Wish") "__init__")) = some (.type "function")),
  fun K => He.eqO (PySem.W.nsIn K cStatics "thirdparty.any") (some none),
  fun K => PySem.W.fnIn K (He.ma K (He.ga K "Wish") "__init__"),
  fun K => He.eqO (PySem.W.findIn K (.ref (He.ga K "Both")) "__init__") (some (some (.ref (He.ma K (He.ga K "Both") "__init__")))),
  fun K => PySem.W.isFn K (.ref (He.ma K (He.ga K "Both") "__init__")),
  fun K => PySem.W.keepIn K (.ref (He.ma K (He.ga K "Both") "__init__")),
  fun K => decide (PySem.W.mroIn K (He.ga K "Both") (.ref (Hk.dsA K (He.ma K (He.ga K "Both") "__init__"))) = some true),
  fun K => He.eqO (PySem.W.ks_superIn K (He.ga K "Both") (Hk.dsA K (He.ma K (He.ga K "Both") "__init__")) "__init__") (some (some (.ref (He.ma K (He.ga K "Wish") "__init__")))),
  fun K => decide (PySem.W.typeIn K (.ref (He.ma K (He.ga K "Wish") "__init__")) = some (.type "function")),
  fun K => He.eqO (PySem.W.nsIn K cStatics "thirdparty.any") (some none),
  fun K => PySem.W.fnIn K (He.ma K (He.ga K "Wish") "__init__"),
  fun K => He.eqO (PySem.W.findIn K (.ref (He.ga K "Either")) "__init__") (some (some (.ref (He.ma K (He.ga K "Either") "__init__")))),
  fun K => PySem.W.isFn K (.ref (He.ma K (He.ga K "Either") "__init__")),
  fun K => PySem.W.keepIn K (.ref (He.ma K (He.ga K "Either") "__init__")),
  fun K => decide (PySem.W.mroIn K (He.ga K "Either") (.ref (Hk.dsA K (He.ma K (He.ga K "Either") "__init__"))) = some true),
  fun K => He.eqO (PySem.W.ks_superIn K (He.ga K "Either") (Hk.dsA K (He.ma K (He.ga K "Either") "__init__")) "__init__") (some (some (.ref (He.ma K (He.ga K "Wish") "__init__")))),
  fun K => decide (PySem.W.typeIn K (.ref (He.ma K (He.ga K "Wish") "__init__")) = some (.type "function")),
  fun K => He.eqO (PySem.W.nsIn K cStatics "thirdparty.any") (some none),
  fun K => PySem.W.fnIn K (He.ma K (He.ga K "Wish") "__init__"),
  fun K => He.eqO (PySem.W.findIn K (.ref (He.ga K "Named")) "__init__") (some (some (.ref (He.ma K (He.ga K "Named") "__init__")))),
  fun K => PySem.W.isFn K (.ref (He.ma K (He.ga K "Named") "__init__")),
  fun K => PySem.W.keepIn K (.ref (He.ma K (He.ga K "Named") "__init__")),
  fun K => decide (PySem.W.mroIn K (He.ga K "Named") (.ref (Hk.dsA K (He.ma K (He.ga K "Named") "__init__"))) = some true)]
def fb2 : List (PySem.W.Frag → Bool) := [fun K => He.eqO (PySem.W.ks_superIn K (He.ga K "Named") (Hk.dsA K (He.ma K (He.ga K "Named") "__init__")) "__init__") (some (some (.ref (He.ma K (He.ga K "Wish") "__init__")))),
  fun K => decide (PySem.W.typeIn K (.ref (He.ma K (He.ga K "Wish") "__init__")) = some (.type "function")),
  fun K => He.eqO (PySem.W.nsIn K cStatics "thirdparty.any") (some none),
  fun K => PySem.W.fnIn K (He.ma K (He.ga K "Wish") "__init__"),
  fun K => He.eqO (PySem.W.findIn K (.ref (He.ga K "Wish")) "text") (some (some (.ref (He.ma K (He.ga K "Wish") "text")))),
  fun K => PySem.W.isFn K (.ref (He.ma K (He.ga K "Wish") "text")),
  fun K => PySem.W.keepIn K (.ref (He.ma K (He.ga K "Wish") "text")),
  fun K => He.eqO (PySem.W.nsIn K mainGlobals "words_token") (some (some (.ref (He.ga K "words_token")))),
  fun K => He.eqO (PySem.W.nsIn K mainGlobals "token_read") (some (some (.ref (He.ga K "token_read")))),
  fun K => He.eqO (PySem.W.nsIn K mainGlobals "read_wish") (some (some (.ref (He.ga K "read_wish")))),
  fun K => He.eqO (PySem.W.nsIn K mainGlobals "_law_alphabet") (some (some (.ref (He.ga K "_law_alphabet")))),
  fun K => He.eqO (PySem.W.nsIn K mainGlobals "_law_word") (some (some (.ref (He.ga K "_law_word")))),
  fun K => He.eqO (PySem.W.nsIn K mainGlobals "_law_words") (some (some (.ref (He.ga K "_law_words")))),
  fun K => He.eqO (PySem.W.nsIn K mainGlobals "_law_leaf") (some (some (.ref (He.ga K "_law_leaf")))),
  fun K => He.eqO (PySem.W.nsIn K mainGlobals "_law_tree") (some (some (.ref (He.ga K "_law_tree")))),
  fun K => He.eqO (PySem.W.nsIn K mainGlobals "_law_tokens") (some (some (.ref (He.ga K "_law_tokens")))),
  fun K => He.eqO (PySem.W.nsIn K mainGlobals "_law_mixed") (some (some (.ref (He.ga K "_law_mixed")))),
  fun K => He.eqO (PySem.W.nsIn K mainGlobals "_law_names") (some (some (.ref (He.ga K "_law_names")))),
  fun K => He.eqO (PySem.W.findIn K (.ref (He.ga K "Wish")) "tokens") (some (some (.ref (He.ma K (He.ga K "Wish") "tokens")))),
  fun K => PySem.W.isFn K (.ref (He.ma K (He.ga K "Wish") "tokens")),
  fun K => PySem.W.keepIn K (.ref (He.ma K (He.ga K "Wish") "tokens")),
  fun K => He.eqO (PySem.W.findIn K (.ref (He.ga K "Wish")) "names") (some (some (.ref (He.ma K (He.ga K "Wish") "names")))),
  fun K => PySem.W.isFn K (.ref (He.ma K (He.ga K "Wish") "names")),
  fun K => PySem.W.keepIn K (.ref (He.ma K (He.ga K "Wish") "names")),
  fun K => He.eqO (PySem.W.findIn K (.ref (He.ga K "Words")) "needed") (some (some (.ref (He.ma K (He.ga K "Words") "needed")))),
  fun K => PySem.W.isFn K (.ref (He.ma K (He.ga K "Words") "needed")),
  fun K => PySem.W.keepIn K (.ref (He.ma K (He.ga K "Words") "needed")),
  fun K => He.eqO (PySem.W.findIn K (.ref (He.ga K "Wish")) "needed") (some (some (.ref (He.ma K (He.ga K "Wish") "needed")))),
  fun K => PySem.W.isFn K (.ref (He.ma K (He.ga K "Wish") "needed")),
  fun K => PySem.W.keepIn K (.ref (He.ma K (He.ga K "Wish") "needed"))]
def fb3 : List (PySem.W.Frag → Bool) := [fun K => He.eqO (PySem.W.findIn K (.ref (He.ga K "Behind")) "needed") (some (some (.ref (He.ma K (He.ga K "Behind") "needed")))),
  fun K => PySem.W.isFn K (.ref (He.ma K (He.ga K "Behind") "needed")),
  fun K => PySem.W.keepIn K (.ref (He.ma K (He.ga K "Behind") "needed")),
  fun K => decide (PySem.W.mroIn K (He.ga K "Behind") (.ref (Hk.dsA K (He.ma K (He.ga K "Behind") "needed"))) = some true),
  fun K => He.eqO (PySem.W.ks_superIn K (He.ga K "Behind") (Hk.dsA K (He.ma K (He.ga K "Behind") "needed")) "needed") (some (some (.ref (He.ma K (He.ga K "Wish") "needed")))),
  fun K => decide (PySem.W.typeIn K (.ref (He.ma K (He.ga K "Wish") "needed")) = some (.type "function")),
  fun K => He.eqO (PySem.W.nsIn K cStatics "thirdparty.any") (some none),
  fun K => PySem.W.fnIn K (He.ma K (He.ga K "Wish") "needed"),
  fun K => He.eqO (PySem.W.findIn K (.ref (He.ga K "Wish")) "__and__") (some (some (.ref (He.ma K (He.ga K "Wish") "__and__")))),
  fun K => PySem.W.isFn K (.ref (He.ma K (He.ga K "Wish") "__and__")),
  fun K => PySem.W.keepIn K (.ref (He.ma K (He.ga K "Wish") "__and__")),
  fun K => He.eqO (PySem.W.findIn K (.ref (He.ga K "Wish")) "__or__") (some (some (.ref (He.ma K (He.ga K "Wish") "__or__")))),
  fun K => PySem.W.isFn K (.ref (He.ma K (He.ga K "Wish") "__or__")),
  fun K => PySem.W.keepIn K (.ref (He.ma K (He.ga K "Wish") "__or__")),
  fun K => He.eqO (PySem.W.findIn K (.ref (He.ga K "Wish")) "__eq__") (some (some (.ref (He.ma K (He.ga K "Wish") "__eq__")))),
  fun K => PySem.W.isFn K (.ref (He.ma K (He.ga K "Wish") "__eq__")),
  fun K => PySem.W.keepIn K (.ref (He.ma K (He.ga K "Wish") "__eq__")),
  fun K => He.eqO (PySem.W.findIn K (.ref (He.ga K "Wish")) "__repr__") (some (some (.ref (He.ma K (He.ga K "Wish") "__repr__")))),
  fun K => PySem.W.isFn K (.ref (He.ma K (He.ga K "Wish") "__repr__")),
  fun K => PySem.W.keepIn K (.ref (He.ma K (He.ga K "Wish") "__repr__")),
  fun K => He.eqO (PySem.W.nsIn K mainGlobals "_law_made_words") (some (some (.ref (He.ga K "_law_made_words")))),
  fun K => He.eqO (PySem.W.nsIn K mainGlobals "_law_wish") (some (some (.ref (He.ga K "_law_wish")))),
  fun K => He.eqO (PySem.W.nsIn K mainGlobals "_law_letters_of") (some (some (.ref (He.ga K "_law_letters_of")))),
  fun K => He.eqO (PySem.W.nsIn K mainGlobals "_law_like") (some (some (.ref (He.ga K "_law_like")))),
  fun K => He.eqO (PySem.W.nsIn K mainGlobals "law") (some (some (.ref (He.ga K "law")))),
  fun K => PySem.W.plainGet K (He.ga K "Wish") Str.empty,
  fun K => PySem.W.hasDictIn K (He.ga K "Wish"),
  fun K => PySem.W.plainOver K (He.ga K "Wish"),
  fun K => He.eqO (PySem.W.findIn K (.ref (He.ga K "Wish")) "__setattr__") (some (some (.builtin "object.__setattr__"))),
  fun K => He.eqO (PySem.W.findIn K (.ref (He.ga K "Wish")) "__class__") (some (some (.builtin "object.__class__")))]
def fb4 : List (PySem.W.Frag → Bool) := [fun K => He.eqO (PySem.W.specialIn K (.builtin "object.__class__") "__get__") (some (some (.builtin "getset_descriptor.__get__"))),
  fun K => decide (PySem.W.takesIn K (.builtin "object.__class__") = some true),
  fun K => decide (PySem.W.mroIn K (He.ga K "Wish") (.type "object") = some true),
  fun K => PySem.W.isClsIn K (He.ga K "Wish"),
  fun K => decide (PySem.W.typeIn K (.ref (He.ga K "Wish")) = some (.type "type")),
  fun K => decide (PySem.W.subIn K (.type "NoneType") (.ref (He.ga K "Wish")) = some false),
  fun K => decide (PySem.W.subIn K (.type "bool") (.ref (He.ga K "Wish")) = some false),
  fun K => decide (PySem.W.subIn K (.type "int") (.ref (He.ga K "Wish")) = some false),
  fun K => decide (PySem.W.subIn K (.type "str") (.ref (He.ga K "Wish")) = some false),
  fun K => decide (PySem.W.subIn K (.type "list") (.ref (He.ga K "Wish")) = some false),
  fun K => decide (PySem.W.subIn K (.type "tuple") (.ref (He.ga K "Wish")) = some false),
  fun K => PySem.W.makesIn K (He.ga K "Wish"),
  fun K => PySem.W.keepIn K (.ref (He.ga K "Wish")),
  fun K => He.eqO (PySem.W.findIn K (.ref (He.ga K "Wish")) "__ne__") (some (some (.builtin "object.__ne__"))),
  fun K => PySem.W.plainGet K (He.ga K "Words") Str.empty,
  fun K => PySem.W.hasDictIn K (He.ga K "Words"),
  fun K => PySem.W.plainOver K (He.ga K "Words"),
  fun K => He.eqO (PySem.W.findIn K (.ref (He.ga K "Words")) "__setattr__") (some (some (.builtin "object.__setattr__"))),
  fun K => He.eqO (PySem.W.findIn K (.ref (He.ga K "Words")) "__class__") (some (some (.builtin "object.__class__"))),
  fun K => He.eqO (PySem.W.specialIn K (.builtin "object.__class__") "__get__") (some (some (.builtin "getset_descriptor.__get__"))),
  fun K => decide (PySem.W.takesIn K (.builtin "object.__class__") = some true),
  fun K => decide (PySem.W.mroIn K (He.ga K "Words") (.type "object") = some true),
  fun K => PySem.W.isClsIn K (He.ga K "Words"),
  fun K => decide (PySem.W.typeIn K (.ref (He.ga K "Words")) = some (.type "type")),
  fun K => decide (PySem.W.subIn K (.type "NoneType") (.ref (He.ga K "Words")) = some false),
  fun K => decide (PySem.W.subIn K (.type "bool") (.ref (He.ga K "Words")) = some false),
  fun K => decide (PySem.W.subIn K (.type "int") (.ref (He.ga K "Words")) = some false),
  fun K => decide (PySem.W.subIn K (.type "str") (.ref (He.ga K "Words")) = some false),
  fun K => decide (PySem.W.subIn K (.type "list") (.ref (He.ga K "Words")) = some false),
  fun K => decide (PySem.W.subIn K (.type "tuple") (.ref (He.ga K "Words")) = some false)]
def fb5 : List (PySem.W.Frag → Bool) := [fun K => PySem.W.plainGet K (He.ga K "Never") Str.empty,
  fun K => PySem.W.hasDictIn K (He.ga K "Never"),
  fun K => PySem.W.plainOver K (He.ga K "Never"),
  fun K => He.eqO (PySem.W.findIn K (.ref (He.ga K "Never")) "__setattr__") (some (some (.builtin "object.__setattr__"))),
  fun K => He.eqO (PySem.W.findIn K (.ref (He.ga K "Never")) "__class__") (some (some (.builtin "object.__class__"))),
  fun K => He.eqO (PySem.W.specialIn K (.builtin "object.__class__") "__get__") (some (some (.builtin "getset_descriptor.__get__"))),
  fun K => decide (PySem.W.takesIn K (.builtin "object.__class__") = some true),
  fun K => decide (PySem.W.mroIn K (He.ga K "Never") (.type "object") = some true),
  fun K => PySem.W.isClsIn K (He.ga K "Never"),
  fun K => decide (PySem.W.typeIn K (.ref (He.ga K "Never")) = some (.type "type")),
  fun K => decide (PySem.W.subIn K (.type "NoneType") (.ref (He.ga K "Never")) = some false),
  fun K => decide (PySem.W.subIn K (.type "bool") (.ref (He.ga K "Never")) = some false),
  fun K => decide (PySem.W.subIn K (.type "int") (.ref (He.ga K "Never")) = some false),
  fun K => decide (PySem.W.subIn K (.type "str") (.ref (He.ga K "Never")) = some false),
  fun K => decide (PySem.W.subIn K (.type "list") (.ref (He.ga K "Never")) = some false),
  fun K => decide (PySem.W.subIn K (.type "tuple") (.ref (He.ga K "Never")) = some false),
  fun K => PySem.W.makesIn K (He.ga K "Never"),
  fun K => PySem.W.keepIn K (.ref (He.ga K "Never")),
  fun K => He.eqO (PySem.W.findIn K (.ref (He.ga K "Never")) "parts") (some none),
  fun K => He.eqO (PySem.W.findIn K (.ref (He.ga K "Never")) "own_tokens") (some none),
  fun K => He.eqO (PySem.W.findIn K (.ref (He.ga K "Never")) "words") (some none),
  fun K => PySem.W.plainGet K (He.ga K "Blocks") Str.empty,
  fun K => PySem.W.hasDictIn K (He.ga K "Blocks"),
  fun K => PySem.W.plainOver K (He.ga K "Blocks"),
  fun K => He.eqO (PySem.W.findIn K (.ref (He.ga K "Blocks")) "__setattr__") (some (some (.builtin "object.__setattr__"))),
  fun K => He.eqO (PySem.W.findIn K (.ref (He.ga K "Blocks")) "__class__") (some (some (.builtin "object.__class__"))),
  fun K => He.eqO (PySem.W.specialIn K (.builtin "object.__class__") "__get__") (some (some (.builtin "getset_descriptor.__get__"))),
  fun K => decide (PySem.W.takesIn K (.builtin "object.__class__") = some true),
  fun K => decide (PySem.W.mroIn K (He.ga K "Blocks") (.type "object") = some true),
  fun K => PySem.W.isClsIn K (He.ga K "Blocks")]
def fb6 : List (PySem.W.Frag → Bool) := [fun K => decide (PySem.W.typeIn K (.ref (He.ga K "Blocks")) = some (.type "type")),
  fun K => decide (PySem.W.subIn K (.type "NoneType") (.ref (He.ga K "Blocks")) = some false),
  fun K => decide (PySem.W.subIn K (.type "bool") (.ref (He.ga K "Blocks")) = some false),
  fun K => decide (PySem.W.subIn K (.type "int") (.ref (He.ga K "Blocks")) = some false),
  fun K => decide (PySem.W.subIn K (.type "str") (.ref (He.ga K "Blocks")) = some false),
  fun K => decide (PySem.W.subIn K (.type "list") (.ref (He.ga K "Blocks")) = some false),
  fun K => decide (PySem.W.subIn K (.type "tuple") (.ref (He.ga K "Blocks")) = some false),
  fun K => PySem.W.makesIn K (He.ga K "Blocks"),
  fun K => PySem.W.keepIn K (.ref (He.ga K "Blocks")),
  fun K => He.eqO (PySem.W.findIn K (.ref (He.ga K "Blocks")) "parts") (some none),
  fun K => He.eqO (PySem.W.findIn K (.ref (He.ga K "Blocks")) "own_tokens") (some none),
  fun K => He.eqO (PySem.W.findIn K (.ref (He.ga K "Blocks")) "words") (some none),
  fun K => PySem.W.plainGet K (He.ga K "Behind") Str.empty,
  fun K => PySem.W.hasDictIn K (He.ga K "Behind"),
  fun K => PySem.W.plainOver K (He.ga K "Behind"),
  fun K => He.eqO (PySem.W.findIn K (.ref (He.ga K "Behind")) "__setattr__") (some (some (.builtin "object.__setattr__"))),
  fun K => He.eqO (PySem.W.findIn K (.ref (He.ga K "Behind")) "__class__") (some (some (.builtin "object.__class__"))),
  fun K => He.eqO (PySem.W.specialIn K (.builtin "object.__class__") "__get__") (some (some (.builtin "getset_descriptor.__get__"))),
  fun K => decide (PySem.W.takesIn K (.builtin "object.__class__") = some true),
  fun K => decide (PySem.W.mroIn K (He.ga K "Behind") (.type "object") = some true),
  fun K => PySem.W.isClsIn K (He.ga K "Behind"),
  fun K => decide (PySem.W.typeIn K (.ref (He.ga K "Behind")) = some (.type "type")),
  fun K => decide (PySem.W.subIn K (.type "NoneType") (.ref (He.ga K "Behind")) = some false),
  fun K => decide (PySem.W.subIn K (.type "bool") (.ref (He.ga K "Behind")) = some false),
  fun K => decide (PySem.W.subIn K (.type "int") (.ref (He.ga K "Behind")) = some false),
  fun K => decide (PySem.W.subIn K (.type "str") (.ref (He.ga K "Behind")) = some false),
  fun K => decide (PySem.W.subIn K (.type "list") (.ref (He.ga K "Behind")) = some false),
  fun K => decide (PySem.W.subIn K (.type "tuple") (.ref (He.ga K "Behind")) = some false),
  fun K => PySem.W.makesIn K (He.ga K "Behind"),
  fun K => PySem.W.keepIn K (.ref (He.ga K "Behind"))]
def fb7 : List (PySem.W.Frag → Bool) := [fun K => He.eqO (PySem.W.findIn K (.ref (He.ga K "Behind")) "parts") (some none),
  fun K => He.eqO (PySem.W.findIn K (.ref (He.ga K "Behind")) "own_tokens") (some none),
  fun K => He.eqO (PySem.W.findIn K (.ref (He.ga K "Behind")) "word") (some none),
  fun K => PySem.W.plainGet K (He.ga K "Both") Str.empty,
  fun K => PySem.W.hasDictIn K (He.ga K "Both"),
  fun K => PySem.W.plainOver K (He.ga K "Both"),
  fun K => He.eqO (PySem.W.findIn K (.ref (He.ga K "Both")) "__setattr__") (some (some (.builtin "object.__setattr__"))),
  fun K => He.eqO (PySem.W.findIn K (.ref (He.ga K "Both")) "__class__") (some (some (.builtin "object.__class__"))),
  fun K => He.eqO (PySem.W.specialIn K (.builtin "object.__class__") "__get__") (some (some (.builtin "getset_descriptor.__get__"))),
  fun K => decide (PySem.W.takesIn K (.builtin "object.__class__") = some true),
  fun K => decide (PySem.W.mroIn K (He.ga K "Both") (.type "object") = some true),
  fun K => PySem.W.isClsIn K (He.ga K "Both"),
  fun K => decide (PySem.W.typeIn K (.ref (He.ga K "Both")) = some (.type "type")),
  fun K => decide (PySem.W.subIn K (.type "NoneType") (.ref (He.ga K "Both")) = some false),
  fun K => decide (PySem.W.subIn K (.type "bool") (.ref (He.ga K "Both")) = some false),
  fun K => decide (PySem.W.subIn K (.type "int") (.ref (He.ga K "Both")) = some false),
  fun K => decide (PySem.W.subIn K (.type "str") (.ref (He.ga K "Both")) = some false),
  fun K => decide (PySem.W.subIn K (.type "list") (.ref (He.ga K "Both")) = some false),
  fun K => decide (PySem.W.subIn K (.type "tuple") (.ref (He.ga K "Both")) = some false),
  fun K => PySem.W.makesIn K (He.ga K "Both"),
  fun K => PySem.W.keepIn K (.ref (He.ga K "Both")),
  fun K => He.eqO (PySem.W.findIn K (.ref (He.ga K "Both")) "parts") (some none),
  fun K => He.eqO (PySem.W.findIn K (.ref (He.ga K "Both")) "own_tokens") (some none),
  fun K => PySem.W.plainGet K (He.ga K "Either") Str.empty,
  fun K => PySem.W.hasDictIn K (He.ga K "Either"),
  fun K => PySem.W.plainOver K (He.ga K "Either"),
  fun K => He.eqO (PySem.W.findIn K (.ref (He.ga K "Either")) "__setattr__") (some (some (.builtin "object.__setattr__"))),
  fun K => He.eqO (PySem.W.findIn K (.ref (He.ga K "Either")) "__class__") (some (some (.builtin "object.__class__"))),
  fun K => He.eqO (PySem.W.specialIn K (.builtin "object.__class__") "__get__") (some (some (.builtin "getset_descriptor.__get__"))),
  fun K => decide (PySem.W.takesIn K (.builtin "object.__class__") = some true)]
def fb8 : List (PySem.W.Frag → Bool) := [fun K => decide (PySem.W.mroIn K (He.ga K "Either") (.type "object") = some true),
  fun K => PySem.W.isClsIn K (He.ga K "Either"),
  fun K => decide (PySem.W.typeIn K (.ref (He.ga K "Either")) = some (.type "type")),
  fun K => decide (PySem.W.subIn K (.type "NoneType") (.ref (He.ga K "Either")) = some false),
  fun K => decide (PySem.W.subIn K (.type "bool") (.ref (He.ga K "Either")) = some false),
  fun K => decide (PySem.W.subIn K (.type "int") (.ref (He.ga K "Either")) = some false),
  fun K => decide (PySem.W.subIn K (.type "str") (.ref (He.ga K "Either")) = some false),
  fun K => decide (PySem.W.subIn K (.type "list") (.ref (He.ga K "Either")) = some false),
  fun K => decide (PySem.W.subIn K (.type "tuple") (.ref (He.ga K "Either")) = some false),
  fun K => PySem.W.makesIn K (He.ga K "Either"),
  fun K => PySem.W.keepIn K (.ref (He.ga K "Either")),
  fun K => He.eqO (PySem.W.findIn K (.ref (He.ga K "Either")) "parts") (some none),
  fun K => He.eqO (PySem.W.findIn K (.ref (He.ga K "Either")) "own_tokens") (some none),
  fun K => PySem.W.plainGet K (He.ga K "Named") Str.empty,
  fun K => PySem.W.hasDictIn K (He.ga K "Named"),
  fun K => PySem.W.plainOver K (He.ga K "Named"),
  fun K => He.eqO (PySem.W.findIn K (.ref (He.ga K "Named")) "__setattr__") (some (some (.builtin "object.__setattr__"))),
  fun K => He.eqO (PySem.W.findIn K (.ref (He.ga K "Named")) "__class__") (some (some (.builtin "object.__class__"))),
  fun K => He.eqO (PySem.W.specialIn K (.builtin "object.__class__") "__get__") (some (some (.builtin "getset_descriptor.__get__"))),
  fun K => decide (PySem.W.takesIn K (.builtin "object.__class__") = some true),
  fun K => decide (PySem.W.mroIn K (He.ga K "Named") (.type "object") = some true),
  fun K => PySem.W.isClsIn K (He.ga K "Named"),
  fun K => decide (PySem.W.typeIn K (.ref (He.ga K "Named")) = some (.type "type")),
  fun K => decide (PySem.W.subIn K (.type "NoneType") (.ref (He.ga K "Named")) = some false),
  fun K => decide (PySem.W.subIn K (.type "bool") (.ref (He.ga K "Named")) = some false),
  fun K => decide (PySem.W.subIn K (.type "int") (.ref (He.ga K "Named")) = some false),
  fun K => decide (PySem.W.subIn K (.type "str") (.ref (He.ga K "Named")) = some false),
  fun K => decide (PySem.W.subIn K (.type "list") (.ref (He.ga K "Named")) = some false),
  fun K => decide (PySem.W.subIn K (.type "tuple") (.ref (He.ga K "Named")) = some false),
  fun K => PySem.W.makesIn K (He.ga K "Named")]
def fb9 : List (PySem.W.Frag → Bool) := [fun K => PySem.W.keepIn K (.ref (He.ga K "Named")),
  fun K => He.eqO (PySem.W.findIn K (.ref (He.ga K "Named")) "parts") (some none),
  fun K => He.eqO (PySem.W.findIn K (.ref (He.ga K "Named")) "own_tokens") (some none),
  fun K => He.eqO (PySem.W.findIn K (.ref (He.ga K "Named")) "name") (some none),
  fun K => Hk.conB K (He.ga K "Blocks") "HEAD" (V.str "blocks"),
  fun K => Hk.conB K (He.ga K "Never") "HEAD" (V.str "never"),
  fun K => (He.Fa.str "LETTERS" "abcdefghijklmnopqrstuvwxyz").ok K,
  fun K => (He.Fa.int "MOST_LETTERS" 200).ok K,
  fun K => (He.Fa.int "MOST_TOKENS" 20).ok K,
  fun K => (He.Fa.int "MOST_WORDS" 4).ok K,
  fun K => (He.Fa.int "MOST_LONG" 6).ok K,
  fun K => He.eqO (PySem.W.nsIn K mainGlobals "all") (some none),
  fun K => He.eqO (PySem.W.nsIn K mainGlobals "bool") (some none),
  fun K => He.eqO (PySem.W.nsIn K mainGlobals "enumerate") (some none),
  fun K => He.eqO (PySem.W.nsIn K mainGlobals "int") (some none),
  fun K => He.eqO (PySem.W.nsIn K mainGlobals "isinstance") (some none),
  fun K => He.eqO (PySem.W.nsIn K mainGlobals "len") (some none),
  fun K => He.eqO (PySem.W.nsIn K mainGlobals "list") (some none),
  fun K => He.eqO (PySem.W.nsIn K mainGlobals "min") (some none),
  fun K => He.eqO (PySem.W.nsIn K mainGlobals "range") (some none),
  fun K => He.eqO (PySem.W.nsIn K mainGlobals "repr") (some none),
  fun K => He.eqO (PySem.W.nsIn K mainGlobals "set") (some none),
  fun K => He.eqO (PySem.W.nsIn K mainGlobals "sorted") (some none),
  fun K => He.eqO (PySem.W.nsIn K mainGlobals "str") (some none),
  fun K => He.eqO (PySem.W.nsIn K mainGlobals "super") (some none),
  fun K => He.eqO (PySem.W.nsIn K mainGlobals "tuple") (some none),
  fun K => He.eqO (PySem.W.nsIn K mainGlobals "zip") (some none),
  fun K => He.eqO (PySem.W.findIn K (.ref (He.ga K "Never")) "text") (some (some (.ref (He.ma K (He.ga K "Wish") "text")))),
  fun K => PySem.W.isFn K (.ref (He.ma K (He.ga K "Wish") "text")),
  fun K => PySem.W.keepIn K (.ref (He.ma K (He.ga K "Wish") "text"))]
def fb10 : List (PySem.W.Frag → Bool) := [fun K => He.eqO (PySem.W.findIn K (.ref (He.ga K "Blocks")) "text") (some (some (.ref (He.ma K (He.ga K "Wish") "text")))),
  fun K => PySem.W.isFn K (.ref (He.ma K (He.ga K "Wish") "text")),
  fun K => PySem.W.keepIn K (.ref (He.ma K (He.ga K "Wish") "text")),
  fun K => He.eqO (PySem.W.findIn K (.ref (He.ga K "Behind")) "text") (some (some (.ref (He.ma K (He.ga K "Wish") "text")))),
  fun K => PySem.W.isFn K (.ref (He.ma K (He.ga K "Wish") "text")),
  fun K => PySem.W.keepIn K (.ref (He.ma K (He.ga K "Wish") "text")),
  fun K => He.eqO (PySem.W.findIn K (.ref (He.ga K "Both")) "text") (some (some (.ref (He.ma K (He.ga K "Wish") "text")))),
  fun K => PySem.W.isFn K (.ref (He.ma K (He.ga K "Wish") "text")),
  fun K => PySem.W.keepIn K (.ref (He.ma K (He.ga K "Wish") "text")),
  fun K => He.eqO (PySem.W.findIn K (.ref (He.ga K "Either")) "text") (some (some (.ref (He.ma K (He.ga K "Wish") "text")))),
  fun K => PySem.W.isFn K (.ref (He.ma K (He.ga K "Wish") "text")),
  fun K => PySem.W.keepIn K (.ref (He.ma K (He.ga K "Wish") "text")),
  fun K => He.eqO (PySem.W.findIn K (.ref (He.ga K "Named")) "text") (some (some (.ref (He.ma K (He.ga K "Wish") "text")))),
  fun K => PySem.W.isFn K (.ref (He.ma K (He.ga K "Wish") "text")),
  fun K => PySem.W.keepIn K (.ref (He.ma K (He.ga K "Wish") "text")),
  fun K => He.eqO (PySem.W.findIn K (.ref (He.ga K "Never")) "tokens") (some (some (.ref (He.ma K (He.ga K "Wish") "tokens")))),
  fun K => PySem.W.isFn K (.ref (He.ma K (He.ga K "Wish") "tokens")),
  fun K => PySem.W.keepIn K (.ref (He.ma K (He.ga K "Wish") "tokens")),
  fun K => He.eqO (PySem.W.findIn K (.ref (He.ga K "Blocks")) "tokens") (some (some (.ref (He.ma K (He.ga K "Wish") "tokens")))),
  fun K => PySem.W.isFn K (.ref (He.ma K (He.ga K "Wish") "tokens")),
  fun K => PySem.W.keepIn K (.ref (He.ma K (He.ga K "Wish") "tokens")),
  fun K => He.eqO (PySem.W.findIn K (.ref (He.ga K "Behind")) "tokens") (some (some (.ref (He.ma K (He.ga K "Wish") "tokens")))),
  fun K => PySem.W.isFn K (.ref (He.ma K (He.ga K "Wish") "tokens")),
  fun K => PySem.W.keepIn K (.ref (He.ma K (He.ga K "Wish") "tokens")),
  fun K => He.eqO (PySem.W.findIn K (.ref (He.ga K "Both")) "tokens") (some (some (.ref (He.ma K (He.ga K "Wish") "tokens")))),
  fun K => PySem.W.isFn K (.ref (He.ma K (He.ga K "Wish") "tokens")),
  fun K => PySem.W.keepIn K (.ref (He.ma K (He.ga K "Wish") "tokens")),
  fun K => He.eqO (PySem.W.findIn K (.ref (He.ga K "Either")) "tokens") (some (some (.ref (He.ma K (He.ga K "Wish") "tokens")))),
  fun K => PySem.W.isFn K (.ref (He.ma K (He.ga K "Wish") "tokens")),
  fun K => PySem.W.keepIn K (.ref (He.ma K (He.ga K "Wish") "tokens"))]
def fb11 : List (PySem.W.Frag → Bool) := [fun K => He.eqO (PySem.W.findIn K (.ref (He.ga K "Named")) "tokens") (some (some (.ref (He.ma K (He.ga K "Wish") "tokens")))),
  fun K => PySem.W.isFn K (.ref (He.ma K (He.ga K "Wish") "tokens")),
  fun K => PySem.W.keepIn K (.ref (He.ma K (He.ga K "Wish") "tokens")),
  fun K => He.eqO (PySem.W.findIn K (.ref (He.ga K "Never")) "names") (some (some (.ref (He.ma K (He.ga K "Wish") "names")))),
  fun K => PySem.W.isFn K (.ref (He.ma K (He.ga K "Wish") "names")),
  fun K => PySem.W.keepIn K (.ref (He.ma K (He.ga K "Wish") "names")),
  fun K => He.eqO (PySem.W.findIn K (.ref (He.ga K "Blocks")) "names") (some (some (.ref (He.ma K (He.ga K "Wish") "names")))),
  fun K => PySem.W.isFn K (.ref (He.ma K (He.ga K "Wish") "names")),
  fun K => PySem.W.keepIn K (.ref (He.ma K (He.ga K "Wish") "names")),
  fun K => He.eqO (PySem.W.findIn K (.ref (He.ga K "Behind")) "names") (some (some (.ref (He.ma K (He.ga K "Wish") "names")))),
  fun K => PySem.W.isFn K (.ref (He.ma K (He.ga K "Wish") "names")),
  fun K => PySem.W.keepIn K (.ref (He.ma K (He.ga K "Wish") "names")),
  fun K => He.eqO (PySem.W.findIn K (.ref (He.ga K "Both")) "names") (some (some (.ref (He.ma K (He.ga K "Wish") "names")))),
  fun K => PySem.W.isFn K (.ref (He.ma K (He.ga K "Wish") "names")),
  fun K => PySem.W.keepIn K (.ref (He.ma K (He.ga K "Wish") "names")),
  fun K => He.eqO (PySem.W.findIn K (.ref (He.ga K "Either")) "names") (some (some (.ref (He.ma K (He.ga K "Wish") "names")))),
  fun K => PySem.W.isFn K (.ref (He.ma K (He.ga K "Wish") "names")),
  fun K => PySem.W.keepIn K (.ref (He.ma K (He.ga K "Wish") "names")),
  fun K => He.eqO (PySem.W.findIn K (.ref (He.ga K "Named")) "names") (some (some (.ref (He.ma K (He.ga K "Wish") "names")))),
  fun K => PySem.W.isFn K (.ref (He.ma K (He.ga K "Wish") "names")),
  fun K => PySem.W.keepIn K (.ref (He.ma K (He.ga K "Wish") "names")),
  fun K => He.eqO (PySem.W.findIn K (.ref (He.ga K "Both")) "needed") (some (some (.ref (He.ma K (He.ga K "Wish") "needed")))),
  fun K => PySem.W.isFn K (.ref (He.ma K (He.ga K "Wish") "needed")),
  fun K => PySem.W.keepIn K (.ref (He.ma K (He.ga K "Wish") "needed")),
  fun K => He.eqO (PySem.W.findIn K (.ref (He.ga K "Either")) "needed") (some (some (.ref (He.ma K (He.ga K "Wish") "needed")))),
  fun K => PySem.W.isFn K (.ref (He.ma K (He.ga K "Wish") "needed")),
  fun K => PySem.W.keepIn K (.ref (He.ma K (He.ga K "Wish") "needed")),
  fun K => He.eqO (PySem.W.findIn K (.ref (He.ga K "Named")) "needed") (some (some (.ref (He.ma K (He.ga K "Wish") "needed")))),
  fun K => PySem.W.isFn K (.ref (He.ma K (He.ga K "Wish") "needed")),
  fun K => PySem.W.keepIn K (.ref (He.ma K (He.ga K "Wish") "needed"))]
def fb12 : List (PySem.W.Frag → Bool) := [fun K => He.eqO (PySem.W.findIn K (.ref (He.ga K "Never")) "needed") (some (some (.ref (He.ma K (He.ga K "Words") "needed")))),
  fun K => PySem.W.isFn K (.ref (He.ma K (He.ga K "Words") "needed")),
  fun K => PySem.W.keepIn K (.ref (He.ma K (He.ga K "Words") "needed")),
  fun K => He.eqO (PySem.W.findIn K (.ref (He.ga K "Blocks")) "needed") (some (some (.ref (He.ma K (He.ga K "Words") "needed")))),
  fun K => PySem.W.isFn K (.ref (He.ma K (He.ga K "Words") "needed")),
  fun K => PySem.W.keepIn K (.ref (He.ma K (He.ga K "Words") "needed")),
  fun K => He.eqO (PySem.W.findIn K (.ref (He.ga K "Never")) "__eq__") (some (some (.ref (He.ma K (He.ga K "Wish") "__eq__")))),
  fun K => PySem.W.isFn K (.ref (He.ma K (He.ga K "Wish") "__eq__")),
  fun K => He.eqO (PySem.W.findIn K (.ref (He.ga K "Never")) "__ne__") (some (some (.builtin "object.__ne__"))),
  fun K => He.eqO (PySem.W.findIn K (.ref (He.ga K "Blocks")) "__eq__") (some (some (.ref (He.ma K (He.ga K "Wish") "__eq__")))),
  fun K => PySem.W.isFn K (.ref (He.ma K (He.ga K "Wish") "__eq__")),
  fun K => He.eqO (PySem.W.findIn K (.ref (He.ga K "Blocks")) "__ne__") (some (some (.builtin "object.__ne__"))),
  fun K => He.eqO (PySem.W.findIn K (.ref (He.ga K "Behind")) "__eq__") (some (some (.ref (He.ma K (He.ga K "Wish") "__eq__")))),
  fun K => PySem.W.isFn K (.ref (He.ma K (He.ga K "Wish") "__eq__")),
  fun K => He.eqO (PySem.W.findIn K (.ref (He.ga K "Behind")) "__ne__") (some (some (.builtin "object.__ne__"))),
  fun K => He.eqO (PySem.W.findIn K (.ref (He.ga K "Both")) "__eq__") (some (some (.ref (He.ma K (He.ga K "Wish") "__eq__")))),
  fun K => PySem.W.isFn K (.ref (He.ma K (He.ga K "Wish") "__eq__")),
  fun K => He.eqO (PySem.W.findIn K (.ref (He.ga K "Both")) "__ne__") (some (some (.builtin "object.__ne__"))),
  fun K => He.eqO (PySem.W.findIn K (.ref (He.ga K "Either")) "__eq__") (some (some (.ref (He.ma K (He.ga K "Wish") "__eq__")))),
  fun K => PySem.W.isFn K (.ref (He.ma K (He.ga K "Wish") "__eq__")),
  fun K => He.eqO (PySem.W.findIn K (.ref (He.ga K "Either")) "__ne__") (some (some (.builtin "object.__ne__"))),
  fun K => He.eqO (PySem.W.findIn K (.ref (He.ga K "Named")) "__eq__") (some (some (.ref (He.ma K (He.ga K "Wish") "__eq__")))),
  fun K => PySem.W.isFn K (.ref (He.ma K (He.ga K "Wish") "__eq__")),
  fun K => He.eqO (PySem.W.findIn K (.ref (He.ga K "Named")) "__ne__") (some (some (.builtin "object.__ne__"))),
  fun K => PySem.W.notFirst K (He.ga K "Never") (.ref (He.ga K "Never")),
  fun K => PySem.W.notFirst K (He.ga K "Never") (.ref (He.ga K "Blocks")),
  fun K => PySem.W.notFirst K (He.ga K "Never") (.ref (He.ga K "Behind")),
  fun K => PySem.W.notFirst K (He.ga K "Never") (.ref (He.ga K "Both")),
  fun K => PySem.W.notFirst K (He.ga K "Never") (.ref (He.ga K "Either")),
  fun K => PySem.W.notFirst K (He.ga K "Never") (.ref (He.ga K "Named"))]
def fb13 : List (PySem.W.Frag → Bool) := [fun K => PySem.W.notFirst K (He.ga K "Blocks") (.ref (He.ga K "Never")),
  fun K => PySem.W.notFirst K (He.ga K "Blocks") (.ref (He.ga K "Blocks")),
  fun K => PySem.W.notFirst K (He.ga K "Blocks") (.ref (He.ga K "Behind")),
  fun K => PySem.W.notFirst K (He.ga K "Blocks") (.ref (He.ga K "Both")),
  fun K => PySem.W.notFirst K (He.ga K "Blocks") (.ref (He.ga K "Either")),
  fun K => PySem.W.notFirst K (He.ga K "Blocks") (.ref (He.ga K "Named")),
  fun K => PySem.W.notFirst K (He.ga K "Behind") (.ref (He.ga K "Never")),
  fun K => PySem.W.notFirst K (He.ga K "Behind") (.ref (He.ga K "Blocks")),
  fun K => PySem.W.notFirst K (He.ga K "Behind") (.ref (He.ga K "Behind")),
  fun K => PySem.W.notFirst K (He.ga K "Behind") (.ref (He.ga K "Both")),
  fun K => PySem.W.notFirst K (He.ga K "Behind") (.ref (He.ga K "Either")),
  fun K => PySem.W.notFirst K (He.ga K "Behind") (.ref (He.ga K "Named")),
  fun K => PySem.W.notFirst K (He.ga K "Both") (.ref (He.ga K "Never")),
  fun K => PySem.W.notFirst K (He.ga K "Both") (.ref (He.ga K "Blocks")),
  fun K => PySem.W.notFirst K (He.ga K "Both") (.ref (He.ga K "Behind")),
  fun K => PySem.W.notFirst K (He.ga K "Both") (.ref (He.ga K "Both")),
  fun K => PySem.W.notFirst K (He.ga K "Both") (.ref (He.ga K "Either")),
  fun K => PySem.W.notFirst K (He.ga K "Both") (.ref (He.ga K "Named")),
  fun K => PySem.W.notFirst K (He.ga K "Either") (.ref (He.ga K "Never")),
  fun K => PySem.W.notFirst K (He.ga K "Either") (.ref (He.ga K "Blocks")),
  fun K => PySem.W.notFirst K (He.ga K "Either") (.ref (He.ga K "Behind")),
  fun K => PySem.W.notFirst K (He.ga K "Either") (.ref (He.ga K "Both")),
  fun K => PySem.W.notFirst K (He.ga K "Either") (.ref (He.ga K "Either")),
  fun K => PySem.W.notFirst K (He.ga K "Either") (.ref (He.ga K "Named")),
  fun K => PySem.W.notFirst K (He.ga K "Named") (.ref (He.ga K "Never")),
  fun K => PySem.W.notFirst K (He.ga K "Named") (.ref (He.ga K "Blocks")),
  fun K => PySem.W.notFirst K (He.ga K "Named") (.ref (He.ga K "Behind")),
  fun K => PySem.W.notFirst K (He.ga K "Named") (.ref (He.ga K "Both")),
  fun K => PySem.W.notFirst K (He.ga K "Named") (.ref (He.ga K "Either")),
  fun K => PySem.W.notFirst K (He.ga K "Named") (.ref (He.ga K "Named"))]
def fb14 : List (PySem.W.Frag → Bool) := [fun K => decide (PySem.W.subIn K (.ref (He.ga K "Never")) (.ref (He.ga K "Wish")) = some true),
  fun K => decide (PySem.W.subIn K (.ref (He.ga K "Blocks")) (.ref (He.ga K "Wish")) = some true),
  fun K => decide (PySem.W.subIn K (.ref (He.ga K "Behind")) (.ref (He.ga K "Wish")) = some true),
  fun K => decide (PySem.W.subIn K (.ref (He.ga K "Both")) (.ref (He.ga K "Wish")) = some true),
  fun K => decide (PySem.W.subIn K (.ref (He.ga K "Either")) (.ref (He.ga K "Wish")) = some true),
  fun K => decide (PySem.W.subIn K (.ref (He.ga K "Named")) (.ref (He.ga K "Wish")) = some true),
  fun K => PySem.W.selfFirst K (He.ga K "Never"),
  fun K => He.eqO (PySem.W.findIn K (.ref (He.ga K "Never")) (PySem.dunder Operator.BitAnd.info.snd)) (some (some (.ref (He.ma K (He.ga K "Wish") "__and__")))),
  fun K => PySem.W.isFn K (.ref (He.ma K (He.ga K "Wish") "__and__")),
  fun K => He.eqO (PySem.W.findIn K (.ref (He.ga K "Never")) (dunderR Operator.BitAnd.info.snd)) (some none),
  fun K => PySem.W.selfFirst K (He.ga K "Blocks"),
  fun K => He.eqO (PySem.W.findIn K (.ref (He.ga K "Blocks")) (PySem.dunder Operator.BitAnd.info.snd)) (some (some (.ref (He.ma K (He.ga K "Wish") "__and__")))),
  fun K => PySem.W.isFn K (.ref (He.ma K (He.ga K "Wish") "__and__")),
  fun K => He.eqO (PySem.W.findIn K (.ref (He.ga K "Blocks")) (dunderR Operator.BitAnd.info.snd)) (some none),
  fun K => PySem.W.selfFirst K (He.ga K "Behind"),
  fun K => He.eqO (PySem.W.findIn K (.ref (He.ga K "Behind")) (PySem.dunder Operator.BitAnd.info.snd)) (some (some (.ref (He.ma K (He.ga K "Wish") "__and__")))),
  fun K => PySem.W.isFn K (.ref (He.ma K (He.ga K "Wish") "__and__")),
  fun K => He.eqO (PySem.W.findIn K (.ref (He.ga K "Behind")) (dunderR Operator.BitAnd.info.snd)) (some none),
  fun K => PySem.W.selfFirst K (He.ga K "Both"),
  fun K => He.eqO (PySem.W.findIn K (.ref (He.ga K "Both")) (PySem.dunder Operator.BitAnd.info.snd)) (some (some (.ref (He.ma K (He.ga K "Wish") "__and__")))),
  fun K => PySem.W.isFn K (.ref (He.ma K (He.ga K "Wish") "__and__")),
  fun K => He.eqO (PySem.W.findIn K (.ref (He.ga K "Both")) (dunderR Operator.BitAnd.info.snd)) (some none),
  fun K => PySem.W.selfFirst K (He.ga K "Either"),
  fun K => He.eqO (PySem.W.findIn K (.ref (He.ga K "Either")) (PySem.dunder Operator.BitAnd.info.snd)) (some (some (.ref (He.ma K (He.ga K "Wish") "__and__")))),
  fun K => PySem.W.isFn K (.ref (He.ma K (He.ga K "Wish") "__and__")),
  fun K => He.eqO (PySem.W.findIn K (.ref (He.ga K "Either")) (dunderR Operator.BitAnd.info.snd)) (some none),
  fun K => PySem.W.selfFirst K (He.ga K "Named"),
  fun K => He.eqO (PySem.W.findIn K (.ref (He.ga K "Named")) (PySem.dunder Operator.BitAnd.info.snd)) (some (some (.ref (He.ma K (He.ga K "Wish") "__and__")))),
  fun K => PySem.W.isFn K (.ref (He.ma K (He.ga K "Wish") "__and__")),
  fun K => He.eqO (PySem.W.findIn K (.ref (He.ga K "Named")) (dunderR Operator.BitAnd.info.snd)) (some none)]
def fb15 : List (PySem.W.Frag → Bool) := [fun K => PySem.W.selfFirst K (He.ga K "Never"),
  fun K => He.eqO (PySem.W.findIn K (.ref (He.ga K "Never")) (PySem.dunder Operator.BitOr.info.snd)) (some (some (.ref (He.ma K (He.ga K "Wish") "__or__")))),
  fun K => PySem.W.isFn K (.ref (He.ma K (He.ga K "Wish") "__or__")),
  fun K => He.eqO (PySem.W.findIn K (.ref (He.ga K "Never")) (dunderR Operator.BitOr.info.snd)) (some none),
  fun K => PySem.W.selfFirst K (He.ga K "Blocks"),
  fun K => He.eqO (PySem.W.findIn K (.ref (He.ga K "Blocks")) (PySem.dunder Operator.BitOr.info.snd)) (some (some (.ref (He.ma K (He.ga K "Wish") "__or__")))),
  fun K => PySem.W.isFn K (.ref (He.ma K (He.ga K "Wish") "__or__")),
  fun K => He.eqO (PySem.W.findIn K (.ref (He.ga K "Blocks")) (dunderR Operator.BitOr.info.snd)) (some none),
  fun K => PySem.W.selfFirst K (He.ga K "Behind"),
  fun K => He.eqO (PySem.W.findIn K (.ref (He.ga K "Behind")) (PySem.dunder Operator.BitOr.info.snd)) (some (some (.ref (He.ma K (He.ga K "Wish") "__or__")))),
  fun K => PySem.W.isFn K (.ref (He.ma K (He.ga K "Wish") "__or__")),
  fun K => He.eqO (PySem.W.findIn K (.ref (He.ga K "Behind")) (dunderR Operator.BitOr.info.snd)) (some none),
  fun K => PySem.W.selfFirst K (He.ga K "Both"),
  fun K => He.eqO (PySem.W.findIn K (.ref (He.ga K "Both")) (PySem.dunder Operator.BitOr.info.snd)) (some (some (.ref (He.ma K (He.ga K "Wish") "__or__")))),
  fun K => PySem.W.isFn K (.ref (He.ma K (He.ga K "Wish") "__or__")),
  fun K => He.eqO (PySem.W.findIn K (.ref (He.ga K "Both")) (dunderR Operator.BitOr.info.snd)) (some none),
  fun K => PySem.W.selfFirst K (He.ga K "Either"),
  fun K => He.eqO (PySem.W.findIn K (.ref (He.ga K "Either")) (PySem.dunder Operator.BitOr.info.snd)) (some (some (.ref (He.ma K (He.ga K "Wish") "__or__")))),
  fun K => PySem.W.isFn K (.ref (He.ma K (He.ga K "Wish") "__or__")),
  fun K => He.eqO (PySem.W.findIn K (.ref (He.ga K "Either")) (dunderR Operator.BitOr.info.snd)) (some none),
  fun K => PySem.W.selfFirst K (He.ga K "Named"),
  fun K => He.eqO (PySem.W.findIn K (.ref (He.ga K "Named")) (PySem.dunder Operator.BitOr.info.snd)) (some (some (.ref (He.ma K (He.ga K "Wish") "__or__")))),
  fun K => PySem.W.isFn K (.ref (He.ma K (He.ga K "Wish") "__or__")),
  fun K => He.eqO (PySem.W.findIn K (.ref (He.ga K "Named")) (dunderR Operator.BitOr.info.snd)) (some none),
  fun K => He.eqO (PySem.W.findIn K (.ref (He.ga K "Never")) "__repr__") (some (some (.ref (He.ma K (He.ga K "Wish") "__repr__")))),
  fun K => PySem.W.isFn K (.ref (He.ma K (He.ga K "Wish") "__repr__")),
  fun K => He.eqO (PySem.W.findIn K (.ref (He.ga K "Blocks")) "__repr__") (some (some (.ref (He.ma K (He.ga K "Wish") "__repr__")))),
  fun K => PySem.W.isFn K (.ref (He.ma K (He.ga K "Wish") "__repr__")),
  fun K => He.eqO (PySem.W.findIn K (.ref (He.ga K "Behind")) "__repr__") (some (some (.ref (He.ma K (He.ga K "Wish") "__repr__")))),
  fun K => PySem.W.isFn K (.ref (He.ma K (He.ga K "Wish") "__repr__"))]
def fb16 : List (PySem.W.Frag → Bool) := [fun K => He.eqO (PySem.W.findIn K (.ref (He.ga K "Both")) "__repr__") (some (some (.ref (He.ma K (He.ga K "Wish") "__repr__")))),
  fun K => PySem.W.isFn K (.ref (He.ma K (He.ga K "Wish") "__repr__")),
  fun K => He.eqO (PySem.W.findIn K (.ref (He.ga K "Either")) "__repr__") (some (some (.ref (He.ma K (He.ga K "Wish") "__repr__")))),
  fun K => PySem.W.isFn K (.ref (He.ma K (He.ga K "Wish") "__repr__")),
  fun K => He.eqO (PySem.W.findIn K (.ref (He.ga K "Named")) "__repr__") (some (some (.ref (He.ma K (He.ga K "Wish") "__repr__")))),
  fun K => PySem.W.isFn K (.ref (He.ma K (He.ga K "Wish") "__repr__"))]
def fb : List (PySem.W.Frag → Bool) := fb0 ++ fb1 ++ fb2 ++ fb3 ++ fb4 ++ fb5 ++ fb6 ++ fb7 ++ fb8 ++ fb9 ++ fb10 ++ fb11 ++ fb12 ++ fb13 ++ fb14 ++ fb15 ++ fb16
def nm0 : List PySem.Str := ["_wall", "SlipError", "InvalidWord", "InvalidName", "InvalidWish", "is_word", "is_name", "Wish", "Words", "Never", "Blocks", "Behind", "Both", "Either", "Named", "words_token", "token_read", "read_wish", "_law_draws", "_law_pull", "_law_any", "_law_mixed", "_law_like", "_law_alphabet", "_law_word", "_law_words", "_law_leaf", "_law_tree", "_law_tokens", "_law_wish"]
def nm1 : List PySem.Str := ["_law_made_words", "_law_names", "_law_letters_of", "LETTERS", "MOST_LETTERS", "MOST_TOKENS", "MOST_WORDS", "MOST_LONG"]
def names : List PySem.Str := nm0 ++ nm1
abbrev R : PySem.W.OpenRow := PySem.W.OpenLaw.row PySem.Challenge.rw_lastslip_k60_wishes_told
abbrev hk : PySem.W.Hook := Hk.hookM 5 fb fn
def ob (s : PySem.W.SharedT) : He.AlD := Hk.obsG 5 fb fn (HandSHeadRun.getT s)
theorem ob_eq (s : PySem.W.SharedT) : ob s = hk.obs s.abs := Hk.obsG_eq (HandSHeadRun.getT_eq s)
theorem run (w : World) : HandSHeadRun.RunEq R (PySem.W.view R.prog [42]) hk ob 14000 names w := by
  intro os
  kernel_rfl
end Hd
end
end L2.DL.LW
namespace L2.DL
open PySem PySem.Spec PyProof.Rows
/-- a text by its codes -/
abbrev S2 (l : List Nat) : Str := ⟨l.toArray⟩
theorem S2_eta (x : Str) : S2 x.cps.toList = x := rfl
inductive D where
  | non
  | bl (b : Bool)
  | int (i : Int)
  | str (s : List Nat)
  | lst (xs : List D)
  | tup (xs : List D)
  | dic (t lk : Bool) (ks vs : List D)
  | ins (C : Addr) (ns : List Str) (vs : List D)
  | raw (v : V)
  | bag
  | clo (i : Nat)
/-- a dict's key as data -/
def kD : Key → D
  | .inl i => .int i
  | .inr x => .str x.cps.toList
abbrev tD (k : List Key) : D := .tup (k.map kD)
/-- what a lambda of the law's def is -/
structure LamN where
  params : Arguments
  body : Expr
  scope : Scope
/-- the bag and its list; the table of code objects that lambdas write; the lambdas, the cells that they take, the def's name -/
structure Bz where
  bag : Option (Addr × Addr)
  tab : Option Addr
  lam : List LamN
  cl : List (Str × Addr)
  q : Str
def isB (z : Bz) (a : Addr) : Prop := (∃ l, z.bag = some (a, l)) ∨ z.tab = some a
def resB (z : Bz) (a : Addr) : Prop := (∃ p q, z.bag = some (p, q) ∧ (a = p ∨ a = q)) ∨ z.tab = some a
theorem isB.res {z : Bz} {a : Addr} (h : isB z a) : resB z a := by
  rcases h with ⟨l, e⟩ | h
  · exact .inl ⟨a, l, e, .inl rfl⟩
  · exact .inr h
/-- a code object of the name q -/
def CodeO (c : Addr) (q : Str) : HO := .ext fun h => ∃ (oc : Obj) (vs : Array Value) (t : Tok), h.get? c = some oc ∧ oc.data = .fields vs ∧ vs[1]? = some (.str q t)
/-- the table at P: each code object that it tells bears the name q -/
def TabS (H : Hp) (P : Addr) (q : Str) : Prop := ∃ ps : Array Value, H P = some (.tbl ps) ∧ TriplesOk ps.toList ∧ ∀ (pos : Pos) (cv : Value), codeAmong pos ps.toList = some cv → ∃ c, cv = .ref c ∧ H c = some (CodeO c q)
abbrev MS := Addr → Prop
/-- all objects but the bag's are kept -/
def Ext (z : Bz) (H H' : Hp) : Prop := ∀ a o, H a = some o → ¬ isB z a → H' a = some o
theorem Ext.refl {z : Bz} {H : Hp} : Ext z H H := fun _ _ e _ => e
theorem Ext.trans {z : Bz} {H H1 H2 : Hp} (a : Ext z H H1) (b : Ext z H1 H2) : Ext z H H2 := fun c o e n => b c o (a c o e n) n
theorem Ext.new {z : Bz} {H : Hp} {p : Addr} {o : HO} (hp : H p = none) : Ext z H (upd H p o) := fun a u e _ => by
  rw [upd_ne (ne_of_none e hp)]; exact e
/-- an address that does not stand in H -/
theorem Ext.upd {z : Bz} {H H1 : Hp} {p : Addr} {o : HO} (h : Ext z H H1) (hp : H p = none) : Ext z H (upd H1 p o) := fun a u e n => by
  rw [upd_ne (ne_of_none e hp)]; exact h a u e n
structure BagAt (H : Hp) (a l : Addr) : Prop where
  ne : a ≠ l
  ex : ∃ (ns : List Int) (at_ big seed cnt : Int), H a = some (.lst [.ref l, .int at_, .int big, .int seed, .int cnt]) ∧ H l = some (.lst (ns.map .int)) ∧ ns.length ≤ 63 ∧ 0 ≤ at_ ∧ 0 ≤ big ∧ 0 ≤ seed ∧ seed < 2147483549 ∧ 0 ≤ cnt
structure BagOk (z : Bz) (H : Hp) : Prop where
  bg : ∀ a l, z.bag = some (a, l) → BagAt H a l
  tb : ∀ P, z.tab = some P → TabS H P (z.q ++ "<lambda>")
  ap : ∀ a l P, z.bag = some (a, l) → z.tab = some P → a ≠ P ∧ l ≠ P
/-- a thing stands there, and it is no tuple -/
def NtO : HO → Prop
  | .tup _ => False
  | .ext φ => ∀ (c : Addr) (q : Str), HO.ext φ ≠ CodeO c q
  | _ => True
def Nt (H : Hp) (a : Addr) : Prop := ∃ o, H a = some o ∧ NtO o
theorem Nt.ne {H : Hp} {a : Addr} (h : Nt H a) : H a ≠ none := by
  obtain ⟨o, e, _⟩ := h
  rw [e]; intro q; cases q
theorem Nt.tup {H : Hp} {a : Addr} {xs : List V} (h : Nt H a) : H a ≠ some (.tup xs) := fun q => by
  obtain ⟨o, e, n⟩ := h
  rw [e] at q
  cases q
  exact n
theorem Nt.code {H : Hp} {a c : Addr} {q : Str} (h : Nt H a) : H a ≠ some (CodeO c q) := fun e' => by
  obtain ⟨o, e, n⟩ := h
  rw [e] at e'
  cases e'
  exact n c q rfl
theorem Nt.upd {H : Hp} {a : Addr} {o : HO} (h : NtO o) : Nt (upd H a o) a := ⟨o, upd_same, h⟩
theorem BagOk.alive {z : Bz} {H : Hp} (h : BagOk z H) {a : Addr} (r : resB z a) : Nt H a := by
  rcases r with ⟨p, q, e, h'⟩ | r
  · obtain ⟨_, ns, at_, big, seed, cnt, e1, e2, _⟩ := h.bg p q e
    rcases h' with rfl | rfl
    · exact ⟨_, e1, trivial⟩
    · exact ⟨_, e2, trivial⟩
  · obtain ⟨ps, e, _⟩ := h.tb a r
    exact ⟨_, e, trivial⟩
/-- a dict that may be walked is locked -/
def LkD : Bool → Hp → Addr → HO → Prop
  | false, H, a, u => H a = some u
  | true, H, a, u => ∃ o, H a = some (.frz o u)
/-- the defaults of a lambda: none, or one number -/
def DefV (M : MS) (H : Hp) (dv : Value) : Prop := dv = .none ∨ ∃ (b : Addr) (n : Int), dv = .ref b ∧ H b = some (.tup [.int n]) ∧ ¬ M b
/-- a function that the i-th lambda made stands at a -/
structure CloAt (z : Bz) (M : MS) (H : Hp) (a : Addr) (i : Nat) : Prop where
  ex : ∃ (nd : LamN) (c' : Addr) (dv doc pm ctv : Value), z.lam[i]? = some nd ∧ (dv = .none ↔ nd.params.defaults = []) ∧
    H a = some (.ext fun h => h.get? a = some ({ cls := .type "function", data := .func { name := "<lambda>", qualname := z.q ++ "<lambda>", params := nd.params, body := .expr nd.body, scope := nd.scope, globals := mainGlobals, closure := cloFrom z.cl nd.scope.names [], defaults := dv, kwdefaults := .none, doc := doc, pyModule := pm, annotations := none, code := .ref c', closureTuple := ctv, builtins := builtinsNs } } : Obj)) ∧
    H c' = some (CodeO c' (z.q ++ "<lambda>")) ∧ DefV M H dv ∧ ¬ M a ∧ ¬ M c'
mutual
inductive Rp (z : Bz) (M : MS) (H : Hp) : V → D → Prop
  | non : Rp z M H .non .non
  | bl (b : Bool) : Rp z M H (.bl b) (.bl b)
  | int (i : Int) : Rp z M H (.int i) (.int i)
  | str (x : List Nat) : Rp z M H (.str (S2 x)) (.str x)
  | lst {a : Addr} {xs : List V} {ds : List D} : H a = some (.lst xs) → ¬ M a → RpL z M H xs ds → Rp z M H (.ref a) (.lst ds)
  | tup {a : Addr} {xs : List V} {ds : List D} : H a = some (.tup xs) → ¬ M a → RpL z M H xs ds → Rp z M H (.ref a) (.tup ds)
  | dicK {a : Addr} {kvs : List (Key × V)} {vs : List D} {lk : Bool} : LkD lk H a (.dK kvs) → ¬ M a → RpL z M H (kvs.map fun p => p.2) vs → Rp z M H (.ref a) (.dic false lk (kvs.map fun p => kD p.1) vs)
  | dicT {a : Addr} {kvs : List (List Key × V)} {vs : List D} {lk : Bool} : LkD lk H a (.dT kvs) → ¬ M a → RpL z M H (kvs.map fun p => p.2) vs → Rp z M H (.ref a) (.dic true lk (kvs.map fun p => tD p.1) vs)
  | ins {a C dx : Addr} {fs : List (Str × V)} {ds : List D} : H a = some (.ins C dx fs) → ("" : Str) ∉ (fs.map fun p => p.1) → ¬ M a → RpL z M H (fs.map fun p => p.2) ds → Rp z M H (.ref a) (.ins C (fs.map fun p => p.1) ds)
  | slf {a C dx : Addr} {fs : List (Str × V)} {ds : List D} : H a = some (.ins C dx fs) → ¬ M a → RpL z M H (fs.map fun p => p.2) ds → Rp z M H (.ref a) (.ins C ("" :: fs.map fun p => p.1) (.raw (.ref a) :: ds))
  | raw (v : V) : Rp z M H v (.raw v)
  | bag {a l : Addr} : z.bag = some (a, l) → Rp z M H (.ref a) .bag
  | clo {a : Addr} {i : Nat} : CloAt z M H a i → Rp z M H (.ref a) (.clo i)
inductive RpL (z : Bz) (M : MS) (H : Hp) : List V → List D → Prop
  | nil : RpL z M H [] []
  | cons {v : V} {vs : List V} {d : D} {ds : List D} : Rp z M H v d → RpL z M H vs ds → RpL z M H (v :: vs) (d :: ds)
inductive RpLL (z : Bz) (M : MS) (H : Hp) : List (List V) → List (List D) → Prop
  | nil : RpLL z M H [] []
  | cons {v : List V} {vs : List (List V)} {d : List D} {ds : List (List D)} : RpL z M H v d → RpLL z M H vs ds → RpLL z M H (v :: vs) (d :: ds)
end
def isDic : HO → Bool
  | .dK _ => true
  | .dT _ => true
  | .frz _ u => isDic u
  | _ => false
structure Tr (M : MS) (H : Hp) (M' : MS) (H' : Hp) : Prop where
  ex : ∀ a o, ¬ M a → H a = some o → H' a = some o ∧ ¬ M' a
theorem Tr.of {M M' : MS} {H H' : Hp} (h : ∀ a o, ¬ M a → H a = some o → H' a = some o ∧ ¬ M' a) : Tr M H M' H' := ⟨h⟩
theorem Tr.lk {M M' : MS} {H H' : Hp} (t : Tr M H M' H') {a : Addr} {lk : Bool} {u : HO} (n : ¬ M a) (h : LkD lk H a u) : LkD lk H' a u ∧ ¬ M' a := by
  cases lk
  · exact t.ex a _ n h
  · obtain ⟨o, e⟩ := h
    exact ⟨⟨o, (t.ex a _ n e).1⟩, (t.ex a _ n e).2⟩
theorem CloAt.tr {z : Bz} {M M' : MS} {H H' : Hp} (t : Tr M H M' H') {a : Addr} {i : Nat} (c : CloAt z M H a i) : CloAt z M' H' a i := by
  obtain ⟨nd, c', dv, doc, pm, ctv, e, hd, h1, h2, h3, n1, n2⟩ := c.ex
  refine ⟨nd, c', dv, doc, pm, ctv, e, hd, (t.ex _ _ n1 h1).1, (t.ex _ _ n2 h2).1, ?_, (t.ex _ _ n1 h1).2, (t.ex _ _ n2 h2).2⟩
  rcases h3 with h3 | ⟨b, n, e, h, nb⟩
  · exact .inl h3
  · exact .inr ⟨b, n, e, (t.ex _ _ nb h).1, (t.ex _ _ nb h).2⟩
mutual
theorem Rp.tr {z : Bz} {M M' : MS} {H H' : Hp} (t : Tr M H M' H') : ∀ {v : V} {d : D}, Rp z M H v d → Rp z M' H' v d
  | _, _, .non => .non
  | _, _, .bl b => .bl b
  | _, _, .int b => .int b
  | _, _, .str b => .str b
  | _, _, .lst r n l => .lst (t.ex _ _ n r).1 (t.ex _ _ n r).2 (l.tr t)
  | _, _, .tup r n l => .tup (t.ex _ _ n r).1 (t.ex _ _ n r).2 (l.tr t)
  | _, _, .dicK r n l => .dicK (t.lk n r).1 (t.lk n r).2 (l.tr t)
  | _, _, .dicT r n l => .dicT (t.lk n r).1 (t.lk n r).2 (l.tr t)
  | _, _, .ins r q n l => .ins (t.ex _ _ n r).1 q (t.ex _ _ n r).2 (l.tr t)
  | _, _, .slf r n l => .slf (t.ex _ _ n r).1 (t.ex _ _ n r).2 (l.tr t)
  | _, _, .raw v => .raw v
  | _, _, .bag e => .bag e
  | _, _, .clo c => .clo (c.tr t)
theorem RpL.tr {z : Bz} {M M' : MS} {H H' : Hp} (t : Tr M H M' H') : ∀ {v : List V} {d : List D}, RpL z M H v d → RpL z M' H' v d
  | _, _, .nil => .nil
  | _, _, .cons a b => .cons (a.tr t) (b.tr t)
theorem RpLL.tr {z : Bz} {M M' : MS} {H H' : Hp} (t : Tr M H M' H') : ∀ {v : List (List V)} {d : List (List D)}, RpLL z M H v d → RpLL z M' H' v d
  | _, _, .nil => .nil
  | _, _, .cons a b => .cons (a.tr t) (b.tr t)
end
end L2.DL
namespace L2.DL
open PySem PySem.Spec PyProof.Rows
/-- what is raised: its class, its fields -/
structure XD where
  C : Addr
  ns : List Str
  vs : List D
/-- who owns: a name's slot; the things of a resource slot -/
abbrev Ix := Nat ⊕ (Nat × Nat)
instance : Coe Nat Ix := ⟨Sum.inl⟩
inductive Sl where
  | no
  | val (d : D)
  | own (d : D)
  | rs (as : List Addr) (φ : Bz → (Addr → Prop) → Hp → Prop)
  | ex (E : XK) (Ed : XD → Prop)
  | zz (p : Bz → (Addr → Prop) → Hp → Prop)
def Sl.dat : Sl → Option D
  | .no => none
  | .val d => some d
  | .own d => some d
  | .ex _ _ => none
  | .zz _ => none
  | .rs _ _ => none
def Mo (M0 : MS) (z : Bz) (ow : Ix → Option Addr) : MS := fun a => M0 a ∨ resB z a ∨ ∃ i, ow i = some a
inductive Ow (z : Bz) (M : MS) (H : Hp) : Addr → D → Prop
  | lst {a : Addr} {xs : List V} {ds : List D} : H a = some (.lst xs) → RpL z M H xs ds → Ow z M H a (.lst ds)
  | dicK {a : Addr} {kvs : List (Key × V)} {vs : List D} : H a = some (.dK kvs) → RpL z M H (kvs.map fun p => p.2) vs → Ow z M H a (.dic false false (kvs.map fun p => kD p.1) vs)
  | dicT {a : Addr} {kvs : List (List Key × V)} {vs : List D} : H a = some (.dT kvs) → RpL z M H (kvs.map fun p => p.2) vs → Ow z M H a (.dic true false (kvs.map fun p => tD p.1) vs)
  | ins {a C dx : Addr} {fs : List (Str × V)} {ds : List D} : H a = some (.ins C dx fs) → ("" : Str) ∉ (fs.map fun p => p.1) → RpL z M H (fs.map fun p => p.2) ds → Ow z M H a (.ins C (fs.map fun p => p.1) ds)
  | slf {a C dx : Addr} {fs : List (Str × V)} {ds : List D} : H a = some (.ins C dx fs) → RpL z M H (fs.map fun p => p.2) ds → Ow z M H a (.ins C ("" :: fs.map fun p => p.1) (.raw (.ref a) :: ds))
theorem Ow.alive {z : Bz} {M : MS} {H : Hp} {a : Addr} {d : D} (h : Ow z M H a d) : Nt H a := by
  cases h with
  | lst e _ => exact ⟨_, e, trivial⟩
  | dicK e _ => exact ⟨_, e, trivial⟩
  | dicT e _ => exact ⟨_, e, trivial⟩
  | ins e _ _ => exact ⟨_, e, trivial⟩
  | slf e _ => exact ⟨_, e, trivial⟩
theorem Ow.tr {z : Bz} {M M' : MS} {H H' : Hp} {a : Addr} {d : D} (h : Ow z M H a d) (t : Tr M H M' H') (e : ∀ o, H a = some o → H' a = some o) : Ow z M' H' a d := by
  cases h with
  | lst r l => exact .lst (e _ r) (l.tr t)
  | dicK r l => exact .dicK (e _ r) (l.tr t)
  | dicT r l => exact .dicT (e _ r) (l.tr t)
  | ins r q l => exact .ins (e _ r) q (l.tr t)
  | slf r l => exact .slf (e _ r) (l.tr t)
theorem Ow.code {z : Bz} {M : MS} {H : Hp} {a : Addr} {d : D} (h : Ow z M H a d) (c : Addr) (q : Str) : H a ≠ some (CodeO c q) := fun e => by
  cases h with
  | lst e' _ => rw [e'] at e; cases e
  | dicK e' _ => rw [e'] at e; cases e
  | dicT e' _ => rw [e'] at e; cases e
  | ins e' _ _ => rw [e'] at e; cases e
  | slf e' _ => rw [e'] at e; cases e
/-- an owned thing that is owned no more -/
theorem Ow.rp {z : Bz} {M M' : MS} {H : Hp} {a : Addr} {d : D} (h : Ow z M H a d) (t : Tr M H M' H) (n : ¬ M' a) : Rp z M' H (.ref a) d := by
  cases h with
  | lst r l => exact .lst r n (l.tr t)
  | dicK r l => exact .dicK (lk := false) r n (l.tr t)
  | dicT r l => exact .dicT (lk := false) r n (l.tr t)
  | ins r q l => exact .ins r q n (l.tr t)
  | slf r l => exact .slf r n (l.tr t)
/-- an exception with the own dict at d -/
def XRp (z : Bz) (M : MS) (H : Hp) (d : Addr) (x : XD) : Prop := ∃ fs : List (Str × V), H d = some (.xd fs) ∧ (fs.map fun p => p.1) = x.ns ∧ RpL z M H (fs.map fun p => p.2) x.vs
/-- what the wish E takes, over data -/
def XLink (z : Bz) (M0 : MS) (H0 : Hp) (E : XK) (Ed : XD → Prop) : Prop := ∀ (x : XD) (d : Addr) (H' : Hp), Ed x → Ext z H0 H' → BagOk z H' → XRp z (Mo M0 z fun _ => none) H' d x → E (.ref x.C) (some d) H'
abbrev SS0 := List Sl
structure Gh where
  z : Bz
  M0 : MS
  H0 : Hp
  X0 : Hp
  XM : MS
  ow : Ix → Option Addr
  S : List Sl
/-- the wishes about exceptions that the slots hold -/
structure ExOk (g : Gh) : Prop where
  e0 : Ext g.z g.X0 g.H0
  em : ∀ a, g.XM a → g.M0 a
  ea : ∀ a, g.XM a → g.X0 a ≠ none
  el : ∀ (i : Nat) (E : XK) (Ed : XD → Prop), g.S[i]? = some (.ex E Ed) → XLink g.z g.XM g.X0 E Ed
  ez : ∀ (i : Nat) (p : Bz → MS → Hp → Prop), g.S[i]? = some (.zz p) → p g.z g.XM g.X0
  en : ∀ a, g.M0 a → g.XM a ∨ g.X0 a = none
abbrev Gh.M (g : Gh) : MS := Mo g.M0 g.z g.ow
/-- what stands at the addresses of a resource slot leans on them alone, and on kept things -/
def RsOk (as : List Addr) (φ : Bz → (Addr → Prop) → Hp → Prop) : Prop := ∀ (z : Bz) (M M' : MS) (H H' : Hp), φ z M H → Tr M H M' H' → (∀ a ∈ as, ∀ o, H a = some o → H' a = some o) → φ z M' H'
structure RsAt (g : Gh) (M : MS) (H : Hp) (i : Nat) (as : List Addr) (φ : Bz → (Addr → Prop) → Hp → Prop) : Prop where
  ok : RsOk as φ
  ow : ∀ a ∈ as, ∃ j, g.ow (.inr (i, j)) = some a
  at_ : φ g.z M H
structure Stt (g : Gh) (σ : St) (H : Hp) : Prop where
  rs : ∀ (i : Nat) (as : List Addr) (φ : Bz → (Addr → Prop) → Hp → Prop), g.S[i]? = some (.rs as φ) → RsAt g g.M H i as φ
  len : g.S.length = σ.length
  val : ∀ (i : Nat) (d : D), g.S[i]? = some (.val d) → ∃ v, σ[i]? = some (some v) ∧ Rp g.z g.M H v d
  own : ∀ (i : Nat) (d : D), g.S[i]? = some (.own d) → ∃ a, σ[i]? = some (some (.ref a)) ∧ g.ow i = some a ∧ Ow g.z g.M H a d
  inj : ∀ (i j : Ix) (a : Addr), g.ow i = some a → g.ow j = some a → i = j
  new : ∀ (i : Ix) (a : Addr), g.ow i = some a → g.H0 a = none ∧ ¬ g.M0 a ∧ ¬ resB g.z a
  alive : ∀ a, g.M a → Nt H a
  keep : Ext g.z g.H0 H
  bag : BagOk g.z H
  ex : ExOk g
theorem res_M {g : Gh} {a : Addr} (h : resB g.z a) : g.M a := .inr (.inl h)
theorem Stt.x0 {g : Gh} {σ : St} {H : Hp} (s : Stt g σ H) {a : Addr} (ha : H a = none) : g.X0 a = none := by
  cases e : g.X0 a with
  | none => rfl
  | some o =>
    exfalso
    by_cases hb : isB g.z a
    · exact (s.alive a (res_M hb.res)).ne ha
    · have h1 := s.keep a o (s.ex.e0 a o e hb) hb
      rw [ha] at h1
      cases h1
theorem Ext.trM {g : Gh} {H H' : Hp} (x : Ext g.z H H') : Tr g.M H g.M H' := Tr.of fun a o n e => ⟨x a o e fun q => n (res_M q.res), n⟩
theorem Rp.ext {g : Gh} {H H' : Hp} {v : V} {d : D} (h : Rp g.z g.M H v d) (x : Ext g.z H H') : Rp g.z g.M H' v d := h.tr x.trM
theorem RpL.ext {g : Gh} {H H' : Hp} {v : List V} {d : List D} (h : RpL g.z g.M H v d) (x : Ext g.z H H') : RpL g.z g.M H' v d := h.tr x.trM
theorem RsAt.tr {g g' : Gh} {M M' : MS} {H H' : Hp} {i : Nat} {as : List Addr} {φ : Bz → (Addr → Prop) → Hp → Prop} (r : RsAt g M H i as φ) (t : Tr M H M' H') (k : ∀ a ∈ as, ∀ o, H a = some o → H' a = some o) (hz : g'.z = g.z) (ho : ∀ j, g'.ow (.inr (i, j)) = g.ow (.inr (i, j))) : RsAt g' M' H' i as φ :=
  ⟨r.ok, fun a ha => by obtain ⟨j, e⟩ := r.ow a ha; exact ⟨j, by rw [ho]; exact e⟩, by rw [hz]; exact r.ok _ _ _ _ _ r.at_ t k⟩
theorem Stt.rsNe {g : Gh} {σ : St} {H : Hp} (s : Stt g σ H) {i k : Nat} {a : Addr} {as : List Addr} {φ : Bz → (Addr → Prop) → Hp → Prop} (e : g.S[i]? = some (.rs as φ)) (eo : g.ow k = some a) : a ∉ as := fun h => by
  obtain ⟨j, ej⟩ := (s.rs i as φ e).ow a h
  cases s.inj _ _ a ej eo
theorem Stt.rsNew {g : Gh} {σ : St} {H : Hp} (s : Stt g σ H) {i : Nat} {as : List Addr} {φ : Bz → (Addr → Prop) → Hp → Prop} (e : g.S[i]? = some (.rs as φ)) {a : Addr} (h : a ∈ as) : g.H0 a = none ∧ ¬ g.M0 a ∧ ¬ resB g.z a := by
  obtain ⟨j, ej⟩ := (s.rs i as φ e).ow a h
  exact s.new _ a ej
theorem Stt.ext {g : Gh} {σ : St} {H H' : Hp} (s : Stt g σ H) (x : Ext g.z H H') (b : BagOk g.z H') : Stt g σ H' where
  rs := fun i as φ e => (s.rs i as φ e).tr x.trM (fun a ha o q => x a o q fun z => (s.rsNew e ha).2.2 z.res) rfl fun _ => rfl
  len := s.len
  val := fun i d e => by
    obtain ⟨v, e1, r⟩ := s.val i d e
    exact ⟨v, e1, r.ext x⟩
  own := fun i d e => by
    obtain ⟨a, e1, e2, r⟩ := s.own i d e
    refine ⟨a, e1, e2, r.tr x.trM fun o q => x a o q fun z => (s.new i a e2).2.2 z.res⟩
  inj := s.inj
  new := s.new
  alive := fun a h => by
    by_cases hb : resB g.z a
    · exact b.alive hb
    · obtain ⟨o, e, n⟩ := s.alive a h
      exact ⟨o, x a o e fun z => hb z.res, n⟩
  keep := s.keep.trans x
  bag := b
  ex := s.ex
theorem TabS.keeps {H H' : Hp} {P : Addr} {q : Str} (t : TabS H P q) (e : ∀ b o, H b = some o → H' b = some o) : TabS H' P q := by
  obtain ⟨ps, h1, h2, h3⟩ := t
  refine ⟨ps, e _ _ h1, h2, fun pos cv hc => ?_⟩
  obtain ⟨c, e1, e2⟩ := h3 pos cv hc
  exact ⟨c, e1, e _ _ e2⟩
theorem BagOk.new {z : Bz} {H : Hp} {p : Addr} {o : HO} (b : BagOk z H) (hp : H p = none) : BagOk z (upd H p o) where
  bg := fun a l e => by
    obtain ⟨ne, ns, at_, big, seed, cnt, e1, e2, r⟩ := b.bg a l e
    refine ⟨ne, ns, at_, big, seed, cnt, ?_, ?_, r⟩
    · rw [upd_ne (ne_of_none e1 hp)]; exact e1
    · rw [upd_ne (ne_of_none e2 hp)]; exact e2
  tb := fun P e => (b.tb P e).keeps fun c u q => by rw [upd_ne (ne_of_none q hp)]; exact q
  ap := b.ap
theorem BagOk.mut {z : Bz} {H : Hp} {a : Addr} {o : HO} (b : BagOk z H) (h : ¬ resB z a) (hc : ∀ c q, H a ≠ some (CodeO c q)) : BagOk z (upd H a o) where
  bg := fun p l e => by
    obtain ⟨ne, ns, at_, big, seed, cnt, e1, e2, r⟩ := b.bg p l e
    have n1 : p ≠ a := by rintro rfl; exact h (.inl ⟨p, l, e, .inl rfl⟩)
    have n2 : l ≠ a := by rintro rfl; exact h (.inl ⟨p, l, e, .inr rfl⟩)
    exact ⟨ne, ns, at_, big, seed, cnt, by rw [upd_ne n1]; exact e1, by rw [upd_ne n2]; exact e2, r⟩
  tb := fun P e => by
    obtain ⟨ps, h1, h2, h3⟩ := b.tb P e
    have n1 : P ≠ a := by rintro rfl; exact h (.inr e)
    refine ⟨ps, by rw [upd_ne n1]; exact h1, h2, fun pos cv hcv => ?_⟩
    obtain ⟨c, e1, e2⟩ := h3 pos cv hcv
    exact ⟨c, e1, by rw [upd_ne (show c ≠ a by rintro rfl; exact hc _ _ e2)]; exact e2⟩
  ap := b.ap
theorem ex_set {S : SS0} {i j : Nat} {x : Sl} {E : XK} {Ed : XD → Prop} (e : (S.set i x)[j]? = some (.ex E Ed)) (hx : ∀ E Ed, x ≠ .ex E Ed) : S[j]? = some (.ex E Ed) := by
  rw [List.getElem?_set] at e
  by_cases hij : i = j
  · subst hij
    rw [if_pos rfl] at e
    split at e
    · exact absurd (Option.some.inj e) (hx E Ed)
    · cases e
  · rwa [if_neg hij] at e
theorem zz_set {S : SS0} {i j : Nat} {x : Sl} {p : Bz → MS → Hp → Prop} (e : (S.set i x)[j]? = some (.zz p)) (hx : ∀ p, x ≠ .zz p) : S[j]? = some (.zz p) := by
  rw [List.getElem?_set] at e
  by_cases hij : i = j
  · subst hij
    rw [if_pos rfl] at e
    split at e
    · exact absurd (Option.some.inj e) (hx p)
    · cases e
  · rwa [if_neg hij] at e
theorem rs_set {S : SS0} {i j : Nat} {x : Sl} {as : List Addr} {φ : Bz → (Addr → Prop) → Hp → Prop} (e : (S.set i x)[j]? = some (.rs as φ)) (hx : ∀ as φ, x ≠ .rs as φ) : S[j]? = some (.rs as φ) := by
  rw [List.getElem?_set] at e
  by_cases hij : i = j
  · subst hij
    rw [if_pos rfl] at e
    split at e
    · exact absurd (Option.some.inj e) (hx as φ)
    · cases e
  · rwa [if_neg hij] at e
theorem rs_val {S : SS0} {i j : Nat} {d : D} {as : List Addr} {φ : Bz → (Addr → Prop) → Hp → Prop} (e : (S.set i (.val d))[j]? = some (.rs as φ)) : S[j]? = some (.rs as φ) := rs_set e fun _ _ q => by cases q
theorem rs_own {S : SS0} {i j : Nat} {d : D} {as : List Addr} {φ : Bz → (Addr → Prop) → Hp → Prop} (e : (S.set i (.own d))[j]? = some (.rs as φ)) : S[j]? = some (.rs as φ) := rs_set e fun _ _ q => by cases q
theorem ExOk.set {g : Gh} (e : ExOk g) {ow : Ix → Option Addr} {i : Nat} {x : Sl} (hx : ∀ E Ed, x ≠ .ex E Ed) (hz : ∀ p, x ≠ .zz p) : ExOk { g with ow := ow, S := g.S.set i x } := ⟨e.e0, e.em, e.ea, fun j E Ed q => e.el j E Ed (ex_set q hx), fun j p q => e.ez j p (zz_set q hz), e.en⟩
theorem ExOk.val {g : Gh} (e : ExOk g) {ow : Ix → Option Addr} {i : Nat} {d : D} : ExOk { g with ow := ow, S := g.S.set i (.val d) } := e.set (fun _ _ q => by cases q) fun _ q => by cases q
theorem ExOk.own {g : Gh} (e : ExOk g) {ow : Ix → Option Addr} {i : Nat} {d : D} : ExOk { g with ow := ow, S := g.S.set i (.own d) } := e.set (fun _ _ q => by cases q) fun _ q => by cases q
theorem ExOk.more {g : Gh} (e : ExOk g) {M1 : MS} (h : ∀ a, g.M0 a → M1 a) (hn : ∀ a, M1 a → g.M0 a ∨ g.X0 a = none) : ExOk { g with M0 := M1 } := ⟨e.e0, fun a q => h a (e.em a q), e.ea, e.el, e.ez, fun a q => (hn a q).elim (e.en a) .inr⟩
theorem Stt.alloc {g : Gh} {σ : St} {H : Hp} {p : Addr} {o : HO} (s : Stt g σ H) (hp : H p = none) : Stt g σ (upd H p o) := s.ext (.new hp) (s.bag.new hp)
theorem Stt.fresh {g : Gh} {σ : St} {H : Hp} {p : Addr} (s : Stt g σ H) (hp : H p = none) : ¬ g.M p := fun h => (s.alive p h).ne hp
/-- read, not kept -/
def Pk (g : Gh) (H : Hp) (v : V) (d : D) : Prop := Rp g.z g.M H v d ∨ ∃ a, v = .ref a ∧ (∃ i, g.ow i = some a) ∧ (¬ g.M0 a ∧ ¬ resB g.z a) ∧ Ow g.z g.M H a d
theorem Pk.ext {g : Gh} {H H' : Hp} {v : V} {d : D} (h : Pk g H v d) (x : Ext g.z H H') : Pk g H' v d := by
  rcases h with h | ⟨a, e, m, n, o⟩
  · exact .inl (h.ext x)
  · exact .inr ⟨a, e, m, n, o.tr x.trM fun o q => x a o q fun z => n.2 z.res⟩
theorem Pk.lst {g : Gh} {H : Hp} {v : V} {ds : List D} (h : Pk g H v (.lst ds)) : ∃ a xs, v = .ref a ∧ H a = some (.lst xs) ∧ RpL g.z g.M H xs ds := by
  rcases h with h | ⟨a, e, m, n, o⟩
  · cases h with | lst r _ l => exact ⟨_, _, rfl, r, l⟩
  · cases o with | lst r l => exact ⟨_, _, e, r, l⟩
theorem Pk.tup {g : Gh} {H : Hp} {v : V} {ds : List D} (h : Pk g H v (.tup ds)) : ∃ a xs, v = .ref a ∧ H a = some (.tup xs) ∧ RpL g.z g.M H xs ds := by
  rcases h with h | ⟨a, e, m, n, o⟩
  · cases h with | tup r _ l => exact ⟨_, _, rfl, r, l⟩
  · cases o
theorem Pk.int {g : Gh} {H : Hp} {v : V} {i : Int} (h : Pk g H v (.int i)) : v = .int i := by
  rcases h with h | ⟨a, e, m, n, o⟩
  · cases h; rfl
  · cases o
theorem Pk.bl {g : Gh} {H : Hp} {v : V} {i : Bool} (h : Pk g H v (.bl i)) : v = .bl i := by
  rcases h with h | ⟨a, e, m, n, o⟩
  · cases h; rfl
  · cases o
theorem Pk.str {g : Gh} {H : Hp} {v : V} {i : List Nat} (h : Pk g H v (.str i)) : v = .str (S2 i) := by
  rcases h with h | ⟨a, e, m, n, o⟩
  · cases h; rfl
  · cases o
theorem Pk.non {g : Gh} {H : Hp} {v : V} (h : Pk g H v .non) : v = .non := by
  rcases h with h | ⟨a, e, m, n, o⟩
  · cases h; rfl
  · cases o
theorem Pk.raw {g : Gh} {H : Hp} {v u : V} (h : Pk g H v (.raw u)) : v = u := by
  rcases h with h | ⟨a, e, m, n, o⟩
  · cases h; rfl
  · cases o
abbrev SS := List Sl
abbrev TDE := SS → (D → Prop) → Prop
abbrev TDT := SS → (Bool → Prop) → Prop
abbrev TDA := SS → (List D → Prop) → Prop
structure EndsD where
  nx : SS → Prop
  rt : D → Prop
  rf : D → Prop
  bk : SS → Prop := fun _ => False
  ct : SS → Prop := fun _ => False
  rg : List D → Prop := fun _ => False
abbrev TDS := EndsD → SS → Prop
/-- kept values; read values; new objects; tests; arguments -/
def lE (t : TDE) : TE := fun σ H Q => ∃ (g : Gh) (Qd : D → Prop), Stt g σ H ∧ t g.S Qd ∧ ∀ d v H', Qd d → Ext g.z H H' → Stt g σ H' → Rp g.z g.M H' v d → Q v H'
def lP (t : TDE) : TE := fun σ H Q => ∃ (g : Gh) (Qd : D → Prop), Stt g σ H ∧ t g.S Qd ∧ ∀ d v H', Qd d → Ext g.z H H' → Stt g σ H' → Pk g H' v d → Q v H'
def OwF (z : Bz) (M : MS) (H : Hp) (a : Addr) (d : D) : Prop := Ow z (fun b => M b ∨ b = a) H a d
def lF (t : TDE) : TE := fun σ H Q => ∃ (g : Gh) (Qd : D → Prop), Stt g σ H ∧ t g.S Qd ∧ ∀ d a H', Qd d → Ext g.z H H' → Stt g σ H' → H a = none → ¬ g.M a → OwF g.z g.M H' a d → Q (.ref a) H'
def lT (t : TDT) : TT := fun σ H Q => ∃ (g : Gh) (Qd : Bool → Prop), Stt g σ H ∧ t g.S Qd ∧ ∀ b H', Qd b → Ext g.z H H' → Stt g σ H' → Q b H'
def lA (t : TDA) : TA := fun σ H Q => ∃ (g : Gh) (Qd : List D → Prop), Stt g σ H ∧ t g.S Qd ∧ ∀ ds vs H', Qd ds → Ext g.z H H' → Stt g σ H' → RpL g.z g.M H' vs ds → Q vs H'
/-- a new tuple of new things, all owned -/
structure FrG (z : Bz) (M : MS) (H0 H : Hp) (p : Addr) (as : List Addr) (ds : List D) : Prop where
  at_ : H p = some (.tup (as.map .ref))
  nd : (p :: as).Nodup
  fr : ∀ a ∈ p :: as, H0 a = none ∧ ¬ M a
  len : as.length = ds.length
  ow : ∀ (i : Nat) (a : Addr) (d : D), as[i]? = some a → ds[i]? = some d → Ow z (fun b => M b ∨ b ∈ p :: as) H a d
structure LE (g : Gh) (De : EndsD) (D : Ends) : Prop where
  nx : ∀ (ow : Ix → Option Addr) (S : SS) σ H, Stt { g with ow := ow, S := S } σ H → De.nx S → D.nx σ H
  bk : ∀ (ow : Ix → Option Addr) (S : SS) σ H, Stt { g with ow := ow, S := S } σ H → De.bk S → D.bk σ H
  ct : ∀ (ow : Ix → Option Addr) (S : SS) σ H, Stt { g with ow := ow, S := S } σ H → De.ct S → D.ct σ H
  rt : ∀ d v H, De.rt d → Ext g.z g.H0 H → BagOk g.z H → Rp g.z (Mo g.M0 g.z fun _ => none) H v d → D.rt v H
  rf : ∀ d a H, De.rf d → Ext g.z g.H0 H → BagOk g.z H → g.H0 a = none → ¬ Mo g.M0 g.z (fun _ => none) a → OwF g.z (Mo g.M0 g.z fun _ => none) H a d → D.rt (.ref a) H
  rg : ∀ ds p as H, De.rg ds → Ext g.z g.H0 H → BagOk g.z H → FrG g.z (Mo g.M0 g.z fun _ => none) g.H0 H p as ds → D.rt (.ref p) H
def lS (t : TDS) : TS := fun D σ H => ∃ (g : Gh) (De : EndsD), Stt g σ H ∧ t De g.S ∧ LE g De D
theorem PE.imp {X : Cx} {e : Expr} {t t' : TE} (h : PE X e t) (i : ∀ σ H Q, t' σ H Q → t σ H Q) : PE X e t' := ⟨fun pins s σ H Q I w => h.run pins s σ H Q I (i _ _ _ w)⟩
theorem PT.imp {X : Cx} {e : Expr} {t t' : TT} (h : PT X e t) (i : ∀ σ H Q, t' σ H Q → t σ H Q) : PT X e t' := ⟨fun pins s σ H Q I w => h.run pins s σ H Q I (i _ _ _ w)⟩
theorem PW.imp {X : Cx} {e : Expr} {t t' : TT} (h : PW X e t) (i : ∀ σ H Q, t' σ H Q → t σ H Q) : PW X e t' := ⟨fun wh pins s σ H Q I w => h.run wh pins s σ H Q I (i _ _ _ w)⟩
theorem PA.imp {X : Cx} {e : List Expr} {t t' : TA} (h : PA X e t) (i : ∀ σ H Q, t' σ H Q → t σ H Q) : PA X e t' := ⟨fun pos pins s σ H Q I w => h.run pos pins s σ H Q I (i _ _ _ w)⟩
theorem PS.imp {X : Cx} {e : Stmt} {t t' : TS} (h : PS X e t) (i : ∀ D σ H, t' D σ H → t D σ H) : PS X e t' := ⟨fun pins s σ H D I w => h.run pins s σ H D I (i _ _ _ w)⟩
theorem PSs.imp {X : Cx} {e : List Stmt} {t t' : TS} (h : PSs X e t) (i : ∀ D σ H, t' D σ H → t D σ H) : PSs X e t' := ⟨fun pins s σ H D I w => h.run pins s σ H D I (i _ _ _ w)⟩
theorem PE.or {X : Cx} {e : Expr} {t t' : TE} (h : PE X e t) (h' : PE X e t') : PE X e (fun σ H Q => t σ H Q ∨ t' σ H Q) := ⟨fun pins s σ H Q I w => w.elim (fun w => h.run pins s σ H Q I w) fun w => h'.run pins s σ H Q I w⟩
section
variable {X : Cx} {e : Expr} {t : TDE}
/-- a kept value, a new object: read -/
theorem PE.toP (h : PE X e (lE t)) : PE X e (lP t) := PE.imp h fun σ H Q ⟨g, Qd, s, w, k⟩ => ⟨g, Qd, s, w, fun d v H' q x s' r => k d v H' q x s' (.inl r)⟩
theorem Ow.keepE {g : Gh} {H : Hp} {a : Addr} {d : D} (o : Ow g.z g.M H a d) (n : ¬ g.M a) : Rp g.z g.M H (.ref a) d := o.rp (Tr.of fun _ _ n e => ⟨e, n⟩) n
/-- a new thing, its items apart from it -/
theorem OwF.keepE {g : Gh} {H : Hp} {a : Addr} {d : D} (o : OwF g.z g.M H a d) (n : ¬ g.M a) : Rp g.z g.M H (.ref a) d := Ow.rp o (Tr.of fun _ _ n e => ⟨e, fun q => n (.inl q)⟩) n
theorem PE.toE (h : PE X e (lF t)) : PE X e (lE t) := PE.imp h fun σ H Q ⟨g, Qd, s, w, k⟩ => ⟨g, Qd, s, w, fun d a H' q x s' hn nm o => k d (.ref a) H' q x s' (o.keepE nm)⟩
end
end L2.DL
namespace L2.DL
open PySem PySem.Spec PyProof.Rows
section
variable {z : Bz} {M : MS} {H : Hp}
theorem RpL.length : ∀ {vs : List V} {ds : List D}, RpL z M H vs ds → vs.length = ds.length
  | _, _, .nil => rfl
  | _, _, .cons _ b => by rw [List.length_cons, List.length_cons, b.length]
theorem RpL.get : ∀ {vs : List V} {ds : List D} {i : Nat} {d : D}, RpL z M H vs ds → ds[i]? = some d → ∃ v, vs[i]? = some v ∧ Rp z M H v d
  | _, _, i, _, .nil, e => by simp at e
  | _, _, 0, _, .cons a _, e => by simp at e; subst e; exact ⟨_, rfl, a⟩
  | _, _, i + 1, d, .cons _ b, e => by
    obtain ⟨v, h1, h2⟩ := RpL.get (i := i) (d := d) b (by simpa using e)
    exact ⟨v, by simpa using h1, h2⟩
theorem RpL.getV : ∀ {vs : List V} {ds : List D} {i : Nat} {v : V}, RpL z M H vs ds → vs[i]? = some v → ∃ d, ds[i]? = some d ∧ Rp z M H v d
  | _, _, i, _, .nil, e => by simp at e
  | _, _, 0, _, .cons a _, e => by simp at e; subst e; exact ⟨_, rfl, a⟩
  | _, _, i + 1, d, .cons _ b, e => by
    obtain ⟨v, h1, h2⟩ := RpL.getV (i := i) (v := d) b (by simpa using e)
    exact ⟨v, by simpa using h1, h2⟩
theorem RpL.append : ∀ {vs vs' : List V} {ds ds' : List D}, RpL z M H vs ds → RpL z M H vs' ds' → RpL z M H (vs ++ vs') (ds ++ ds')
  | _, _, _, _, .nil, s => s
  | _, _, _, _, .cons a b, s => .cons a (b.append s)
theorem RpL.one {v : V} {d : D} (h : Rp z M H v d) : RpL z M H [v] [d] := .cons h .nil
theorem RpL.take : ∀ {vs : List V} {ds : List D} (n : Nat), RpL z M H vs ds → RpL z M H (vs.take n) (ds.take n)
  | _, _, 0, _ => by simp; exact .nil
  | _, _, n + 1, .nil => by simp; exact .nil
  | _, _, n + 1, .cons a b => by simp; exact .cons a (b.take n)
theorem RpL.drop : ∀ {vs : List V} {ds : List D} (n : Nat), RpL z M H vs ds → RpL z M H (vs.drop n) (ds.drop n)
  | _, _, 0, h => by simp; exact h
  | _, _, n + 1, .nil => by simp; exact .nil
  | _, _, n + 1, .cons a b => by simp; exact b.drop n
theorem RpL.set : ∀ {vs : List V} {ds : List D} {v : V} {d : D} (n : Nat), RpL z M H vs ds → Rp z M H v d → RpL z M H (vs.set n v) (ds.set n d)
  | _, _, _, _, 0, .nil, h => by simp; exact .nil
  | _, _, _, _, n + 1, .nil, h => by simp; exact .nil
  | _, _, _, _, 0, .cons a b, h => by simp; exact .cons h b
  | _, _, _, _, n + 1, .cons a b, h => by simp; exact .cons a (b.set n h)
theorem RpL.reverse : ∀ {vs : List V} {ds : List D}, RpL z M H vs ds → RpL z M H vs.reverse ds.reverse
  | _, _, .nil => by simp; exact .nil
  | _, _, .cons a b => by simp; exact b.reverse.append (.one a)
theorem RpL.rep : ∀ {vs : List V} {ds : List D} (n : Nat), RpL z M H vs ds → RpL z M H (List.replicate n vs).flatten (List.replicate n ds).flatten
  | _, _, 0, _ => by simp; exact .nil
  | _, _, n + 1, h => by rw [List.replicate_succ, List.replicate_succ, List.flatten_cons, List.flatten_cons]; exact h.append (h.rep n)
theorem RpL.ints : ∀ {vs : List V} {ns : List Int}, RpL z M H vs (ns.map D.int) → vs = ns.map V.int
  | _, [], .nil => rfl
  | _, n :: ns, .cons a b => by cases a; rw [b.ints]; rfl
theorem RpL.strs : ∀ {vs : List V} {ns : List (List Nat)}, RpL z M H vs (ns.map D.str) → vs = (ns.map S2).map V.str
  | _, [], .nil => rfl
  | _, n :: ns, .cons a b => by cases a; rw [b.strs]; rfl
theorem RpL.of_ints : ∀ (ns : List Int), RpL z M H (ns.map V.int) (ns.map D.int)
  | [] => .nil
  | n :: ns => .cons (.int n) (RpL.of_ints ns)
theorem RpL.of_strs : ∀ (ns : List (List Nat)), RpL z M H ((ns.map S2).map V.str) (ns.map D.str)
  | [] => .nil
  | n :: ns => .cons (.str n) (RpL.of_strs ns)
end
def cut {α : Type} (xs : List α) (lo hi : Option Int) : List α := (xs.drop (HT.sIx xs.length 0 lo)).take (HT.sIx xs.length xs.length hi - HT.sIx xs.length 0 lo)
theorem RpL.cut {z : Bz} {M : MS} {H : Hp} {vs : List V} {ds : List D} (h : RpL z M H vs ds) (lo hi : Option Int) : RpL z M H (cutV vs lo hi) (cut ds lo hi) := by
  unfold cutV DL.cut
  rw [h.length]
  exact (h.drop _).take _
theorem RpL.atI {z : Bz} {M : MS} {H : Hp} {vs : List V} {ds : List D} {i : Int} {d : D} (h : RpL z M H vs ds) (e : atI ds i = some d) : ∃ v, L2.atI vs i = some v ∧ Rp z M H v d := by
  unfold L2.atI at e ⊢
  rw [h.length]
  cases q : ixN ds.length i with
  | none => rw [q] at e; simp at e
  | some j =>
    rw [q] at e
    obtain ⟨v, h1, h2⟩ := h.get (i := j) (d := d) (by simpa using e)
    exact ⟨v, by simpa using h1, h2⟩
def RetE (g : Gh) (σ : St) (H : Hp) (Qd : D → Prop) (Q : VK) : Prop := ∀ d v H', Qd d → Ext g.z H H' → Stt g σ H' → Rp g.z g.M H' v d → Q v H'
def RetF (g : Gh) (σ : St) (H : Hp) (Qd : D → Prop) (Q : VK) : Prop := ∀ d a H', Qd d → Ext g.z H H' → Stt g σ H' → H a = none → ¬ g.M a → OwF g.z g.M H' a d → Q (.ref a) H'
theorem RetE.F {g : Gh} {σ : St} {H : Hp} {Qd : D → Prop} {Q : VK} (h : RetE g σ H Qd Q) : RetF g σ H Qd Q := fun d a H' q x s n m o => h d (.ref a) H' q x s (o.keepE m)
/-- a value here -/
theorem RetE.here {g : Gh} {σ : St} {H : Hp} {Qd : D → Prop} {Q : VK} {d : D} {v : V} (h : RetE g σ H Qd Q) (s : Stt g σ H) (q : Qd d) (r : Rp g.z g.M H v d) : Q v H := h d v H q .refl s r
/-- a new list -/
theorem Tr.new {M : MS} {H : Hp} {p : Addr} {o : HO} (hp : H p = none) : Tr M H (fun b => M b ∨ b = p) (upd H p o) := Tr.of fun a u n e => by
  have ne := ne_of_none e hp
  exact ⟨by rw [upd_ne ne]; exact e, fun q => q.elim n ne⟩
theorem RetF.lst {g : Gh} {σ : St} {H : Hp} {Qd : D → Prop} {Q : VK} {xs : List V} {ds : List D} {p : Addr} (h : RetF g σ H Qd Q) (s : Stt g σ H) (hp : H p = none) (q : Qd (.lst ds)) (r : RpL g.z g.M H xs ds) : Q (.ref p) (upd H p (.lst xs)) :=
  h (.lst ds) p _ q (.new hp) (s.alloc hp) hp (s.fresh hp) (.lst upd_same (r.tr (.new hp)))
theorem RetE.tup {g : Gh} {σ : St} {H : Hp} {Qd : D → Prop} {Q : VK} {xs : List V} {ds : List D} {p : Addr} (h : RetE g σ H Qd Q) (s : Stt g σ H) (hp : H p = none) (q : Qd (.tup ds)) (r : RpL g.z g.M H xs ds) : Q (.ref p) (upd H p (.tup xs)) :=
  h (.tup ds) _ _ q (.new hp) (s.alloc hp) (.tup upd_same (s.fresh hp) (r.ext (.new hp)))
section
variable {X : Cx} {pos : Pos}
def dVar (i : Nat) : TDE := fun S Q => ∃ d, S[i]? = some (.val d) ∧ Q d
def dPeek (i : Nat) : TDE := fun S Q => ∃ d, (S[i]?).bind Sl.dat = some d ∧ Q d
def dC (d : D) : TDE := fun _ Q => Q d
theorem de_var {e : Expr} {i : Nat} (h : PE X e (tVar i)) : PE X e (lE (dVar i)) := PE.imp h fun σ H Q ⟨g, Qd, s, ⟨d, e1, q⟩, k⟩ => by
  obtain ⟨v, e2, r⟩ := s.val i d e1
  exact ⟨v, e2, k d v H q .refl s r⟩
theorem dp_var {e : Expr} {i : Nat} (h : PE X e (tVar i)) : PE X e (lP (dPeek i)) := PE.imp h fun σ H Q ⟨g, Qd, s, ⟨d, e1, q⟩, k⟩ => by
  cases e0 : g.S[i]? with
  | none => rw [e0] at e1; simp at e1
  | some w =>
    rw [e0] at e1
    cases w with
    | no => simp [Sl.dat] at e1
    | ex _ _ => simp [Sl.dat] at e1
    | zz _ => simp [Sl.dat] at e1
    | rs _ _ => simp [Sl.dat] at e1
    | val d' =>
      simp [Sl.dat] at e1
      subst e1
      obtain ⟨v, e2, r⟩ := s.val i d' e0
      exact ⟨v, e2, k d' v H q .refl s (.inl r)⟩
    | own d' =>
      simp [Sl.dat] at e1
      subst e1
      obtain ⟨a, e2, e3, r⟩ := s.own i d' e0
      exact ⟨.ref a, e2, k d' (.ref a) H q .refl s (.inr ⟨a, rfl, ⟨i, e3⟩, (s.new i a e3).2, r⟩)⟩
theorem de_C {e : Expr} {v : V} {d : D} (h : PE X e (tC v)) (r : ∀ z M H, Rp z M H v d) : PE X e (lE (dC d)) := PE.imp h fun σ H Q ⟨g, Qd, s, q, k⟩ => k d v H q .refl s (r _ _ _)
theorem de_int {i : Int} {j : Nat} : PE X (.Constant (.int i) j pos) (lE (dC (.int i))) := de_C pe_int fun _ _ _ => .int i
theorem de_str {i : Str} {j : Nat} : PE X (.Constant (.str i) j pos) (lE (dC (.str i.cps.toList))) := de_C pe_str fun _ _ _ => .str i.cps.toList
theorem de_bl {i : Bool} {j : Nat} : PE X (.Constant (.bool i) j pos) (lE (dC (.bl i))) := de_C pe_bl fun _ _ _ => .bl i
theorem de_non {j : Nat} : PE X (.Constant .none j pos) (lE (dC .non)) := de_C pe_non fun _ _ _ => .non
variable {a b : Expr} {ta tb : TDE}
abbrev RD2 := D → D → (D → Prop) → Prop
def Real2 (r : R2) (R : RD2) : Prop := ∀ (g : Gh) (σ : St) (H : Hp) (x y : V) (d e : D) (Qd : D → Prop) (Q : VK), Stt g σ H → Pk g H x d → Pk g H y e → R d e Qd → RetE g σ H Qd Q → r x y H Q
def d2 (R : RD2) (ta tb : TDE) : TDE := fun S Q => ta S fun x => tb S fun y => R x y Q
theorem lift2 {r : R2} {R : RD2} (hr : Real2 r R) {e : Expr} (h : PE X e (tOp r (lP ta) (lP tb))) : PE X e (lE (d2 R ta tb)) := PE.imp h fun σ H Q ⟨g, Qd, s, w, k⟩ =>
  ⟨g, _, s, w, fun d v H1 w1 x1 s1 r1 => ⟨g, _, s1, w1, fun d2 v2 H2 w2 x2 s2 r2 =>
    hr g σ H2 v v2 d d2 Qd Q s2 (r1.ext x2) r2 w2 fun d' v' H' q x s' r => k d' v' H' q ((x1.trans x2).trans x) s' r⟩⟩
theorem de_op {op : Operator} {r : R2} {R : RD2} (ho : OpR X (binaryOp op) r) (hr : Real2 r R) (ha : PE X a (lP ta)) (hb : PE X b (lP tb)) : PE X (.BinOp a op b pos) (lE (d2 R ta tb)) := lift2 hr (pe_op ho ha hb)
theorem de_cmp {op : CmpOp} {r : R2} {R : RD2} (ho : OpR X (compareOp op) r) (hr : Real2 r R) (ha : PE X a (lP ta)) (hb : PE X b (lP tb)) (hm : behindInMarks op b = false := by first | exact nomark _ | rfl) : PE X (.Compare a [op] [b] pos) (lE (d2 R ta tb)) := lift2 hr (pe_cmpR ho ha hb hm)
theorem de_ix {r : R2} {R : RD2} (ho : IxR X r) (hr : Real2 r R) (ha : PE X a (lP ta)) (hb : PE X b (lP tb)) (hs : PlainIx b := by exact fun _ _ => rfl) : PE X (.Subscript a b pos) (lE (d2 R ta tb)) := lift2 hr (pe_ix ho ha hb hs)
theorem S2_append (x y : List Nat) : S2 x ++ S2 y = S2 (x ++ y) := by
  show (⟨x.toArray ++ y.toArray⟩ : Str) = ⟨(x ++ y).toArray⟩
  simp
theorem S2_length (x : List Nat) : (S2 x).length = x.length := by simp [Str.length]
def rAddD : RD2
  | .int i, .int j, Q => Q (.int (i + j))
  | .str x, .str y, Q => x.length + y.length ≤ sizeLine ∧ Q (.str (x ++ y))
  | .lst x, .lst y, Q => x.length + y.length ≤ sizeLine ∧ Q (.lst (x ++ y))
  | .tup x, .tup y, Q => x ≠ [] ∧ x.length + y.length ≤ sizeLine ∧ Q (.tup (x ++ y))
  | _, _, _ => False
def opAdd (K : PySem.W.Frag) : R2 := fun x y H Q => ((rI0 fun i j => .int (i + j)) x y H Q ∨ (∃ i j, x = .str i ∧ y = .str j ∧ i.length + j.length ≤ sizeLine ∧ Q (.str (i ++ j)) H)) ∨ (rCat x y H Q ∨ rCatT K x y H Q)
theorem op_addAll : OpR X (binaryOp .Add) (opAdd X.K) := OpR.or (OpR.or op_add op_add_str) (OpR.or op_cat op_catT)
theorem real_add {K : PySem.W.Frag} : Real2 (opAdd K) rAddD := by
  intro g σ H x y d e Qd Q s hx hy w k
  cases d <;> cases e <;> try exact w.elim
  · cases hx.int; cases hy.int
    exact .inl (.inl ⟨_, _, rfl, rfl, k.here s w (.int _)⟩)
  · cases hx.str; cases hy.str
    exact .inl (.inr ⟨_, _, rfl, rfl, by simpa [Str.length] using w.1, k.here s w.2 (by rw [S2_append]; exact .str _)⟩)
  · obtain ⟨p, xs, rfl, h1, l1⟩ := hx.lst
    obtain ⟨q, ys, rfl, h2, l2⟩ := hy.lst
    exact .inr (.inl ⟨_, _, _, _, rfl, rfl, h1, h2, by rw [l1.length, l2.length]; exact w.1, fun p hp => k.F.lst s hp w.2 (l1.append l2)⟩)
  · obtain ⟨p, xs, rfl, h1, l1⟩ := hx.tup
    obtain ⟨q, ys, rfl, h2, l2⟩ := hy.tup
    refine .inr (.inr ⟨_, _, _, _, rfl, rfl, .of h1, .of h2, ?_, by rw [l1.length, l2.length]; exact w.2.1, fun hy0 => ?_, fun _ p hp => k.tup s hp w.2.2 (l1.append l2)⟩)
    · intro e
      subst e
      cases l1
      exact w.1 rfl
    · subst hy0
      cases l2
      have q := w.2.2
      rw [List.append_nil] at q
      rcases hx with hx | ⟨a, e, _, _, o⟩
      · exact k.here s q hx
      · cases o
theorem de_add (ha : PE X a (lP ta)) (hb : PE X b (lP tb)) : PE X (.BinOp a .Add b pos) (lE (d2 rAddD ta tb)) := de_op op_addAll real_add ha hb
end
end L2.DL
namespace L2.DL
open PySem PySem.Spec PyProof.Rows
mutual
def toPy : D → PyData
  | .non => .none
  | .bl b => .bool b
  | .int i => .int i
  | .str s => .str (S2 s)
  | .lst xs => .list (toPyL xs)
  | .tup xs => .tuple (toPyL xs)
  | .dic _ _ _ _ => .none
  | .ins _ _ _ => .none
  | .raw _ => .none
  | .bag => .none
  | .clo _ => .none
def toPyL : List D → List PyData
  | [] => []
  | x :: xs => toPy x :: toPyL xs
end
mutual
def plainD : D → Bool
  | .non => true
  | .bl _ => true
  | .int _ => true
  | .str s => s.all (· < 0x110000)
  | .lst xs => plainL xs
  | .tup xs => plainL xs
  | .dic _ _ _ _ => false
  | .ins _ _ _ => false
  | .raw _ => false
  | .bag => false
  | .clo _ => false
def plainL : List D → Bool
  | [] => true
  | x :: xs => plainD x && plainL xs
end
mutual
def dep : D → Nat
  | .lst xs => depL xs + 1
  | .tup xs => depL xs + 1
  | _ => 0
def depL : List D → Nat
  | [] => 0
  | x :: xs => max (dep x) (depL xs)
end
mutual
theorem toPy_lay : ∀ d : D, plainD d = true → (toPy d).canLay0 = true
  | .non, _ => rfl
  | .bl _, _ => rfl
  | .int _, _ => rfl
  | .str s, h => by
    simp only [toPy, PyData.canLay0, PyData.strOk]
    simpa [plainD] using h
  | .lst xs, h => by simp only [toPy, PyData.canLay0]; exact toPyL_lay xs (by simpa [plainD] using h)
  | .tup xs, h => by simp only [toPy, PyData.canLay0]; exact toPyL_lay xs (by simpa [plainD] using h)
  | .dic _ _ _ _, h => by simp [plainD] at h
  | .ins _ _ _, h => by simp [plainD] at h
  | .raw _, h => by simp [plainD] at h
  | .bag, h => by simp [plainD] at h
  | .clo _, h => by simp [plainD] at h
theorem toPyL_lay : ∀ d : List D, plainL d = true → PyData.canLayAll0 (toPyL d) = true
  | [], _ => rfl
  | x :: xs, h => by
    have h' : plainD x = true ∧ plainL xs = true := by simpa [plainL] using h
    simp only [toPyL, PyData.canLayAll0, toPy_lay x h'.1, toPyL_lay xs h'.2, Bool.and_self]
end
mutual
theorem toPy_dep : ∀ d : D, (toPy d).depth = dep d
  | .non => by simp [toPy, PyData.depth, dep]
  | .bl _ => by simp [toPy, PyData.depth, dep]
  | .int _ => by simp [toPy, PyData.depth, dep]
  | .str s => by simp [toPy, PyData.depth, dep]
  | .lst xs => by simp only [toPy, PyData.depth, dep, toPyL_dep xs]
  | .tup xs => by simp only [toPy, PyData.depth, dep, toPyL_dep xs]
  | .dic _ _ _ _ => by simp [toPy, PyData.depth, dep]
  | .ins _ _ _ => by simp [toPy, PyData.depth, dep]
  | .raw _ => by simp [toPy, PyData.depth, dep]
  | .bag => by simp [toPy, PyData.depth, dep]
  | .clo _ => by simp [toPy, PyData.depth, dep]
theorem toPyL_dep : ∀ d : List D, PyData.depthAll (toPyL d) = depL d
  | [] => by simp [toPyL, PyData.depthAll, depL]
  | x :: xs => by simp only [toPyL, PyData.depthAll, depL, toPy_dep x, toPyL_dep xs]
end
mutual
theorem Rp.dp {z : Bz} {M : MS} {H : Hp} {K : PySem.W.Frag} : ∀ {v : V} {d : D}, Rp z M H v d → plainD d = true → Dp K H v (toPy d)
  | _, _, .non, _ => .non
  | _, _, .bl b, _ => .bl b
  | _, _, .int b, _ => .int b
  | _, _, .str b, _ => .str _
  | _, _, .lst r n l, h => .lst (.of r) (l.dp (by simpa [plainD] using h))
  | _, _, .tup r n l, h => .tup (.of r) (l.dp (by simpa [plainD] using h))
  | _, _, .dicK r n l, h => by simp [plainD] at h
  | _, _, .dicT r n l, h => by simp [plainD] at h
  | _, _, .ins r q n l, h => by simp [plainD] at h
  | _, _, .slf r n l, h => by simp [plainD] at h
  | _, _, .raw v, h => by simp [plainD] at h
  | _, _, .bag e, h => by simp [plainD] at h
  | _, _, .clo e, h => by simp [plainD] at h
theorem RpL.dp {z : Bz} {M : MS} {H : Hp} {K : PySem.W.Frag} : ∀ {v : List V} {d : List D}, RpL z M H v d → plainL d = true → DpAll K H v (toPyL d)
  | _, _, .nil, _ => .nil
  | _, _, .cons a b, h => by
    simp [plainL] at h
    exact .cons (a.dp h.1) (b.dp h.2)
end
theorem Pk.dp {g : Gh} {H : Hp} {K : PySem.W.Frag} {v : V} {d : D} (h : Pk g H v d) (p : plainD d = true) : Dp K H v (toPy d) := by
  rcases h with h | ⟨a, rfl, _, _, o⟩
  · exact h.dp p
  · cases o with
    | lst r l => exact .lst (.of r) (l.dp (by simpa [plainD] using p))
    | dicK => simp [plainD] at p
    | dicT => simp [plainD] at p
    | ins => simp [plainD] at p
    | slf => simp [plainD] at p
def okD (d : D) : Bool := plainD d && decide (dep d ≤ 64)
theorem okD.shaped {d : D} (h : okD d = true) : SeqAt.shaped (toPy d) = true := by
  unfold okD at h
  simp at h
  unfold SeqAt.shaped
  rw [toPy_lay d h.1, toPy_dep d]
  simpa using h.2
theorem okD.plain {d : D} (h : okD d = true) : plainD d = true := by
  unfold okD at h
  simp at h
  exact h.1
def deqv (d e : D) : Bool := PyData.eqv (toPy d) (toPy e)
def deqvL (d e : List D) : Bool := PyData.eqvAll (toPyL d) (toPyL e)
section
variable {X : Cx} {pos : Pos} {a b c : Expr} {ta tb tc : TDE}
def rEqDD : RD2 := fun d e Q => okD d = true ∧ okD e = true ∧ Q (.bl (deqv d e))
def rNeDD : RD2 := fun d e Q => okD d = true ∧ okD e = true ∧ Q (.bl (!deqv d e))
theorem real_eq {K : PySem.W.Frag} : Real2 (rEqD K) rEqDD := fun g σ H x y d e Qd Q s hx hy w k => ⟨_, _, hx.dp (okD.plain w.1), hy.dp (okD.plain w.2.1), okD.shaped w.1, okD.shaped w.2.1, k.here s w.2.2 (.bl _)⟩
theorem real_ne {K : PySem.W.Frag} : Real2 (rNeD K) rNeDD := fun g σ H x y d e Qd Q s hx hy w k => ⟨_, _, hx.dp (okD.plain w.1), hy.dp (okD.plain w.2.1), okD.shaped w.1, okD.shaped w.2.1, k.here s w.2.2 (.bl _)⟩
theorem de_eq (hu : X.A.units + 64 < cLine) (ha : PE X a (lP ta)) (hb : PE X b (lP tb)) : PE X (.Compare a [.Eq] [b] pos) (lE (d2 rEqDD ta tb)) := de_cmp (op_eqD hu) real_eq ha hb
theorem de_ne (hu : X.A.units + 64 < cLine) (ha : PE X a (lP ta)) (hb : PE X b (lP tb)) : PE X (.Compare a [.NotEq] [b] pos) (lE (d2 rNeDD ta tb)) := de_cmp (op_neD hu) real_ne ha hb
def rII (C : Int → Int → Prop) (f : Int → Int → D) : RD2
  | .int i, .int j, Q => C i j ∧ Q (f i j)
  | _, _, _ => False
theorem real_ii0 {f : Int → Int → Int} : Real2 (rI0 fun i j => .int (f i j)) (rII (fun _ _ => True) fun i j => .int (f i j)) := by
  intro g σ H x y d e Qd Q s hx hy w k
  cases d <;> cases e <;> try exact w.elim
  cases hx.int; cases hy.int
  exact ⟨_, _, rfl, rfl, k.here s w.2 (.int _)⟩
theorem de_sub (ha : PE X a (lP ta)) (hb : PE X b (lP tb)) : PE X (.BinOp a .Sub b pos) (lE (d2 (rII (fun _ _ => True) fun i j => .int (i - j)) ta tb)) := de_op op_sub real_ii0 ha hb
def repL {α : Type} (n : Int) (xs : List α) : List α := (List.replicate n.toNat xs).flatten
theorem repL_length {α : Type} (n : Int) (xs : List α) : (repL n xs).length = n.toNat * xs.length := by
  unfold repL
  simp [List.length_flatten, List.map_replicate, List.sum_replicate_nat]
def rStrMul : R2 := fun x y H Q => ∃ i n, x = .str i ∧ y = .int n ∧ 0 ≤ n ∧ n < 2 ^ 62 ∧ i.length * n.toNat ≤ sizeLine ∧ Q (.str ⟨((List.replicate n.toNat i.cps.toList).flatten).toArray⟩) H
theorem foldl_app (a : Array Nat) (l : List (Array Nat)) : (l.foldl (· ++ ·) a).toList = a.toList ++ (l.map (·.toList)).flatten := by
  induction l generalizing a with
  | nil => simp
  | cons x r ih => simp [ih]
theorem op_mul_str : OpR X (binaryOp .Mult) rStrMul := by
  intro pins s σ H x y v u Q I rx ry h
  obtain ⟨i, n, rfl, rfl, h0, h1, hz, q⟩ := h
  obtain ⟨t, rfl⟩ := rx
  obtain ⟨t', rfl⟩ := ry
  have hline : sizeLine = 16777216 := sizeLine_eq
  have q' : Q (.str (Txt.mul i n)) H := by
    have e : Txt.mul i n = ⟨((List.replicate n.toNat i.cps.toList).flatten).toArray⟩ := by
      unfold Txt.mul
      by_cases c1 : n < 1
      · rw [if_pos c1]
        have : n.toNat = 0 := by omega
        rw [this]; rfl
      · rw [if_neg c1]
        by_cases c2 : (n == 1 || i.length == 0) = true
        · rw [if_pos c2]
          rcases (Bool.or_eq_true _ _).mp c2 with c | c
          · have : n = 1 := by simpa using c
            subst this
            simp
          · have c' : i.cps.toList = [] := by
              have c0 : i.cps.size = 0 := by simpa [Str.length] using c
              exact List.eq_nil_of_length_eq_zero (by simpa using c0)
            have e2 : (List.replicate n.toNat i.cps.toList).flatten = [] := by rw [c']; simp
            rw [e2]
            have : i = S2 i.cps.toList := rfl
            rw [this, c']
        · rw [if_neg c2]
          congr 1
          apply Array.toList_inj.mp
          rw [foldl_app]
          simp
    rw [e]; exact q
  refine SB.mul ⟨?_, fun c1 c2 => ?_, fun c1 c2 => ?_⟩ fun t' k => ⟨.str _, H, I.tok _, ⟨_, rfl⟩, q'⟩
  · rw [decide_eq_false (by omega), decide_eq_false (by omega)]; rfl
  · have hn : 0 < n := by omega
    intro hgt
    have h3 : (2 ^ 63 - 1) / n < (i.length : Int) := hgt
    have h4 : (2 ^ 63 - 1 : Int) < i.length * n := by
      have := (Int.ediv_lt_iff_lt_mul hn).mp h3
      exact this
    have h5 : (i.length : Int) * n = ((i.length * n.toNat : Nat) : Int) := by
      rw [Int.natCast_mul, Int.toNat_of_nonneg h0]
    rw [h5] at h4
    rw [hline] at hz
    omega
  · exact decide_eq_false (by omega)
def rMulD : RD2
  | .int i, .int j, Q => CMul i j ∧ Q (.int (i * j))
  | .str x, .int n, Q => (0 ≤ n ∧ n < 2 ^ 62 ∧ x.length * n.toNat ≤ sizeLine) ∧ Q (.str (repL n x))
  | .lst x, .int n, Q => (0 ≤ n ∧ n < 2 ^ 62 ∧ x.length * n.toNat ≤ sizeLine) ∧ Q (.lst (repL n x))
  | _, _, _ => False
def opMul : R2 := fun x y H Q => (rI CMul fun i j => .int (i * j)) x y H Q ∨ (rStrMul x y H Q ∨ rRep x y H Q)
theorem op_mulAll : OpR X (binaryOp .Mult) opMul := OpR.or op_mul (OpR.or op_mul_str op_rep)
theorem real_mul : Real2 opMul rMulD := by
  intro g σ H x y d e Qd Q s hx hy w k
  cases d <;> cases e <;> try exact w.elim
  · cases hx.int; cases hy.int
    exact .inl ⟨_, _, rfl, rfl, w.1, k.here s w.2 (.int _)⟩
  · cases hx.str; cases hy.int
    exact .inr (.inl ⟨_, _, rfl, rfl, w.1.1, w.1.2.1, by rw [S2_length]; exact w.1.2.2, k.here s w.2 (.str _)⟩)
  · obtain ⟨p, xs, rfl, h1, l1⟩ := hx.lst
    cases hy.int
    exact .inr (.inr ⟨_, _, _, rfl, rfl, h1, by have := w.1.1; omega, by have := w.1.2.1; omega, by rw [l1.length]; exact w.1.2.2, fun p hp => k.F.lst s hp w.2 (l1.rep _)⟩)
theorem de_mul (ha : PE X a (lP ta)) (hb : PE X b (lP tb)) : PE X (.BinOp a .Mult b pos) (lE (d2 rMulD ta tb)) := de_op op_mulAll real_mul ha hb
def rMulF : RD2 := fun d e Q => match d, e with | .lst x, .int n => (0 ≤ n ∧ n < 2 ^ 62 ∧ x.length * n.toNat ≤ sizeLine) ∧ Q (.lst (repL n x)) | _, _ => False
end
end L2.DL
namespace L2.DL
open PySem PySem.Spec PyProof.Rows
section
variable {X : Cx} {pos : Pos} {a b c : Expr} {ta tb tc : TDE}
def rOrdD (fi : Int → Int → Bool) (fs : List Nat → List Nat → Bool) : RD2
  | .int i, .int j, Q => Q (.bl (fi i j))
  | .str i, .str j, Q => Q (.bl (fs i j))
  | _, _, _ => False
def opOrd (fi : Int → Int → Bool) (fs : List Nat → List Nat → Bool) : R2 := fun x y H Q => (rI0 fun i j => .bl (fi i j)) x y H Q ∨ (∃ i j : Str, x = .str i ∧ y = .str j ∧ Q (.bl (fs i.cps.toList j.cps.toList)) H)
theorem real_ord {fi : Int → Int → Bool} {fs : List Nat → List Nat → Bool} : Real2 (opOrd fi fs) (rOrdD fi fs) := by
  intro g σ H x y d e Qd Q s hx hy w k
  cases d <;> cases e <;> try exact w.elim
  · cases hx.int; cases hy.int
    exact .inl ⟨_, _, rfl, rfl, k.here s w (.bl _)⟩
  · cases hx.str; cases hy.str
    exact .inr ⟨_, _, rfl, rfl, k.here s w (.bl _)⟩
abbrev rLt := rOrdD (fun i j => decide (i < j)) (fun i j => decide (i < j))
abbrev rLe := rOrdD (fun i j => decide (i ≤ j)) (fun i j => !decide (j < i))
abbrev rGt := rOrdD (fun i j => decide (j < i)) (fun i j => decide (j < i))
abbrev rGe := rOrdD (fun i j => decide (j ≤ i)) (fun i j => !decide (i < j))
theorem op_ltA : OpR X (compareOp .Lt) (opOrd (fun i j => decide (i < j)) (fun i j => decide (i < j))) := OpR.or op_lt op_lt_str
theorem op_leA : OpR X (compareOp .LtE) (opOrd (fun i j => decide (i ≤ j)) (fun i j => !decide (j < i))) := OpR.or op_le op_le_str
theorem op_gtA : OpR X (compareOp .Gt) (opOrd (fun i j => decide (j < i)) (fun i j => decide (j < i))) := OpR.or op_gt op_gt_str
theorem op_geA : OpR X (compareOp .GtE) (opOrd (fun i j => decide (j ≤ i)) (fun i j => !decide (i < j))) := OpR.or op_ge op_ge_str
theorem de_le (ha : PE X a (lP ta)) (hb : PE X b (lP tb)) : PE X (.Compare a [.LtE] [b] pos) (lE (d2 rLe ta tb)) := de_cmp op_leA real_ord ha hb
/-- a < b < c -/
def d3 (R R' : RD2) (ta tb tc : TDE) : TDE := fun S Q => ta S fun x => tb S fun y => R x y fun z => ∃ k, z = .bl k ∧ if k = true then tc S fun w => R' y w Q else Q (.bl false)
def flatD : D → Bool
  | .non => true
  | .bl _ => true
  | .int _ => true
  | .str _ => true
  | _ => false
def inStr (x y : List Nat) : Bool := match x with
  | [c] => decide (c ∈ y)
  | _ => !(Builtin.Str.occurrences (S2 y) (S2 x) 0 y.length 1).isEmpty
def rInDD (f : Bool → Bool) : RD2 := fun x c Q => match c with
  | .str y => (match x with | .str x => Q (.bl (f (inStr x y))) | _ => False)
  | .lst ys => okD x = true ∧ okD (.lst ys) = true ∧ Q (.bl (f (ys.any fun z => deqv z x)))
  | .tup ys => flatD x = true ∧ ys.all flatD = true ∧ Q (.bl (f (ys.any fun z => deqv z x)))
  | _ => False
theorem flatD.V {g : Gh} {H : Hp} {v : V} {d : D} (h : Rp g.z g.M H v d) (f : flatD d = true) : flatV v = true ∧ ∀ v' d', Rp g.z g.M H v' d' → flatD d' = true → eqV v v' = deqv d d' := by
  cases h <;> (try (simp [flatD] at f; done))
  all_goals refine ⟨rfl, fun v' d' h' f' => ?_⟩
  all_goals (cases h' <;> (try (simp [flatD] at f'; done)))
  all_goals first | rfl | (simp [eqV, deqv, toPy, PyData.eqv])
theorem flatL.V {g : Gh} {H : Hp} {v : V} {d : D} (h : Rp g.z g.M H v d) (f : flatD d = true) : ∀ {vs : List V} {ds : List D}, RpL g.z g.M H vs ds → ds.all flatD = true → vs.all flatV = true ∧ (vs.any fun y => eqV y v) = ds.any fun z => deqv z d
  | _, _, .nil, _ => ⟨rfl, rfl⟩
  | _, _, .cons a b, hf => by
    simp only [List.all_cons, Bool.and_eq_true] at hf
    obtain ⟨i1, i2⟩ := flatL.V h f b hf.2
    obtain ⟨j1, j2⟩ := flatD.V a hf.1
    exact ⟨by simp [j1, i1], by rw [List.any_cons, List.any_cons, i2, j2 _ _ h f]⟩
theorem toPyL_any (d : D) : ∀ ds : List D, ((toPyL ds).any fun z => PyData.eqv z (toPy d)) = ds.any fun z => deqv z d
  | [] => by simp [toPyL]
  | x :: xs => by simp [toPyL, toPyL_any d xs, deqv]
def opIn (K : PySem.W.Frag) (f : Bool → Bool) : R2 := fun x y H Q => ((∃ (c : Nat) (z : Str), x = .str ⟨#[c]⟩ ∧ y = .str z ∧ Q (.bl (f (decide (c ∈ z.cps.toList)))) H) ∨
   (∃ i j, x = .str i ∧ y = .str j ∧ Q (.bl (f (!(Builtin.Str.occurrences j i 0 j.length 1).isEmpty))) H)) ∨
   ((∃ d ds, Dp K H x d ∧ Dp K H y (.list ds) ∧ SeqAt.shaped d = true ∧ SeqAt.shaped (.list ds) = true ∧ Q (.bl (f (ds.any fun z => PyData.eqv z d))) H) ∨
   ∃ p xs, y = .ref p ∧ (SqL K H p xs ∨ SqT K H p xs) ∧ flatV x = true ∧ xs.all flatV = true ∧ Q (.bl (f (inV x xs))) H)
theorem op_inA (hu : X.A.units + 65 < cLine) : OpR X (compareOp .In) (opIn X.K id) := OpR.or (OpR.or op_in_sign op_in_str) (OpR.or (op_inD hu) op_in_seq)
theorem op_notInA (hu : X.A.units + 65 < cLine) : OpR X (compareOp .NotIn) (opIn X.K not) := OpR.or (OpR.or op_notIn_sign op_notin_str) (OpR.or (op_notInD hu) op_notIn_seq)
theorem Pk.flat {g : Gh} {H : Hp} {v : V} {d : D} (h : Pk g H v d) (f : flatD d = true) : Rp g.z g.M H v d := by
  rcases h with h | ⟨a, _, _, _, o⟩
  · exact h
  · cases o <;> simp [flatD] at f
theorem real_in {K : PySem.W.Frag} {f : Bool → Bool} : Real2 (opIn K f) (rInDD f) := by
  intro g σ H x y d e Qd Q s hx hy w k
  have tup : ∀ ys, e = .tup ys → flatD d = true ∧ ys.all flatD = true ∧ Qd (.bl (f (ys.any fun z => deqv z d))) → opIn K f x y H Q := fun ys h w' => by
    subst h
    obtain ⟨p, xs, rfl, h1, l1⟩ := hy.tup
    obtain ⟨i1, i2⟩ := flatL.V (hx.flat w'.1) w'.1 l1 w'.2.1
    obtain ⟨j1, _⟩ := flatD.V (hx.flat w'.1) w'.1
    refine .inr (.inr ⟨_, _, rfl, .inr (.of h1), j1, i1, ?_⟩)
    unfold inV
    rw [i2]
    exact k.here s w'.2.2 (.bl _)
  have lst : ∀ ys, e = .lst ys → okD d = true ∧ okD (.lst ys) = true ∧ Qd (.bl (f (ys.any fun z => deqv z d))) → opIn K f x y H Q := fun ys h w' => by
    subst h
    refine .inr (.inl ⟨_, toPyL ys, hx.dp (okD.plain w'.1), hy.dp (okD.plain w'.2.1), okD.shaped w'.1, okD.shaped w'.2.1, ?_⟩)
    rw [toPyL_any]
    exact k.here s w'.2.2 (.bl _)
  cases e with
  | lst ys => exact lst ys rfl w
  | tup ys => exact tup ys rfl w
  | str z =>
    cases d <;> try exact w.elim
    rename_i z0
    cases hx.str; cases hy.str
    match z0, w with
    | [c], w => exact .inl (.inl ⟨c, S2 z, rfl, rfl, k.here s w (.bl _)⟩)
    | [], w =>
      refine .inl (.inr ⟨_, _, rfl, rfl, k.here s (d := .bl _) w ?_⟩)
      simp only [inStr, S2_length]
      exact .bl _
    | c :: c' :: r, w =>
      refine .inl (.inr ⟨_, _, rfl, rfl, k.here s (d := .bl _) w ?_⟩)
      simp only [inStr, S2_length]
      exact .bl _
  | _ => exact w.elim
theorem de_in (hu : X.A.units + 65 < cLine) (ha : PE X a (lP ta)) (hb : PE X b (lP tb)) (hm : behindInMarks .In b = false := by rfl) : PE X (.Compare a [.In] [b] pos) (lE (d2 (rInDD id) ta tb)) := de_cmp (op_inA hu) real_in ha hb hm
theorem de_notIn (hu : X.A.units + 65 < cLine) (ha : PE X a (lP ta)) (hb : PE X b (lP tb)) (hm : behindInMarks .NotIn b = false := by rfl) : PE X (.Compare a [.NotIn] [b] pos) (lE (d2 (rInDD not) ta tb)) := de_cmp (op_notInA hu) real_in ha hb hm
def isNon : D → Bool
  | .non => true
  | _ => false
def knownD : D → Bool
  | .raw _ => false
  | _ => true
def d1 (R : D → (D → Prop) → Prop) (ta : TDE) : TDE := fun S Q => ta S fun x => R x Q
theorem Pk.nonIff {g : Gh} {H : Hp} {v : V} {d : D} (h : Pk g H v d) (hk : knownD d = true) : decide (v = .non) = isNon d := by
  rcases h with h | ⟨a, rfl, _, _, o⟩
  · cases h <;> first | (simp [knownD] at hk; done) | rfl | (simp [isNon]; done)
  · cases o <;> simp [isNon]
theorem de_isN {j pos'} (ha : PE X a (lP ta)) : PE X (.Compare a [.Is] [.Constant .none j pos'] pos) (lE (d1 (fun d Q => knownD d = true ∧ Q (.bl (isNon d))) ta)) := PE.imp (pe_cmp (pc_isN ha)) fun σ H Q ⟨g, Qd, s, w, k⟩ =>
  ⟨g, _, s, w, fun d v H1 w1 x1 s1 r1 => by
    show Q (.bl _) H1
    rw [r1.nonIff w1.1]
    exact k _ _ H1 w1.2 x1 s1 (.bl _)⟩
variable {rest : List Expr}
def dAnd (ta tb : TDE) : TDE := fun S Q => ta S fun x => ∃ k, x = .bl k ∧ if k = true then tb S Q else Q (.bl false)
def dOr (ta tb : TDE) : TDE := fun S Q => ta S fun x => ∃ k, x = .bl k ∧ if k = true then Q (.bl true) else tb S Q
def dNot (ta : TDE) : TDE := fun S Q => ta S fun x => ∃ k, x = .bl k ∧ Q (.bl (!k))
theorem de_and (ha : PE X a (lP ta)) (hb : PE X (.BoolOp .And (b :: rest) pos) (lE tb)) : PE X (.BoolOp .And (a :: b :: rest) pos) (lE (dAnd ta tb)) := PE.imp (pe_and ha hb) fun σ H Q ⟨g, Qd, s, w, k⟩ =>
  ⟨g, _, s, w, fun d v H1 w1 x1 s1 r1 => by
    obtain ⟨kk, e, q⟩ := w1
    subst e
    cases r1.bl
    refine ⟨kk, rfl, ?_⟩
    cases kk with
    | false => exact k (.bl false) _ H1 q x1 s1 (.bl false)
    | true => exact ⟨g, _, s1, q, fun d' v' H' q x s' r => k d' v' H' q (x1.trans x) s' r⟩⟩
theorem de_one {op} (ha : PE X a (lE ta)) : PE X (.BoolOp op [a] pos) (lE ta) := pe_one ha
/-- tests -/
def truD : D → (Bool → Prop) → Prop
  | .non, Q => Q false
  | .bl b, Q => Q b
  | .int i, Q => Q (i != 0)
  | .str x, Q => x.length ≤ sizeLine ∧ Q (!x.isEmpty)
  | .lst x, Q => Q (!x.isEmpty)
  | .tup x, Q => Q (!x.isEmpty)
  | _, _ => False
def dTest (ta : TDE) : TDT := fun S Q => ta S fun x => truD x Q
theorem isEmpty_len {α β : Type} {x : List α} {y : List β} (h : x.length = y.length) : (!x.isEmpty) = !y.isEmpty := by cases x <;> cases y <;> simp_all
theorem truD.V {g : Gh} {H : Hp} {v : V} {d : D} {K : PySem.W.Frag} {Qd : Bool → Prop} (h : Pk g H v d) (w : truD d Qd) : ∃ k, TruV K v H k ∧ Qd k := by
  cases d <;> try exact w.elim
  · cases h.non; exact ⟨_, rfl, w⟩
  · cases h.bl; exact ⟨_, rfl, w⟩
  · cases h.int; exact ⟨_, rfl, w⟩
  · rename_i x
    cases h.str
    refine ⟨_, ⟨by rw [S2_length]; exact w.1, rfl⟩, ?_⟩
    rw [S2_length]
    have e : (((x.length : Nat) : Int) != 0) = !x.isEmpty := by
      cases x with
      | nil => rfl
      | cons y r =>
        have : ((((y :: r).length : Nat) : Int) != 0) = true := bne_iff_ne.mpr (by rw [List.length_cons]; omega)
        rw [this]; rfl
    rw [e]
    exact w.2
  · obtain ⟨p, xs, rfl, h1, l1⟩ := h.lst
    exact ⟨_, .inl ⟨_, .of h1, rfl⟩, by rw [isEmpty_len l1.length]; exact w⟩
  · obtain ⟨p, xs, rfl, h1, l1⟩ := h.tup
    exact ⟨_, .inr (.inl ⟨_, .of h1, rfl⟩), by rw [isEmpty_len l1.length]; exact w⟩
theorem dt_val (ha : PE X a (lP ta)) (he : ∀ whole, isTrue a X.env whole = (do let v ← whole; standAt a.pos; holding [v] (truthy v)) := by intro _; rfl) : PT X a (lT (dTest ta)) := PT.imp (pt_truth ha he) fun σ H Q ⟨g, Qd, s, w, k⟩ =>
  ⟨g, _, s, w, fun d v H1 w1 x1 s1 r1 => by
    obtain ⟨kk, t, q⟩ := truD.V r1 w1
    exact ⟨kk, t, k _ H1 q x1 s1⟩⟩
end
end L2.DL
namespace L2.DL
open PySem PySem.Spec PyProof.Rows
section
variable {X : Cx} {pos : Pos} {a b c : Expr} {ta tb tc : TDE} {tt tu : TDT} {rest : List Expr} {es : List Expr}
def dtAnd (t u : TDT) : TDT := fun S Q => t S fun k => if k = true then u S Q else Q false
def dtOr (t u : TDT) : TDT := fun S Q => t S fun k => if k = true then Q true else u S Q
def dtNot (t : TDT) : TDT := fun S Q => t S fun k => Q (!k)
theorem dt_and1 (ha : PT X a (lT tt)) : PW X (.BoolOp .And [a] pos) (lT tt) := pw_and1 ha
theorem dt_or1 (ha : PT X a (lT tt)) : PW X (.BoolOp .Or [a] pos) (lT tt) := pw_or1 ha
theorem dt_and (ha : PT X a (lT tt)) (hb : PW X (.BoolOp .And (b :: rest) pos) (lT tu)) : PW X (.BoolOp .And (a :: b :: rest) pos) (lT (dtAnd tt tu)) := PW.imp (pw_and ha hb) fun σ H Q ⟨g, Qd, s, w, k⟩ =>
  ⟨g, _, s, w, fun kk H1 w1 x1 s1 => by
    cases kk with
    | false => exact k false H1 w1 x1 s1
    | true => exact ⟨g, _, s1, w1, fun d' H' q x s' => k d' H' q (x1.trans x) s'⟩⟩
theorem dt_or (ha : PT X a (lT tt)) (hb : PW X (.BoolOp .Or (b :: rest) pos) (lT tu)) : PW X (.BoolOp .Or (a :: b :: rest) pos) (lT (dtOr tt tu)) := PW.imp (pw_or ha hb) fun σ H Q ⟨g, Qd, s, w, k⟩ =>
  ⟨g, _, s, w, fun kk H1 w1 x1 s1 => by
    cases kk with
    | true => exact k true H1 w1 x1 s1
    | false => exact ⟨g, _, s1, w1, fun d' H' q x s' => k d' H' q (x1.trans x) s'⟩⟩
theorem dt_not (ha : PT X a (lT tt)) : PT X (.UnaryOp .Not a pos) (lT (dtNot tt)) := PT.imp (pt_not ha) fun σ H Q ⟨g, Qd, s, w, k⟩ => ⟨g, _, s, w, fun kk H1 w1 x1 s1 => k _ H1 w1 x1 s1⟩
def dIf (t : TDT) (ta tb : TDE) : TDE := fun S Q => t S fun k => if k = true then ta S Q else tb S Q
theorem de_if (hc : PT X c (lT tt)) (ha : PE X a (lE ta)) (hb : PE X b (lE tb)) : PE X (.IfExp c a b pos) (lE (dIf tt ta tb)) := PE.imp (pe_ifExp hc ha hb) fun σ H Q ⟨g, Qd, s, w, k⟩ =>
  ⟨g, _, s, w, fun kk H1 w1 x1 s1 => by
    cases kk with
    | true => exact ⟨g, _, s1, w1, fun d' v' H' q x s' r => k d' v' H' q (x1.trans x) s' r⟩
    | false => exact ⟨g, _, s1, w1, fun d' v' H' q x s' r => k d' v' H' q (x1.trans x) s' r⟩⟩
theorem Ext.none_of {z : Bz} {H H' : Hp} {a : Addr} (x : Ext z H H') (n : H' a = none) (m : ¬ isB z a) : H a = none := by
  cases e0 : H a with
  | none => rfl
  | some o => rw [x a o e0 m] at n; cases n
inductive PkL (g : Gh) (H : Hp) : List V → List D → Prop
  | nil : PkL g H [] []
  | cons {v : V} {vs : List V} {d : D} {ds : List D} : Pk g H v d → PkL g H vs ds → PkL g H (v :: vs) (d :: ds)
def lAP (t : TDA) : TA := fun σ H Q => ∃ (g : Gh) (Qd : List D → Prop), Stt g σ H ∧ t g.S Qd ∧ ∀ ds vs H', Qd ds → Ext g.z H H' → Stt g σ H' → PkL g H' vs ds → Q vs H'
def daNil : TDA := fun _ Q => Q []
def daCons (te : TDE) (t : TDA) : TDA := fun S Q => te S fun d => t S fun ds => Q (d :: ds)
variable {e : Expr} {te : TDE} {ts : TDA}
theorem da_nil : PA X [] (lA daNil) := PA.imp pa_nil fun σ H Q ⟨g, Qd, s, w, k⟩ => k [] [] H w .refl s .nil
theorem da_cons (he : PE X e (lE te)) (hr : PA X es (lA ts)) (hs : starEach (e :: es) X.env = (false, eval e X.env) :: starEach es X.env := by rfl) : PA X (e :: es) (lA (daCons te ts)) := PA.imp (pa_cons he hr hs) fun σ H Q ⟨g, Qd, s, w, k⟩ =>
  ⟨g, _, s, w, fun d v H1 w1 x1 s1 r1 => ⟨g, _, s1, w1, fun ds vs H2 w2 x2 s2 r2 => k _ _ H2 w2 (x1.trans x2) s2 (.cons (r1.ext x2) r2)⟩⟩
theorem dap_nil : PA X [] (lAP daNil) := PA.imp pa_nil fun σ H Q ⟨g, Qd, s, w, k⟩ => k [] [] H w .refl s .nil
theorem dap_cons (he : PE X e (lP te)) (hr : PA X es (lAP ts)) (hs : starEach (e :: es) X.env = (false, eval e X.env) :: starEach es X.env := by rfl) : PA X (e :: es) (lAP (daCons te ts)) := PA.imp (pa_cons he hr hs) fun σ H Q ⟨g, Qd, s, w, k⟩ =>
  ⟨g, _, s, w, fun d v H1 w1 x1 s1 r1 => ⟨g, _, s1, w1, fun ds vs H2 w2 x2 s2 r2 => k _ _ H2 w2 (x1.trans x2) s2 (.cons (r1.ext x2) r2)⟩⟩
def dLst (t : TDA) : TDE := fun S Q => t S fun ds => ds.length ≤ sizeLine ∧ Q (.lst ds)
def dTup (t : TDA) : TDE := fun S Q => t S fun ds => ds.length ≤ sizeLine ∧ Q (.tup ds)
theorem df_lst (h : PA X es (lA ts)) : PE X (.List es pos) (lF (dLst ts)) := PE.imp (pe_lst h) fun σ H Q ⟨g, Qd, s, w, k⟩ =>
  ⟨g, _, s, w, fun ds vs H1 w1 x1 s1 r1 => ⟨by rw [r1.length]; exact w1.1, fun p hp => k (.lst ds) p _ w1.2 (x1.trans (.new hp)) (s1.alloc hp) (x1.none_of hp fun h => s1.fresh hp (res_M h.res)) (s1.fresh hp) (.lst upd_same (r1.tr (.new hp)))⟩⟩
theorem de_tup {x1} (h : PA X es (lA ts)) : PE X (.Tuple es x1 pos) (lE (dTup ts)) := PE.imp (pe_tup h) fun σ H Q ⟨g, Qd, s, w, k⟩ =>
  ⟨g, _, s, w, fun ds vs H1 w1 x1 s1 r1 => ⟨by rw [r1.length]; exact w1.1, fun p hp => k (.tup ds) _ _ w1.2 (x1.trans (.new hp)) (s1.alloc hp) (.tup upd_same (s1.fresh hp) (r1.ext (.new hp)))⟩⟩
def rIxD : RD2
  | .lst xs, .int i, Q => ∃ d, atI xs i = some d ∧ Q d
  | .tup xs, .int i, Q => ∃ d, atI xs i = some d ∧ Q d
  | .str xs, .int i, Q => xs.length ≤ sizeLine ∧ ∃ c, atI xs i = some c ∧ Q (.str [c])
  | _, _, _ => False
def opIx (K : PySem.W.Frag) : R2 := fun x y H Q => rIxL K x y H Q ∨ (rIxT K x y H Q ∨ rIxS x y H Q)
theorem IxR.or {r r' : R2} (h : IxR X r) (h' : IxR X r') : IxR X (fun x y H Q => r x y H Q ∨ r' x y H Q) := by
  intro value slice pins s σ H x y v u Q I rx ry w hs
  rcases w with w | w
  · exact h value slice pins s σ H x y v u Q I rx ry w hs
  · exact h' value slice pins s σ H x y v u Q I rx ry w hs
theorem ix_all : IxR X (opIx X.K) := IxR.or ix_list (IxR.or ix_tup ix_str)
theorem real_ix {K : PySem.W.Frag} : Real2 (opIx K) rIxD := by
  intro g σ H x y d e Qd Q s hx hy w k
  cases d <;> cases e <;> try exact w.elim
  · cases hx.str; cases hy.int
    obtain ⟨w0, c, e1, q⟩ := w
    exact .inr (.inr ⟨_, _, c, rfl, rfl, by rw [S2_length]; exact w0, e1, k.here s q (.str [c])⟩)
  · obtain ⟨p, xs, rfl, h1, l1⟩ := hx.lst
    cases hy.int
    obtain ⟨d, e1, q⟩ := w
    obtain ⟨v, e2, r⟩ := l1.atI e1
    exact .inl ⟨p, xs, _, v, rfl, rfl, .of h1, e2, k.here s q r⟩
  · obtain ⟨p, xs, rfl, h1, l1⟩ := hx.tup
    cases hy.int
    obtain ⟨d, e1, q⟩ := w
    obtain ⟨v, e2, r⟩ := l1.atI e1
    exact .inr (.inl ⟨p, xs, _, v, rfl, rfl, .of h1, e2, k.here s q r⟩)
theorem de_item (ha : PE X a (lP ta)) (hb : PE X b (lP tb)) (hs : PlainIx b := by exact fun _ _ => rfl) : PE X (.Subscript a b pos) (lE (d2 rIxD ta tb)) := de_ix ix_all real_ix ha hb hs
abbrev TDO := SS → (Option Int → Prop) → Prop
def lO (t : TDO) : TO := fun σ H Q => ∃ (g : Gh) (Qd : Option Int → Prop), Stt g σ H ∧ t g.S Qd ∧ ∀ o H', Qd o → Ext g.z H H' → Stt g σ H' → Q o H'
theorem PO.imp {e : Option Expr} {t t' : TO} (h : PO X e t) (i : ∀ σ H Q, t' σ H Q → t σ H Q) : PO X e t' := ⟨fun pins s σ H Q I w => h.run pins s σ H Q I (i _ _ _ w)⟩
def doNone : TDO := fun _ Q => Q none
def doSome (t : TDE) : TDO := fun S Q => t S fun d => ∃ i, d = .int i ∧ Q (some i)
theorem do_none : PO X none (lO doNone) := PO.imp po_none fun σ H Q ⟨g, Qd, s, w, k⟩ => k none H w .refl s
theorem do_some (h : PE X e (lP te)) : PO X (some e) (lO (doSome te)) := PO.imp (po_some h) fun σ H Q ⟨g, Qd, s, w, k⟩ =>
  ⟨g, _, s, w, fun d v H1 w1 x1 s1 r1 => by
    obtain ⟨i, rfl, q⟩ := w1
    cases r1.int
    exact ⟨i, rfl, k _ H1 q x1 s1⟩⟩
def rSlD (d : D) (lo hi : Option Int) (Q : D → Prop) : Prop := match d with
  | .str x => x.length ≤ sizeLine ∧ Q (.str (cut x lo hi))
  | .lst x => Q (.lst (cut x lo hi))
  | .tup x => ¬ (HT.sIx x.length 0 lo = 0 ∧ HT.sIx x.length x.length hi = x.length) ∧ Q (.tup (cut x lo hi))
  | _ => False
def opSl (K : PySem.W.Frag) : V → Option Int → Option Int → Hp → VK → Prop := fun x lo hi H Q => rSlL K x lo hi H Q ∨ (rSlT K x lo hi H Q ∨ rSlS x lo hi H Q)
theorem sl_all : SlR X (opSl X.K) := SlR.or sl_list (SlR.or sl_tup sl_str)
theorem cutS_S2 (x : List Nat) (lo hi : Option Int) : cutS (S2 x) lo hi = S2 (cut x lo hi) := by
  unfold cutS cut
  rw [S2_length]
def dSl (te : TDE) (tl th : TDO) : TDE := fun S Q => te S fun x => tl S fun l => th S fun h => rSlD x l h Q
theorem real_sl {K : PySem.W.Frag} {g : Gh} {σ : St} {H : Hp} {x : V} {d : D} {lo hi : Option Int} {Qd : D → Prop} {Q : VK} (s : Stt g σ H) (hx : Pk g H x d) (w : rSlD d lo hi Qd) (k : RetE g σ H Qd Q) : opSl K x lo hi H Q := by
  cases d <;> try exact w.elim
  · cases hx.str
    exact .inr (.inr ⟨_, rfl, by rw [S2_length]; exact w.1, by rw [cutS_S2]; exact k.here s w.2 (.str _)⟩)
  · obtain ⟨p, xs, rfl, h1, l1⟩ := hx.lst
    exact .inl ⟨p, xs, rfl, .of h1, fun p hp => k.F.lst s hp w (l1.cut lo hi)⟩
  · obtain ⟨p, xs, rfl, h1, l1⟩ := hx.tup
    exact .inr (.inl ⟨p, xs, rfl, .of h1, by rw [l1.length]; exact w.1, fun p hp => k.tup s hp w.2 (l1.cut lo hi)⟩)
theorem de_slice {lo hi : Option Expr} {tl th : TDO} {p2 : Pos} (he : PE X e (lP te)) (hl : PO X lo (lO tl)) (hu : PO X hi (lO th)) : PE X (.Subscript e (.Slice lo hi none p2) pos) (lE (dSl te tl th)) := PE.imp (pe_slice sl_all he hl hu) fun σ H Q ⟨g, Qd, s, w, k⟩ =>
  ⟨g, _, s, w, fun d v H1 w1 x1 s1 r1 => ⟨g, _, s1, w1, fun l H2 w2 x2 s2 => ⟨g, _, s2, w2, fun u H3 w3 x3 s3 =>
    real_sl s3 ((r1.ext x2).ext x3) w3 fun d' v' H' q x s' r => k d' v' H' q (((x1.trans x2).trans x3).trans x) s' r⟩⟩⟩
def dSlF (te : TDE) (tl th : TDO) : TDE := fun S Q => te S fun x => tl S fun l => th S fun h => ∃ xs, x = .lst xs ∧ Q (.lst (cut xs l h))
abbrev RDC := List D → (D → Prop) → Prop
def RealC (r : List V → Hp → VK → Prop) (R : RDC) : Prop := ∀ (g : Gh) (σ : St) (H : Hp) (xs : List V) (ds : List D) (Qd : D → Prop) (Q : VK), Stt g σ H → PkL g H xs ds → R ds Qd → RetE g σ H Qd Q → r xs H Q
def RealCF (r : List V → Hp → VK → Prop) (R : RDC) : Prop := ∀ (g : Gh) (σ : St) (H : Hp) (xs : List V) (ds : List D) (Qd : D → Prop) (Q : VK), Stt g σ H → PkL g H xs ds → R ds Qd → RetF g σ H Qd Q → r xs H Q
def dCall (R : RDC) (ts : TDA) : TDE := fun S Q => ts S fun ds => R ds Q
theorem liftC {r : List V → Hp → VK → Prop} {R : RDC} (hr : RealC r R) (h : PE X e (tCB r (lAP ts))) : PE X e (lE (dCall R ts)) := PE.imp h fun σ H Q ⟨g, Qd, s, w, k⟩ =>
  ⟨g, _, s, w, fun ds vs H1 w1 x1 s1 r1 => hr g σ H1 vs ds Qd Q s1 r1 w1 fun d' v' H' q x s' r => k d' v' H' q (x1.trans x) s' r⟩
theorem liftCF {r : List V → Hp → VK → Prop} {R : RDC} (hr : RealCF r R) (h : PE X e (tCB r (lAP ts))) : PE X e (lF (dCall R ts)) := PE.imp h fun σ H Q ⟨g, Qd, s, w, k⟩ =>
  ⟨g, _, s, w, fun ds vs H1 w1 x1 s1 r1 => hr g σ H1 vs ds Qd Q s1 r1 w1 fun d' v' H' q x s' n m r => k d' v' H' q (x1.trans x) s' (x1.none_of n fun h => m (res_M h.res)) m r⟩
theorem CallR.or {f : Value} {r r' : List V → Hp → VK → Prop} (h : CallR X f r) (h' : CallR X f r') : CallR X f (fun x H Q => r x H Q ∨ r' x H Q) := by
  intro pins s σ H xs us Q I rv w
  rcases w with w | w
  · exact h pins s σ H xs us Q I rv w
  · exact h' pins s σ H xs us Q I rv w
end
end L2.DL
namespace L2.DL
open PySem PySem.Spec PyProof.Rows
section
variable {X : Cx} {pos p : Pos} {a b c : Expr} {ta tb tc : TDE} {es : List Expr} {e : Expr} {te : TDE} {ts : TDA} {x : Str}
theorem PkL.one {g : Gh} {H : Hp} {vs : List V} {d : D} (h : PkL g H vs [d]) : ∃ v, vs = [v] ∧ Pk g H v d := by
  cases h with | cons a b => cases b; exact ⟨_, rfl, a⟩
theorem PkL.two {g : Gh} {H : Hp} {vs : List V} {d d' : D} (h : PkL g H vs [d, d']) : ∃ v v', vs = [v, v'] ∧ Pk g H v d ∧ Pk g H v' d' := by
  cases h with | cons a b => cases b with | cons b c => cases c; exact ⟨_, _, rfl, a, b⟩
/-- a built-in function, a built-in class, called by its name -/
theorem de_callB {id : String} {r : List V → Hp → VK → Prop} {R : RDC} (hc : CallR X (.builtin id) r) (hr : RealC r R) (hg : Gl X x) (hm : X.mg x = none) (hv : bootBuiltins x = some (.builtin id)) (ha : PA X (e :: es) (lAP ts)) (hn : x ≠ "__name__" := by decide) (hdb : (x == ("__debug__" : Str)) = false := by decide)
    (he : starEach (e :: es) X.env = (false, eval e X.env) :: starEach es X.env := by rfl) (hpl : (backTo pos (starEach es X.env)).any (·.1) = false := by rfl) : PE X (.Call (.Name x p) (e :: es) [] pos) (lE (dCall R ts)) := liftC hr (pe_callB hc hg hm hv ha hn hdb he hpl)
theorem de_callTy {T : String} {r : List V → Hp → VK → Prop} {R : RDC} (hc : CallR X (.type T) r) (hr : RealC r R) (hg : Gl X x) (hm : X.mg x = none) (hv : bootBuiltins x = some (.type T)) (ha : PA X (e :: es) (lAP ts)) (hn : x ≠ "__name__" := by decide) (hdb : (x == ("__debug__" : Str)) = false := by decide)
    (he : starEach (e :: es) X.env = (false, eval e X.env) :: starEach es X.env := by rfl) (hpl : (backTo pos (starEach es X.env)).any (·.1) = false := by rfl) : PE X (.Call (.Name x p) (e :: es) [] pos) (lE (dCall R ts)) := liftC hr (pe_callTy hc hg hm hv ha hn hdb he hpl)
theorem df_callTy {T : String} {r : List V → Hp → VK → Prop} {R : RDC} (hc : CallR X (.type T) r) (hr : RealCF r R) (hg : Gl X x) (hm : X.mg x = none) (hv : bootBuiltins x = some (.type T)) (ha : PA X (e :: es) (lAP ts)) (hn : x ≠ "__name__" := by decide) (hdb : (x == ("__debug__" : Str)) = false := by decide)
    (he : starEach (e :: es) X.env = (false, eval e X.env) :: starEach es X.env := by rfl) (hpl : (backTo pos (starEach es X.env)).any (·.1) = false := by rfl) : PE X (.Call (.Name x p) (e :: es) [] pos) (lF (dCall R ts)) := liftCF hr (pe_callTy hc hg hm hv ha hn hdb he hpl)
def rLenD : RDC
  | [.str x], Q => x.length ≤ sizeLine ∧ Q (.int x.length)
  | [.lst x], Q => Q (.int x.length)
  | [.tup x], Q => Q (.int x.length)
  | _, _ => False
theorem real_len {K : PySem.W.Frag} : RealC (fun xs H Q => ∃ x n, xs = [x] ∧ LenV K x H n ∧ Q (.int n) H) rLenD := by
  intro g σ H xs ds Qd Q s hx w k
  match ds, w, hx with
  | [.str x], w, hx =>
    obtain ⟨v, rfl, h⟩ := hx.one
    cases h.str
    refine ⟨_, (S2 x).length, rfl, ⟨by rw [S2_length]; exact w.1, rfl⟩, ?_⟩
    rw [S2_length]
    exact k.here s w.2 (.int _)
  | [.lst x], w, hx =>
    obtain ⟨v, rfl, h⟩ := hx.one
    obtain ⟨p, xs, rfl, h1, l1⟩ := h.lst
    exact ⟨_, _, rfl, .inl ⟨_, .of h1, rfl⟩, by rw [l1.length]; exact k.here s w (.int _)⟩
  | [.tup x], w, hx =>
    obtain ⟨v, rfl, h⟩ := hx.one
    obtain ⟨p, xs, rfl, h1, l1⟩ := h.tup
    exact ⟨_, _, rfl, .inr ⟨_, .of h1, rfl⟩, by rw [l1.length]; exact k.here s w (.int _)⟩
theorem de_len (hm : X.mg "len" = none) (ha : PA X [e] (lAP ts)) (hg : Gl X "len" := by rfl) (he : starEach [e] X.env = (false, eval e X.env) :: starEach [] X.env := by rfl) : PE X (.Call (.Name "len" p) [e] [] pos) (lE (dCall rLenD ts)) := de_callB call_len real_len hg hm PySem.boot_len ha (he := he) (hpl := by rfl)
def rIntD : RDC
  | [.int i], Q => Q (.int i)
  | [.bl b], Q => Q (.int (if b then 1 else 0))
  | [.str s], Q => ∃ n, PySem.intText? (S2 s) = some n ∧ s.length ≤ 640 ∧ Q (.int n)
  | _, _ => False
def rMM (f : Int → Int → Int) : RDC
  | [.int i, .int j], Q => Q (.int (f i j))
  | _, _ => False
theorem real_mm {f : Int → Int → Int} : RealC (fun xs H Q => ∃ i j, xs = [.int i, .int j] ∧ Q (.int (f i j)) H) (rMM f) := by
  intro g σ H xs ds Qd Q s hx w k
  match ds, w, hx with
  | [.int i, .int j], w, hx =>
    obtain ⟨v, v', rfl, h, h'⟩ := hx.two
    cases h.int; cases h'.int
    exact ⟨_, _, rfl, k.here s w (.int _)⟩
theorem de_min2 (hm : X.mg "min" = none) (ha : PA X [a, b] (lAP ts)) (hc : X.calm = true := by rfl) (hg : Gl X "min" := by rfl) (he : starEach [a, b] X.env = (false, eval a X.env) :: starEach [b] X.env := by rfl) (hpl : (backTo pos (starEach [b] X.env)).any (·.1) = false := by rfl) : PE X (.Call (.Name "min" p) [a, b] [] pos) (lE (dCall (rMM fun i j => if j < i then j else i) ts)) := de_callB (call_min2 hc) real_mm hg hm (by decide +kernel) ha (he := he) (hpl := hpl)
def bools : List D → Option (List Bool)
  | [] => some []
  | .bl b :: r => (bools r).map (b :: ·)
  | _ :: _ => none
theorem bools_eq : ∀ {ds : List D} {bs : List Bool}, bools ds = some bs → ds = bs.map D.bl
  | [], bs, h => by simp [bools] at h; subst h; rfl
  | .bl b :: r, bs, h => by
    simp [bools] at h
    obtain ⟨c, h1, h2⟩ := h
    subst h2
    rw [bools_eq h1]; rfl
theorem bools_map (bs : List Bool) : bools (bs.map D.bl) = some bs := by
  induction bs with
  | nil => rfl
  | cons b r ih => simp [bools, ih]
theorem RpL.bls {z : Bz} {M : MS} {H : Hp} : ∀ {vs : List V} {ns : List Bool}, RpL z M H vs (ns.map D.bl) → vs = ns.map V.bl
  | _, [], .nil => rfl
  | _, n :: ns, .cons a b => by cases a; rw [b.bls]; rfl
def rAllD (f : List Bool → Bool) : RDC
  | [.lst x], Q => ∃ bs, bools x = some bs ∧ Q (.bl (f bs))
  | _, _ => False
theorem real_allD {K : PySem.W.Frag} {f : List Bool → Bool} : RealC (fun vs H Q => ∃ (a : Addr) (bs : List Bool), vs = [V.ref a] ∧ SqL K H a (bs.map V.bl) ∧ Q (.bl (f bs)) H) (rAllD f) := by
  intro g σ H xs ds Qd Q s hx w k
  match ds, w, hx with
  | [.lst x], w, hx =>
    obtain ⟨v, rfl, h⟩ := hx.one
    obtain ⟨p, xs, rfl, h1, l1⟩ := h.lst
    obtain ⟨bs, e, q⟩ := w
    rw [bools_eq e] at l1
    rw [l1.bls] at h1
    exact ⟨p, bs, rfl, .of h1, k.here s q (.bl _)⟩
theorem de_all (hm : X.mg "all" = none) (ha : PA X [e] (lAP ts)) (hc : X.calm = true := by rfl) (hg : Gl X "all" := by rfl) (he : starEach [e] X.env = (false, eval e X.env) :: starEach [] X.env := by rfl) : PE X (.Call (.Name "all" p) [e] [] pos) (lE (dCall (rAllD fun bs => bs.all id) ts)) := de_callB (cr_all hc) real_allD hg hm (by decide +kernel) ha (he := he) (hpl := by rfl)
def rListD : RDC
  | [.lst x], Q => Q (.lst x)
  | [.tup x], Q => Q (.lst x)
  | _, _ => False
theorem real_list {K : PySem.W.Frag} : RealCF (fun xs H Q => ∃ p ys, xs = [.ref p] ∧ (SqL K H p ys ∨ SqT K H p ys) ∧ ∀ l, H l = none → Q (.ref l) (upd H l (.lst ys))) rListD := by
  intro g σ H xs ds Qd Q s hx w k
  match ds, w, hx with
  | [.lst x], w, hx =>
    obtain ⟨v, rfl, h⟩ := hx.one
    obtain ⟨p, xs, rfl, h1, l1⟩ := h.lst
    exact ⟨p, xs, rfl, .inl (.of h1), fun l hl => k.lst s hl w l1⟩
  | [.tup x], w, hx =>
    obtain ⟨v, rfl, h⟩ := hx.one
    obtain ⟨p, xs, rfl, h1, l1⟩ := h.tup
    exact ⟨p, xs, rfl, .inr (.of h1), fun l hl => k.lst s hl w l1⟩
theorem df_listc (hm : X.mg "list" = none) (ha : PA X [e] (lAP ts)) (hg : Gl X "list" := by rfl) (he : starEach [e] X.env = (false, eval e X.env) :: starEach [] X.env := by rfl) : PE X (.Call (.Name "list" p) [e] [] pos) (lF (dCall rListD ts)) := df_callTy call_list_of real_list hg hm (by decide +kernel) ha (he := he) (hpl := by rfl)
def rTupD : RDC
  | [.lst x], Q => Q (.tup x)
  | [.tup x], Q => Q (.tup x)
  | _, _ => False
theorem real_tuple {K : PySem.W.Frag} : RealC (fun xs H Q => ∃ p ys, xs = [.ref p] ∧ ((SqL K H p ys ∧ ∀ l, H l = none → Q (.ref l) (upd H l (.tup ys))) ∨ (SqT K H p ys ∧ Q (.ref p) H))) rTupD := by
  intro g σ H xs ds Qd Q s hx w k
  match ds, w, hx with
  | [.lst x], w, hx =>
    obtain ⟨v, rfl, h⟩ := hx.one
    obtain ⟨p, xs, rfl, h1, l1⟩ := h.lst
    exact ⟨p, xs, rfl, .inl ⟨.of h1, fun l hl => k.tup s hl w l1⟩⟩
  | [.tup x], w, hx =>
    obtain ⟨v, rfl, h⟩ := hx.one
    rcases h with h | ⟨a, e, _, _, o⟩
    · cases h with
      | tup h1 n l1 => exact ⟨_, _, rfl, .inr ⟨.of h1, k.here s w (.tup h1 n l1)⟩⟩
    · cases o
theorem de_tuplec (hm : X.mg "tuple" = none) (ha : PA X [e] (lAP ts)) (hg : Gl X "tuple" := by rfl) (he : starEach [e] X.env = (false, eval e X.env) :: starEach [] X.env := by rfl) : PE X (.Call (.Name "tuple" p) [e] [] pos) (lE (dCall rTupD ts)) := de_callTy call_tuple_of real_tuple hg hm (by decide +kernel) ha (he := he) (hpl := by rfl)
/-- str(n) -/
def decOf (n : Int) : List Nat := (Str.ofString (toString n)).cps.toList
def rStrI : RDC
  | [.int i], Q => i.natAbs.log2 < 1920 ∧ Q (.str (decOf i))
  | _, _ => False
def tyN : D → Option String
  | .non => some "NoneType"
  | .bl _ => some "bool"
  | .int _ => some "int"
  | .str _ => some "str"
  | .lst _ => some "list"
  | .tup _ => some "tuple"
  | _ => none
theorem Pk.ty {g : Gh} {H : Hp} {v : V} {d : D} {n : String} {K : PySem.W.Frag} (h : Pk g H v d) (e : tyN d = some n) : TyX K H v (.type n) := by
  rcases h with h | ⟨a, rfl, _, _, o⟩
  · cases h <;> first | (simp [tyN] at e; done) | (simp [tyN] at e; subst e)
    · exact .base .non
    · exact .base (.bl _)
    · exact .base (.int _)
    · exact .base (.str _)
    · exact .base (.lst (by assumption))
    · exact .base (.tup (by assumption))
  · cases o <;> first | (simp [tyN] at e; done) | (simp [tyN] at e; subst e)
    exact .base (.lst (by assumption))
def isIntD : D → Bool
  | .int _ => true
  | .bl _ => true
  | _ => false
def isBoolD : D → Bool
  | .bl _ => true
  | _ => false
def isStrD : D → Bool
  | .str _ => true
  | _ => false
def isListD : D → Bool
  | .lst _ => true
  | _ => false
def isTupD : D → Bool
  | .tup _ => true
  | _ => false
def isSeqD : D → Bool
  | .lst _ => true
  | .tup _ => true
  | _ => false
/-- the answers for data that the built-in classes tell -/
def IsTab (T : String) (f : D → Bool) : Prop := ∀ d n, tyN d = some n → kitB n T = some (f d)
theorem tab_of {T : String} {f : D → Bool} (h0 : kitB "NoneType" T = some (f .non)) (h1 : ∀ b, kitB "bool" T = some (f (.bl b))) (h2 : ∀ b, kitB "int" T = some (f (.int b))) (h3 : ∀ b, kitB "str" T = some (f (.str b))) (h4 : ∀ b, kitB "list" T = some (f (.lst b))) (h5 : ∀ b, kitB "tuple" T = some (f (.tup b))) : IsTab T f := by
  intro d n e
  cases d <;> simp [tyN] at e <;> subst e
  · exact h0
  · exact h1 _
  · exact h2 _
  · exact h3 _
  · exact h4 _
  · exact h5 _
theorem tab_int : IsTab "int" isIntD := tab_of (by decide +kernel) (fun _ => by show _ = some true; decide +kernel) (fun _ => by show _ = some true; decide +kernel) (fun _ => by show _ = some false; decide +kernel) (fun _ => by show _ = some false; decide +kernel) (fun _ => by show _ = some false; decide +kernel)
theorem tab_bool : IsTab "bool" isBoolD := tab_of (by decide +kernel) (fun _ => by show _ = some true; decide +kernel) (fun _ => by show _ = some false; decide +kernel) (fun _ => by show _ = some false; decide +kernel) (fun _ => by show _ = some false; decide +kernel) (fun _ => by show _ = some false; decide +kernel)
theorem tab_str : IsTab "str" isStrD := tab_of (by decide +kernel) (fun _ => by show _ = some false; decide +kernel) (fun _ => by show _ = some false; decide +kernel) (fun _ => by show _ = some true; decide +kernel) (fun _ => by show _ = some false; decide +kernel) (fun _ => by show _ = some false; decide +kernel)
theorem tab_list : IsTab "list" isListD := tab_of (by decide +kernel) (fun _ => by show _ = some false; decide +kernel) (fun _ => by show _ = some false; decide +kernel) (fun _ => by show _ = some false; decide +kernel) (fun _ => by show _ = some true; decide +kernel) (fun _ => by show _ = some false; decide +kernel)
theorem tab_tup : IsTab "tuple" isTupD := tab_of (by decide +kernel) (fun _ => by show _ = some false; decide +kernel) (fun _ => by show _ = some false; decide +kernel) (fun _ => by show _ = some false; decide +kernel) (fun _ => by show _ = some false; decide +kernel) (fun _ => by show _ = some true; decide +kernel)
def rIsiD (T : String) (f : D → Bool) : RDC
  | [d, .raw (.ty T')], Q => T' = T ∧ (tyN d).isSome = true ∧ Q (.bl (f d))
  | _, _ => False
theorem real_isi {K : PySem.W.Frag} {T : String} {f : D → Bool} (t : IsTab T f) : RealC (rIsi K) (rIsiD T f) := by
  intro g σ H xs ds Qd Q s hx w k
  match ds, w, hx with
  | [d, .raw (.ty T')], w, hx =>
    obtain ⟨v, v', rfl, h, h'⟩ := hx.two
    cases h'.raw
    obtain ⟨rfl, e, q⟩ := w
    obtain ⟨n, e⟩ := Option.isSome_iff_exists.mp e
    exact ⟨v, _, _, _, f d, rfl, .ty _, h.ty e, kit_ty (t d n e), k.here s q (.bl _)⟩
theorem de_isi {T : String} {f : D → Bool} (t : IsTab T f) (hm : X.mg "isinstance" = none) (ha : PA X [a, b] (lAP ts)) (hg : Gl X "isinstance" := by rfl) (he : starEach [a, b] X.env = (false, eval a X.env) :: starEach [b] X.env := by rfl) (hpl : (backTo pos (starEach [b] X.env)).any (·.1) = false := by rfl) : PE X (.Call (.Name "isinstance" p) [a, b] [] pos) (lE (dCall (rIsiD T f) ts)) := de_callB call_isi (real_isi t) hg hm (by decide +kernel) ha (he := he) (hpl := hpl)
/-- isinstance(x, (list, tuple)) -/
def rIsiLT : RDC
  | [d, .tup [.raw (.ty T), .raw (.ty T')]], Q => T = "list" ∧ T' = "tuple" ∧ (tyN d).isSome = true ∧ Q (.bl (isSeqD d))
  | _, _ => False
theorem real_isiLT {K : PySem.W.Frag} : RealC (rIsiT K) rIsiLT := by
  intro g σ H xs ds Qd Q s hx w k
  match ds, w, hx with
  | [d, .tup [.raw (.ty T), .raw (.ty T')]], w, hx =>
    obtain ⟨v, v', rfl, h, h'⟩ := hx.two
    obtain ⟨p, xs, rfl, h1, l1⟩ := h'.tup
    rcases l1 with _ | ⟨r1, l1⟩
    rcases l1 with _ | ⟨r2, l1⟩
    cases l1
    cases r1
    cases r2
    obtain ⟨rfl, rfl, e, q⟩ := w
    obtain ⟨n, e⟩ := Option.isSome_iff_exists.mp e
    refine ⟨v, p, _, _, _, isSeqD d, rfl, h1, .cons (.ty _) (.cons (.ty _) .nil), h.ty e, ?_, k.here s q (.bl _)⟩
    refine kitAny_cons (kit_ty (tab_list d n e)) (fun e1 => kitAny_cons (kit_ty (tab_tup d n e)) (fun e2 => ?_) fun e2 => ?_) fun e1 => ?_
    · have : isSeqD d = false := by cases d <;> simp_all [isSeqD, isListD, isTupD]
      rw [this]; exact kitAny_nil
    · cases d <;> simp_all [isSeqD, isListD, isTupD]
    · cases d <;> simp_all [isSeqD, isListD, isTupD]
theorem de_isiLT (hm : X.mg "isinstance" = none) (ha : PA X [a, b] (lAP ts)) (hg : Gl X "isinstance" := by rfl) (he : starEach [a, b] X.env = (false, eval a X.env) :: starEach [b] X.env := by rfl) (hpl : (backTo pos (starEach [b] X.env)).any (·.1) = false := by rfl) : PE X (.Call (.Name "isinstance" p) [a, b] [] pos) (lE (dCall rIsiLT ts)) := de_callB call_isiT real_isiLT hg hm (by decide +kernel) ha (he := he) (hpl := hpl)
/-- a built-in class as a value -/
theorem de_ty {T : String} (hm : X.mg x = none) (hv : bootBuiltins x = some (.type T)) (hg : Gl X x := by rfl) (hn : x ≠ "__name__" := by decide) (hdb : (x == ("__debug__" : Str)) = false := by decide) : PE X (.Name x pos) (lE (dC (.raw (.ty T)))) := de_C (pe_bltn (v := .ty T) hg hm hv rfl hn hdb) fun _ _ _ => .raw _
theorem de_gint {i : Int} (hm : ∃ t, X.mg x = some (.int i t)) (hg : Gl X x := by rfl) (hdb : (x == ("__debug__" : Str)) = false := by decide) : PE X (.Name x pos) (lE (dC (.int i))) := by
  obtain ⟨t, hm⟩ := hm
  exact de_C (pe_glob (v := .int i) hg hm ⟨t, rfl⟩ hdb) fun _ _ _ => .int _
theorem de_gstr {i : Str} (hm : ∃ t, X.mg x = some (.str i t)) (hg : Gl X x := by rfl) (hdb : (x == ("__debug__" : Str)) = false := by decide) : PE X (.Name x pos) (lE (dC (.str i.cps.toList))) := by
  obtain ⟨t, hm⟩ := hm
  exact de_C (pe_glob (v := .str i) hg hm ⟨t, rfl⟩ hdb) fun _ _ _ => .str _
end
end L2.DL
namespace L2.DL
open PySem PySem.Spec PyProof.Rows
abbrev TDF := List D → (D → Prop) → Prop
structure Amb (z : Bz) (M : MS) (H : Hp) : Prop where
  bag : BagOk z H
  alive : ∀ a, M a → Nt H a
  res : ∀ a, resB z a → M a
theorem Stt.amb {g : Gh} {σ : St} {H : Hp} (s : Stt g σ H) : Amb g.z g.M H := ⟨s.bag, s.alive, fun _ h => res_M h⟩
def spE (n : Nat) (tf : TDF) : Sp := fun vs H Q _ => vs.length = n ∧ ∃ (z : Bz) (M : MS) (ds : List D) (Qd : D → Prop), Amb z M H ∧ RpL z M H vs ds ∧ tf ds Qd ∧ ∀ d v H', Qd d → Ext z H H' → BagOk z H' → Rp z M H' v d → Q v H'
def spF (n : Nat) (tf : TDF) : Sp := fun vs H Q _ => vs.length = n ∧ ∃ (z : Bz) (M : MS) (ds : List D) (Qd : D → Prop), Amb z M H ∧ RpL z M H vs ds ∧ tf ds Qd ∧ ∀ d a H', Qd d → Ext z H H' → BagOk z H' → H a = none → ¬ M a → OwF z M H' a d → Q (.ref a) H'
/-- the state at a def's start -/
def gh0 (z : Bz) (M : MS) (H : Hp) (N : List Str) (ds : List D) : Gh := ⟨z, M, H, H, M, fun _ => none, ds.map .val ++ List.replicate (N.length - ds.length) .no⟩
theorem mo_none {z : Bz} {M : MS} (h : ∀ a, resB z a → M a) : Mo M z (fun _ => none) = M := by
  funext a
  apply propext
  constructor
  · rintro (h1 | h1 | ⟨i, h1⟩)
    · exact h1
    · exact h a h1
    · cases h1
  · exact .inl
theorem start_eq (N : List Str) (vs : List V) : start N vs = vs.map some ++ List.replicate (N.length - vs.length) none := rfl
theorem stt0 {z : Bz} {M : MS} {H : Hp} {N : List Str} {vs : List V} {ds : List D} (A : Amb z M H) (r : RpL z M H vs ds) : Stt (gh0 z M H N ds) (start N vs) H := by
  have hM : (gh0 z M H N ds).M = M := mo_none A.res
  have hl := r.length
  refine ⟨fun i as φ e => ?_, ?_, fun i d e => ?_, fun i d e => ?_, (fun i j a e => nomatch e), (fun i a e => nomatch e), fun a h => ?_, Ext.refl, A.bag, Ext.refl, fun _ h => h, fun a h => (A.alive a h).ne, fun i E Ed e => ?_, fun i p e => ?_, fun _ h => .inl h⟩
  · have e' : (ds.map Sl.val ++ List.replicate (N.length - ds.length) .no)[i]? = some (.rs as φ) := e
    have := List.mem_of_getElem? e'
    simp at this
  · rw [start_eq]; simp [gh0, hl]
  · rw [hM]
    show ∃ v, (start N vs)[i]? = some (some v) ∧ Rp z M H v d
    have e' : (ds.map Sl.val ++ List.replicate (N.length - ds.length) .no)[i]? = some (.val d) := e
    by_cases hi : i < ds.length
    · rw [List.getElem?_append_left (by simpa using hi), List.getElem?_map] at e'
      cases q : ds[i]? with
      | none => rw [q] at e'; cases e'
      | some d' =>
        rw [q] at e'
        cases e'
        obtain ⟨v, h1, h2⟩ := r.get q
        refine ⟨v, ?_, h2⟩
        rw [start_eq, List.getElem?_append_left (by simp; omega), List.getElem?_map, h1]; rfl
    · rw [List.getElem?_append_right (by simp; omega)] at e'
      have := List.mem_of_getElem? e'
      simp at this
  · have e' : (ds.map Sl.val ++ List.replicate (N.length - ds.length) .no)[i]? = some (.own d) := e
    have := List.mem_of_getElem? e'
    simp at this
  · rw [hM] at h; exact A.alive a h
  · have e' : (ds.map Sl.val ++ List.replicate (N.length - ds.length) .no)[i]? = some (.ex E Ed) := e
    have := List.mem_of_getElem? e'
    simp at this
  · have e' : (ds.map Sl.val ++ List.replicate (N.length - ds.length) .no)[i]? = some (.zz p) := e
    have := List.mem_of_getElem? e'
    simp at this
/-- a def by its body, over data -/
theorem ok_E {P : Program} {w : World} {K : PySem.W.Frag} {mg : Str → Option Value} {base : Heap} {x qual : Str} {st : Stmt} {f : Addr} {fd : FuncData} {N ps : List Str} {k : Nat} {n : Nat} {tf : TDF} {dfv : List V} {kwv : List (Str × V)} (F : FunD K x qual (defArgs st) (defBody st) (defScope st) dfv kwv f fd) (S : FnScope N ps (defScope st)) (hn : ps.length = n := by rfl)
    (hb : ∀ (cdv : Value) (A : Around) (outer : List Env) (s : Shared) (H : Hp) (E : XK), Room k (A.deeper (envOfC qual (defScope st) s.heap.objs.size f cdv)) → ∃ t : TDS, PSs (cxOf CX0 P w K mg base N qual (defScope st) f cdv A outer s H E).nox (defBody st) (lS t) ∧
      ∀ ds Qd, ds.length = n → tf ds Qd → t { nx := fun _ => Qd .non, rt := Qd, rf := Qd } (ds.map .val ++ List.replicate (N.length - n) .no)) : FnOk P w K mg base CX0 (k + 1) f fd ps (spE n tf) := by
  refine F.ok S (fun vs H Q E h => ?_) (fun cdv A outer s H vs Q E hr h => ?_)
  · rw [hn]; exact h.1
  · obtain ⟨hl, z, M, ds, Qd, Am, r, t, k⟩ := h
    obtain ⟨tt, hp, hw⟩ := hb cdv A outer s H E hr
    have hM : Mo M z (fun _ => none) = M := mo_none Am.res
    have hd : ds.length = n := by rw [← r.length]; exact hl
    refine ⟨_, PSs.nox hp, gh0 z M H N ds, { nx := fun _ => Qd .non, rt := Qd, rf := Qd }, stt0 Am r, ?_, ?_⟩
    · have := hw ds Qd hd t
      show tt _ (ds.map .val ++ List.replicate (N.length - ds.length) .no)
      rw [hd]; exact this
    · refine ⟨fun ow S σ H' s' q => k .non .non H' q s'.keep s'.bag .non, fun _ _ _ _ _ q => q.elim, fun _ _ _ _ _ q => q.elim, fun d v H' q x b rp => k d v H' q x b ?_, fun d a H' q x b hn nm o => k d (.ref a) H' q x b ?_, fun _ _ _ _ q => q.elim⟩
      · have rp' : Rp z (Mo M z fun _ => none) H' v d := rp
        rw [hM] at rp'; exact rp'
      · have o' : OwF z (Mo M z fun _ => none) H' a d := o
        have nm' : ¬ Mo M z (fun _ => none) a := nm
        rw [hM] at o' nm'
        exact Ow.rp o' (Tr.of fun _ _ n e => ⟨e, fun q => n (.inl q)⟩) nm'
theorem ok_F {P : Program} {w : World} {K : PySem.W.Frag} {mg : Str → Option Value} {base : Heap} {x qual : Str} {st : Stmt} {f : Addr} {fd : FuncData} {N ps : List Str} {k : Nat} {n : Nat} {tf : TDF} {dfv : List V} {kwv : List (Str × V)} (F : FunD K x qual (defArgs st) (defBody st) (defScope st) dfv kwv f fd) (S : FnScope N ps (defScope st)) (hn : ps.length = n := by rfl)
    (hb : ∀ (cdv : Value) (A : Around) (outer : List Env) (s : Shared) (H : Hp) (E : XK), Room k (A.deeper (envOfC qual (defScope st) s.heap.objs.size f cdv)) → ∃ t : TDS, PSs (cxOf CX0 P w K mg base N qual (defScope st) f cdv A outer s H E).nox (defBody st) (lS t) ∧
      ∀ ds Qd, ds.length = n → tf ds Qd → t { nx := fun _ => False, rt := fun _ => False, rf := Qd } (ds.map .val ++ List.replicate (N.length - n) .no)) : FnOk P w K mg base CX0 (k + 1) f fd ps (spF n tf) := by
  refine F.ok S (fun vs H Q E h => ?_) (fun cdv A outer s H vs Q E hr h => ?_)
  · rw [hn]; exact h.1
  · obtain ⟨hl, z, M, ds, Qd, Am, r, t, k⟩ := h
    obtain ⟨tt, hp, hw⟩ := hb cdv A outer s H E hr
    have hM : Mo M z (fun _ => none) = M := mo_none Am.res
    have hd : ds.length = n := by rw [← r.length]; exact hl
    refine ⟨_, PSs.nox hp, gh0 z M H N ds, { nx := fun _ => False, rt := fun _ => False, rf := Qd }, stt0 Am r, ?_, ?_⟩
    · have := hw ds Qd hd t
      show tt _ (ds.map .val ++ List.replicate (N.length - ds.length) .no)
      rw [hd]; exact this
    · refine ⟨fun ow S σ H' s' q => q.elim, fun _ _ _ _ _ q => q.elim, fun _ _ _ _ _ q => q.elim, fun d v H' q x b rp => q.elim, fun d a H' q x b hn nm o => k d a H' q x b hn ?_ ?_, fun _ _ _ _ q => q.elim⟩
      · have nm' : ¬ Mo M z (fun _ => none) a := nm
        rw [hM] at nm'; exact nm'
      · have o' : OwF z (Mo M z fun _ => none) H' a d := o
        rw [hM] at o'; exact o'
section
variable {X : Cx} {pos p : Pos} {es : List Expr} {e : Expr} {te : TDE} {ts : TDA} {x : Str} {tf : TDF} {n k : Nat} {f : Addr} {fd : FuncData} {ps : List Str} {dvs : List V} {dds : List D}
/-- f(..): the written arguments, then the defaults -/
def dFn (tf : TDF) (dds : List D) (ts : TDA) : TDE := fun S Q => ts S fun ds => tf (ds ++ dds) Q
theorem de_fn (F : FnOk X.prog X.w X.K X.mg X.base CX0 k f fd ps (spE n tf)) (hr : Room k X.A) (hm : X.mg x = some (.ref f)) (hk : PySem.W.keepIn X.K (.ref f) = true) (hb : ∃ dsv, Vals dvs dsv ∧ Binds X.K fd ps dsv) (hdd : ∀ z M H, RpL z M H dvs dds) (ha : PA X (e :: es) (lA ts)) (hn : ∀ ds Q, tf ds Q → ds.length = n) (hg : Gl X x := by rfl)
    (hdb : (x == ("__debug__" : Str)) = false := by decide) (he : starEach (e :: es) X.env = (false, eval e X.env) :: starEach es X.env := by rfl) (hpl : (backTo pos (starEach es X.env)).any (·.1) = false := by rfl) : PE X (.Call (.Name x p) (e :: es) [] pos) (lE (dFn tf dds ts)) := by
  obtain ⟨dsv, hd, hb⟩ := hb
  exact PE.imp (pe_call F hr hg hm hk hb hd pass0 ha hdb he hpl) fun σ H Q ⟨g, Qd, s, w, kk⟩ =>
    ⟨g, _, s, w, fun ds vs H1 w1 x1 s1 r1 => by
      have r2 := r1.append (hdd g.z g.M H1)
      exact ⟨by rw [r2.length]; exact hn _ _ w1, g.z, g.M, _, Qd, s1.amb, r2, w1, fun d v H' q x b rp => kk d v H' q (x1.trans x) (s1.ext x b) rp⟩⟩
theorem df_fn (F : FnOk X.prog X.w X.K X.mg X.base CX0 k f fd ps (spF n tf)) (hr : Room k X.A) (hm : X.mg x = some (.ref f)) (hk : PySem.W.keepIn X.K (.ref f) = true) (hb : ∃ dsv, Vals dvs dsv ∧ Binds X.K fd ps dsv) (hdd : ∀ z M H, RpL z M H dvs dds) (ha : PA X (e :: es) (lA ts)) (hn : ∀ ds Q, tf ds Q → ds.length = n) (hg : Gl X x := by rfl)
    (hdb : (x == ("__debug__" : Str)) = false := by decide) (he : starEach (e :: es) X.env = (false, eval e X.env) :: starEach es X.env := by rfl) (hpl : (backTo pos (starEach es X.env)).any (·.1) = false := by rfl) : PE X (.Call (.Name x p) (e :: es) [] pos) (lF (dFn tf dds ts)) := by
  obtain ⟨dsv, hd, hb⟩ := hb
  exact PE.imp (pe_call F hr hg hm hk hb hd pass0 ha hdb he hpl) fun σ H Q ⟨g, Qd, s, w, kk⟩ =>
    ⟨g, _, s, w, fun ds vs H1 w1 x1 s1 r1 => by
      have r2 := r1.append (hdd g.z g.M H1)
      exact ⟨by rw [r2.length]; exact hn _ _ w1, g.z, g.M, _, Qd, s1.amb, r2, w1, fun d a H' q x b hn nm o => kk d a H' q (x1.trans x) (s1.ext x b) (x1.none_of hn fun h => nm (res_M h.res)) nm o⟩⟩
end
end L2.DL
namespace L2.DL
open PySem PySem.Spec PyProof.Rows
section
variable {g : Gh} {σ : St} {H H' : Hp} {i : Nat} {v : V} {d : D} {a : Addr}
theorem Stt.setVal (s : Stt g σ H) (r : Rp g.z g.M H v d) : Stt { g with S := g.S.set i (.val d) } (σ.set i (some v)) H where
  rs := fun j as φ e => (s.rs j as φ (rs_val e)).tr (Tr.of fun _ _ n e => ⟨e, n⟩) (fun _ _ _ q => q) rfl fun _ => rfl
  len := by simpa using s.len
  val := fun j d' e => by
    have e' : (g.S.set i (.val d))[j]? = some (.val d') := e
    rw [List.getElem?_set] at e'
    by_cases hij : i = j
    · subst hij
      rw [if_pos rfl] at e'
      split at e'
      · rename_i hlt
        cases e'
        exact ⟨v, by rw [List.getElem?_set_self (by rw [← s.len]; exact hlt)], r⟩
      · cases e'
    · rw [if_neg hij] at e'
      obtain ⟨u, e1, r1⟩ := s.val j d' e'
      exact ⟨u, by rw [List.getElem?_set_ne hij]; exact e1, r1⟩
  own := fun j d' e => by
    have e' : (g.S.set i (.val d))[j]? = some (.own d') := e
    rw [List.getElem?_set] at e'
    by_cases hij : i = j
    · subst hij
      rw [if_pos rfl] at e'
      split at e' <;> cases e'
    · rw [if_neg hij] at e'
      obtain ⟨u, e1, r1⟩ := s.own j d' e'
      exact ⟨u, by rw [List.getElem?_set_ne hij]; exact e1, r1⟩
  inj := s.inj
  new := s.new
  alive := s.alive
  keep := s.keep
  bag := s.bag
  ex := s.ex.val
def setOw (ow : Ix → Option Addr) (i : Nat) (a : Option Addr) : Ix → Option Addr := fun j => if j = .inl i then a else ow j
theorem setOw_r {ow : Ix → Option Addr} {i : Nat} {a : Option Addr} {p : Nat × Nat} : setOw ow i a (.inr p) = ow (.inr p) := by
  unfold setOw; rw [if_neg (fun h => nomatch h)]
theorem ix_ne {i j : Nat} (h : ¬ i = j) : ¬ (Sum.inl i : Ix) = .inl j := fun e => h (Sum.inl.inj e)
theorem mo_set {M0 : MS} {z : Bz} {ow : Ix → Option Addr} {b : Addr} (h : Mo M0 z (setOw ow i (some a)) b) : Mo M0 z ow b ∨ b = a := by
  rcases h with h | h | ⟨j, h⟩
  · exact .inl (.inl h)
  · exact .inl (.inr (.inl h))
  · unfold setOw at h
    split at h
    · cases h; exact .inr rfl
    · exact .inl (.inr (.inr ⟨j, h⟩))
/-- a new thing goes to a name that owns it -/
theorem Stt.setOwn (s : Stt g σ H) (x : Ext g.z H H') (b' : BagOk g.z H') (hn : H a = none) (hM : ¬ g.M a) (o : OwF g.z g.M H' a d) :
    Stt { g with ow := setOw g.ow i (some a), S := g.S.set i (.own d) } (σ.set i (some (.ref a))) H' := by
  have tr : Tr g.M H (Mo g.M0 g.z (setOw g.ow i (some a))) H' := Tr.of fun b u n e => ⟨x b u e fun q => n (res_M q.res), fun q => (mo_set q).elim n fun e' => by subst e'; rw [hn] at e; cases e⟩
  have tro : Tr (fun b => g.M b ∨ b = a) H' (Mo g.M0 g.z (setOw g.ow i (some a))) H' := Tr.of fun b u n e => ⟨e, fun q => n (mo_set q)⟩
  have na : ∀ j : Ix, g.ow j = some a → False := fun j e => hM (.inr (.inr ⟨j, e⟩))
  have hH0 : g.H0 a = none := s.keep.none_of hn fun h => hM (res_M h.res)
  refine ⟨fun j as φ e => (s.rs j as φ (rs_own e)).tr tr (fun c hc o q => x c o q fun z => (s.rsNew (rs_own e) hc).2.2 z.res) rfl fun _ => setOw_r (ow := g.ow) (i := i) (a := some a), by simpa using s.len, fun j d' e => ?_, fun j d' e => ?_, fun j k c e1 e2 => ?_, fun j c e => ?_, fun c h => ?_, s.keep.trans x, b', s.ex.own⟩
  · have e' : (g.S.set i (.own d))[j]? = some (.val d') := e
    rw [List.getElem?_set] at e'
    by_cases hij : i = j
    · subst hij
      rw [if_pos rfl] at e'
      split at e' <;> cases e'
    · rw [if_neg hij] at e'
      obtain ⟨u, e1, r1⟩ := s.val j d' e'
      exact ⟨u, by rw [List.getElem?_set_ne hij]; exact e1, r1.tr tr⟩
  · have e' : (g.S.set i (.own d))[j]? = some (.own d') := e
    rw [List.getElem?_set] at e'
    by_cases hij : i = j
    · subst hij
      rw [if_pos rfl] at e'
      split at e'
      · rename_i hlt
        cases e'
        exact ⟨a, by rw [List.getElem?_set_self (by rw [← s.len]; exact hlt)], by show setOw g.ow i (some a) i = some a; unfold setOw; rw [if_pos rfl], Ow.tr o tro fun u q => q⟩
      · cases e'
    · rw [if_neg hij] at e'
      obtain ⟨u, e1, e2, r1⟩ := s.own j d' e'
      refine ⟨u, by rw [List.getElem?_set_ne hij]; exact e1, ?_, r1.tr tr fun w q => x u w q fun z => (s.new j u e2).2.2 z.res⟩
      show setOw g.ow i (some a) j = some u
      unfold setOw; rw [if_neg (ix_ne (Ne.symm hij))]; exact e2
  · have e1' : setOw g.ow i (some a) j = some c := e1
    have e2' : setOw g.ow i (some a) k = some c := e2
    unfold setOw at e1' e2'
    split at e1' <;> split at e2'
    · rename_i h1 h2; rw [h1, h2]
    · cases e1'; exact (na k e2').elim
    · cases e2'; exact (na j e1').elim
    · exact s.inj j k c e1' e2'
  · have e' : setOw g.ow i (some a) j = some c := e
    unfold setOw at e'
    split at e'
    · cases e'
      exact ⟨hH0, fun h => hM (.inl h), fun h => hM (res_M h)⟩
    · exact s.new j c e'
  · have s' := s.ext x b'
    rcases mo_set h with h | rfl
    · exact s'.alive c h
    · exact Ow.alive o
theorem tr_mut (hM : g.M a) (o' : HO) : Tr g.M H g.M (upd H a o') := Tr.of fun b u n e => ⟨by rw [upd_ne (show b ≠ a by rintro rfl; exact n hM)]; exact e, n⟩
/-- an owned thing is changed -/
theorem Stt.mutate {o' : HO} {d' : D} (s : Stt g σ H) (e : g.S[i]? = some (.own d)) (ea : σ[i]? = some (some (.ref a))) (hd : isDic o' = true ∨ isDic o' = false) (o : Ow g.z g.M (upd H a o') a d') :
    Stt { g with S := g.S.set i (.own d') } σ (upd H a o') := by
  obtain ⟨a', ea', eo, ow0⟩ := s.own i d e
  rw [ea] at ea'
  cases ea'
  have hM : g.M a := .inr (.inr ⟨i, eo⟩)
  have tr : Tr g.M H g.M (upd H a o') := Tr.of fun b u n e => ⟨by rw [upd_ne (show b ≠ a by rintro rfl; exact n hM)]; exact e, n⟩
  refine ⟨fun j as φ e => (s.rs j as φ (rs_own e)).tr tr (fun c hc o q => by rw [upd_ne (show c ≠ a by rintro rfl; exact s.rsNe (rs_own e) eo hc)]; exact q) rfl fun _ => rfl, by simpa using s.len, fun j d' e' => ?_, fun j d'' e' => ?_, s.inj, s.new, fun c h => ?_, fun b u e1 n => ?_, s.bag.mut (fun h => (s.new i a eo).2.2 h) (Ow.code ow0), s.ex.own⟩ -- (S := g.S) (x := .own d') e' fun _ _ q => by cases q)⟩
  · have e1 : (g.S.set i (.own _))[j]? = some (.val d') := e'
    rw [List.getElem?_set] at e1
    by_cases hij : i = j
    · subst hij
      rw [if_pos rfl] at e1
      split at e1 <;> cases e1
    · rw [if_neg hij] at e1
      obtain ⟨u, e2, r1⟩ := s.val j d' e1
      exact ⟨u, e2, r1.tr tr⟩
  · have e1 : (g.S.set i (.own d'))[j]? = some (.own d'') := e'
    rw [List.getElem?_set] at e1
    by_cases hij : i = j
    · subst hij
      rw [if_pos rfl] at e1
      split at e1
      · cases e1
        exact ⟨a, ea, eo, o⟩
      · cases e1
    · rw [if_neg hij] at e1
      obtain ⟨u, e2, e3, r1⟩ := s.own j d'' e1
      refine ⟨u, e2, e3, r1.tr tr fun w q => ?_⟩
      rw [upd_ne (show u ≠ a by rintro rfl; exact hij (Sum.inl.inj (s.inj i j u eo e3)))]; exact q
  · by_cases hc : c = a
    · subst hc; exact Ow.alive o
    · obtain ⟨u, e, n⟩ := s.alive c h
      exact ⟨u, by rw [upd_ne hc]; exact e, n⟩
  · rw [upd_ne (show b ≠ a by rintro rfl; rw [(s.new i b eo).1] at e1; cases e1)]
    exact s.keep b u e1 n
end
section
variable {X : Cx} {pos pos' : Pos} {st : Stmt} {rest : List Stmt} {t u : TDS} {e : Expr} {te : TDE} {ta : TDA} {x y : Str} {i j : Nat} {c a b : Expr} {tt : TDT}
theorem LE.back {g : Gh} {De : EndsD} {D : Ends} {ow : Ix → Option Addr} {S : SS} (l : LE g De D) : LE { g with ow := ow, S := S } De D := ⟨fun ow' S' => l.nx ow' S', fun ow' S' => l.bk ow' S', fun ow' S' => l.ct ow' S', l.rt, l.rf, l.rg⟩
def dsNil : TDS := fun De S => De.nx S
def dsSeq (t u : TDS) : TDS := fun De S => t { De with nx := u De } S
theorem ds_nil : PSs X [] (lS dsNil) := PSs.imp pss_nil fun D σ H ⟨g, De, s, w, l⟩ => l.nx g.ow g.S σ H s w
theorem ds_cons (h1 : PS X st (lS t)) (h2 : PSs X rest (lS u)) : PSs X (st :: rest) (lS (dsSeq t u)) := PSs.imp (pss_cons h1 h2) fun D σ H ⟨g, De, s, w, l⟩ =>
  ⟨g, { De with nx := u De }, s, w, ⟨fun ow S σ' H' s' q => ⟨{ g with ow := ow, S := S }, De, s', q, l.back⟩, l.bk, l.ct, l.rt, l.rf, l.rg⟩⟩
theorem ds_one (h1 : PS X st (lS t)) : PSs X [st] (lS t) := pss_one h1
def dsBreak : TDS := fun De S => De.bk S
def dsCont : TDS := fun De S => De.ct S
def dsNever : TDS := fun _ _ => False
theorem ds_nevers {sts : List Stmt} : PSs X sts (lS dsNever) := PSs.imp pss_never fun D σ H ⟨g, De, s, w, l⟩ => w
def dsDrop (te : TDE) : TDS := fun De S => te S fun _ => De.nx S
def dsRet (te : TDE) : TDS := fun De S => te S De.rt
def dsRetF (te : TDE) : TDS := fun De S => te S De.rf
theorem Mo.sub {M0 : MS} {z : Bz} {ow : Ix → Option Addr} {a : Addr} (h : Mo M0 z (fun _ => none) a) : Mo M0 z ow a := by
  rcases h with h | h | ⟨_, h⟩
  · exact .inl h
  · exact .inr (.inl h)
  · cases h
theorem ds_ret (he : PE X e (lE te)) : PS X (.Return (some e) pos) (lS (dsRet te)) := PS.imp (ps_ret he) fun D σ H ⟨g, De, s, w, l⟩ =>
  ⟨g, _, s, w, fun d v H' q x s' r => l.rt d v H' q s'.keep s'.bag (r.tr (Tr.of fun _ _ n e => ⟨e, fun h => n h.sub⟩))⟩
theorem ds_retF (he : PE X e (lF te)) : PS X (.Return (some e) pos) (lS (dsRetF te)) := PS.imp (ps_ret he) fun D σ H ⟨g, De, s, w, l⟩ =>
  ⟨g, _, s, w, fun d a H' q x s' hn nm o => l.rf d a H' q s'.keep s'.bag (s.keep.none_of hn fun h => nm (res_M h.res)) (fun h => nm h.sub) (Ow.tr o (Tr.of fun _ _ n e => ⟨e, fun h => n (h.imp Mo.sub id)⟩) fun _ q => q)⟩
def dsRetN : TDS := fun De S => De.rt .non
/-- return of a name that owns -/
def dsRetO (i : Nat) : TDS := fun De S => ∃ d, S[i]? = some (.own d) ∧ De.rf d
theorem ds_retO (he : PE X e (tVar i)) : PS X (.Return (some e) pos) (lS (dsRetO i)) := PS.imp (ps_ret he) fun D σ H ⟨g, De, s, ⟨d, e1, w⟩, l⟩ => by
  obtain ⟨a, ea, eo, o⟩ := s.own i d e1
  refine ⟨.ref a, ea, l.rf d a H w s.keep s.bag (s.new i a eo).1 (fun h => ?_) (o.tr (Tr.of fun b u n e => ⟨e, fun h => ?_⟩) fun _ q => q)⟩
  · rcases h with h | h | ⟨_, h⟩
    · exact (s.new i a eo).2.1 h
    · exact (s.new i a eo).2.2 h
    · cases h
  · rcases h with h | h
    · exact n h.sub
    · subst h; exact n (.inr (.inr ⟨i, eo⟩))
def dsIf (c : TDT) (t u : TDS) : TDS := fun De S => c S fun k => if k = true then t De S else u De S
theorem ds_if {bs cs : List Stmt} (hc : PT X c (lT tt)) (ha : PSs X bs (lS t)) (hb : PSs X cs (lS u)) : PS X (.If c bs cs pos) (lS (dsIf tt t u)) := PS.imp (ps_if hc ha hb) fun D σ H ⟨g, De, s, w, l⟩ =>
  ⟨g, _, s, w, fun k H1 w1 x1 s1 => by
    cases k with
    | true => exact ⟨g, De, s1, w1, l⟩
    | false => exact ⟨g, De, s1, w1, l⟩⟩
/-- x = e -/
def dsSet (i : Nat) (te : TDE) : TDS := fun De S => te S fun d => De.nx (S.set i (.val d))
def dsOwn (i : Nat) (te : TDE) : TDS := fun De S => te S fun d => De.nx (S.set i (.own d))
theorem ds_set (hN : X.N.Nodup) (hi : X.N[i]? = some x) (hx : Loc X.env.scope x) (he : PE X e (lE te)) (hs : swapsWith e (some (.Name x pos')) pos.line X.env = pure false := by rfl) (hf : X.fn x = true ∨ X.env.scope.names.lookup x = some .local := by first | exact .inl rfl | exact .inr rfl | assumption) :
    PS X (.Assign [.Name x pos'] e pos) (lS (dsSet i te)) := PS.imp (ps_set hN hi hx he hs hf) fun D σ H ⟨g, De, s, w, l⟩ =>
  ⟨g, _, s, w, fun d v H1 w1 x1 s1 r1 => l.nx g.ow _ _ H1 (s1.setVal r1) w1⟩
theorem ds_own (hN : X.N.Nodup) (hi : X.N[i]? = some x) (hx : Loc X.env.scope x) (he : PE X e (lF te)) (hs : swapsWith e (some (.Name x pos')) pos.line X.env = pure false := by rfl) (hf : X.fn x = true ∨ X.env.scope.names.lookup x = some .local := by first | exact .inl rfl | exact .inr rfl | assumption) :
    PS X (.Assign [.Name x pos'] e pos) (lS (dsOwn i te)) := PS.imp (ps_set hN hi hx he hs hf) fun D σ H ⟨g, De, s, w, l⟩ =>
  ⟨g, _, s, w, fun d a H1 w1 x1 s1 hn nm o => l.nx _ _ _ H1 (s.setOwn x1 s1.bag hn nm o) w1⟩
/-- a statement behind: what name i owns is kept from here on -/
def dsFrz (i : Nat) (t : TDS) : TDS := fun De S => ∃ d, S[i]? = some (.own d) ∧ t De (S.set i (.val d))
/-- a, b = e1, e2 -/
def dsPar (i j : Nat) (ta : TDA) : TDS := fun De S => ta S fun ds => ∃ d d', ds = [d, d'] ∧ De.nx ((S.set i (.val d)).set j (.val d'))
theorem ds_par {px py pt : Pos} {kt k2 pt2} (hN : X.N.Nodup) (hi : X.N[i]? = some x) (hj : X.N[j]? = some y) (hij : i ≠ j) (hx : X.env.scope.names.lookup x = some .local) (hy : X.env.scope.names.lookup y = some .local) (ha : PA X [a, b] (lA ta))
    (hw : swappedStores [.Tuple [.Name x px, .Name y py] kt pt] (.Tuple [a, b] k2 pt2) X.env = pure (some [x, y])) (hc : X.calm = true := by rfl)
    (hs : swapsWithSole [.Tuple [.Name x px, .Name y py] kt pt] (.Tuple [a, b] k2 pt2) pos.line X.env = pure false := by rfl) :
    PS X (.Assign [.Tuple [.Name x px, .Name y py] kt pt] (.Tuple [a, b] k2 pt2) pos) (lS (dsPar i j ta)) := PS.imp (ps_par hc hN hi hj hij hx hy ha hw hs) fun D σ H ⟨g, De, s, w, l⟩ =>
  ⟨g, _, s, w, fun ds vs H1 w1 x1 s1 r1 => by
    obtain ⟨d, d', rfl, q⟩ := w1
    rcases r1 with _ | ⟨r1, r2⟩
    rcases r2 with _ | ⟨r2, r3⟩
    cases r3
    exact ⟨_, _, rfl, l.nx _ _ _ H1 ((s1.setVal r1).setVal (g := { g with S := g.S.set i (.val d) }) r2) q⟩⟩
/-- x op= e -/
def dsAug (i : Nat) (te : TDE) (R : RD2) : TDS := fun De S => ∃ d, S[i]? = some (.val d) ∧ te S fun e => R d e fun d' => De.nx (S.set i (.val d'))
def augD : RD2
  | .int i, .int j, Q => Q (.int (i + j))
  | .str x, .str y, Q => x.length + y.length ≤ sizeLine ∧ Q (.str (x ++ y))
  | _, _, _ => False
/-- xs.append(e), xs a name that owns -/
def dsApp (i : Nat) (te : TDE) : TDS := fun De S => ∃ ds, S[i]? = some (.own (.lst ds)) ∧ te S fun d => ds.length < sizeLine ∧ De.nx (S.set i (.own (.lst (ds ++ [d]))))
end
end L2.DL
namespace L2.DL
open PySem PySem.Spec PyProof.Rows
def Lat (g : Gh) (H1 H' : Hp) : Prop := ∀ b o, ¬ g.M b → H1 b = some o → H' b = some o
def Grow (H H' : Hp) : Prop := ∀ b o, H b = some o → H' b = some o
structure Wk (g : Gh) (H1 : Hp) (J : It) (ds : List D) : Prop where
  go : ∀ i H', Lat g H1 H' → i < ds.length → J.go i H'
  stop : ∀ H', Lat g H1 H' → J.stop ds.length H'
  yld : ∀ (i : Nat) H' x H'' d, Lat g H1 H' → J.yld i H' x H'' → ds[i]? = some d → Grow H' H'' ∧ ∀ M', Tr g.M H1 M' H' → (∀ p, M' p → Nt H' p) → Rp g.z M' H'' x d
abbrev TDI := SS → (List D → Prop) → Prop
def DI (X : Cx) (tg iter : Expr) (ti : TDI) : Prop := ∃ wi : TI, PI X tg iter wi ∧ ∀ (g : Gh) (σ : St) (H : Hp) (Qd : List D → Prop) (R : It → Hp → Prop), Stt g σ H → ti g.S Qd → (∀ ds J H1, Qd ds → Ext g.z H H1 → Stt g σ H1 → Wk g H1 J ds → R J H1) → wi σ H R
theorem Wk.list {g : Gh} {H1 : Hp} {K : PySem.W.Frag} {a : Addr} {xs : List V} {ds : List D} (e : H1 a = some (.lst xs)) (n : ¬ g.M a) (l : RpL g.z g.M H1 xs ds) : Wk g H1 (Itl K a) ds where
  go := fun i H' h hi => by
    obtain ⟨v, hv, _⟩ := l.get (List.getElem?_eq_getElem hi)
    exact ⟨xs, v, .of (h a _ n e), hv⟩
  stop := fun H' h => ⟨xs, .of (h a _ n e), by rw [l.length]; exact Nat.le_refl _⟩
  yld := fun i H' x H'' d h y hd => by
    obtain ⟨rfl, y⟩ := y
    obtain ⟨v, hv, r⟩ := l.get hd
    have := (y xs (.of (h a _ n e))).symm.trans hv
    cases this
    exact ⟨fun _ _ e => e, fun M' t _ => r.tr t⟩
theorem Wk.tup {g : Gh} {H1 : Hp} {K : PySem.W.Frag} {a : Addr} {xs : List V} {ds : List D} (e : H1 a = some (.tup xs)) (n : ¬ g.M a) (l : RpL g.z g.M H1 xs ds) : Wk g H1 (Itt K a) ds where
  go := fun i H' h hi => by
    obtain ⟨v, hv, _⟩ := l.get (List.getElem?_eq_getElem hi)
    exact ⟨xs, v, .of (h a _ n e), hv⟩
  stop := fun H' h => ⟨xs, .of (h a _ n e), by rw [l.length]; exact Nat.le_refl _⟩
  yld := fun i H' x H'' d h y hd => by
    obtain ⟨rfl, y⟩ := y
    obtain ⟨v, hv, r⟩ := l.get hd
    have := (y xs (.of (h a _ n e))).symm.trans hv
    cases this
    exact ⟨fun _ _ e => e, fun M' t _ => r.tr t⟩
theorem Wk.str {g : Gh} {H1 : Hp} (x : List Nat) : Wk g H1 (Its (S2 x)) (x.map fun c => .str [c]) where
  go := fun i H' h hi => by
    show i < (S2 x).cps.size
    simpa using hi
  stop := fun H' h => by
    show (S2 x).cps.size ≤ _
    simp
  yld := fun i H' v H'' d h y hd => by
    obtain ⟨rfl, c, e, rfl⟩ := y
    have e' : x[i]? = some c := by simpa using e
    rw [List.getElem?_map, e'] at hd
    cases hd
    exact ⟨fun _ _ e => e, fun M' t _ => .str [c]⟩
theorem Wk.range {g : Gh} {H1 : Hp} (lo : Int) (n : Nat) : Wk g H1 (Itr lo n) ((List.range n).map fun i : Nat => .int (lo + (i : Int))) where
  go := fun i H' h hi => by
    show i < n
    simpa using hi
  stop := fun H' h => by
    show n ≤ _
    simp
  yld := fun i H' v H'' d h y hd => by
    obtain ⟨rfl, rfl⟩ := y
    rw [List.getElem?_map] at hd
    cases q : (List.range n)[i]? with
    | none => rw [q] at hd; cases hd
    | some j =>
      rw [q] at hd
      cases hd
      have hj : j = i := by
        rw [List.getElem?_range] at q
        · cases q; rfl
        · cases Nat.lt_or_ge i n with
          | inl h => exact h
          | inr h => rw [List.getElem?_eq_none (by simpa using h)] at q; cases q
      subst hj
      exact ⟨fun _ _ e => e, fun M' t _ => .int _⟩
def itemsD : D → Option (List D)
  | .lst xs => some xs
  | .tup xs => some xs
  | .str xs => some (xs.map fun c => .str [c])
  | _ => none
section
variable {X : Cx} {tg e : Expr} {te : TDE} {p pos tpos : Pos} {ts : TDA} {elts : List Expr} {kk : Nat}
/-- any sequence -/
def iAny (K : PySem.W.Frag) (tl : TE) : TI := fun σ H R => tl σ H fun x H1 =>
  (∃ a xs, x = .ref a ∧ H1 a = some (.lst xs) ∧ R (Itl K a) H1) ∨ (∃ a xs, x = .ref a ∧ H1 a = some (.tup xs) ∧ R (Itt K a) H1) ∨ ∃ z, x = .str z ∧ R (Its z) H1
theorem pi_any {tl : TE} (hl : PE X e tl) : PI X tg e (iAny X.K tl) := by
  constructor
  intro pins s σ H R I h
  apply thn (hl.run pins s σ H _ I h)
  rintro v s1 ⟨x, H1, I1, r1, ⟨a, xs, rfl, hq, q⟩ | ⟨a, xs, rfl, hq, q⟩ | ⟨z, rfl, q⟩⟩
  · cases r1
    obtain ⟨its, rv, pl, hz⟩ := I1.list (.of hq)
    exact wpAny_pyIter_list pl.isList (pi_one (tk := s1.toks) I1 _ (turn_list a _) ⟨_, Heap.get?_push_size _ rfl, rfl, rfl⟩ q)
  · cases r1
    obtain ⟨its, rv, pl, hz⟩ := I1.tuple (.of hq)
    have pl' : s1.heap.IsTuple a its.toArray := pl
    exact wpAny_pyIter_tuple pl' (pi_one (tk := s1.toks) I1 _ (turn_tuple a _) ⟨_, Heap.get?_push_size _ rfl, rfl, rfl⟩ q)
  · obtain ⟨t, rfl⟩ := r1
    by_cases ha : z.cps.all (· < 128) = true
    · exact wpAny_pyIter_ascii ha (pi_one (tk := s1.toks) I1 _ (turn_str _ z t _ (.inl rfl)) ⟨_, Heap.get?_push_size _ rfl, rfl, rfl⟩ q)
    · exact wpAny_pyIter_wide (by simpa using ha) (pi_one (tk := s1.toks) I1 _ (turn_str _ z t _ (.inr rfl)) ⟨_, Heap.get?_push_size _ rfl, rfl, rfl⟩ q)
def diSeq (te : TDE) : TDI := fun S Q => te S fun d => ∃ ds, itemsD d = some ds ∧ Q ds
theorem di_seq (he : PE X e (lE te)) : DI X tg e (diSeq te) := ⟨_, pi_any he, fun g σ H Qd R s w k => ⟨g, _, s, w, fun d v H1 w1 x1 s1 r1 => by
  obtain ⟨ds, e1, q⟩ := w1
  cases r1 <;> simp [itemsD] at e1
  · rename_i z
    subst e1
    exact .inr (.inr ⟨_, rfl, k _ _ H1 q x1 s1 (Wk.str z)⟩)
  · rename_i h n l
    subst e1
    exact .inl ⟨_, _, rfl, h, k _ _ H1 q x1 s1 (Wk.list h n l)⟩
  · rename_i h n l
    subst e1
    exact .inr (.inl ⟨_, _, rfl, h, k _ _ H1 q x1 s1 (Wk.tup h n l)⟩)⟩⟩
/-- range(n), range(a, b) -/
def diRng1 (ts : TDA) : TDI := fun S Q => ts S fun ds => ∃ n : Int, ds = [.int n] ∧ n < 2 ^ 62 ∧ -(2 ^ 62) ≤ n ∧ Q ((List.range n.toNat).map fun i : Nat => .int (0 + (i : Int)))
theorem di_range1 (hm : X.mg "range" = none) (ha : PA X [e] (lAP ts)) (hg : Gl X "range" := by rfl) (hs : starEach [e] X.env = [(false, eval e X.env)] := by rfl) : DI X tg (.Call (.Name "range" p) [e] [] pos) (diRng1 ts) :=
  ⟨_, pi_range1 hg hm ha hs, fun g σ H Qd R s w k => ⟨g, _, s, w, fun ds vs H1 w1 x1 s1 r1 => by
    obtain ⟨n, rfl, h1, h2, q⟩ := w1
    obtain ⟨v, rfl, h⟩ := r1.one
    cases h.int
    exact ⟨n, rfl, h2, h1, k _ _ H1 q x1 s1 (Wk.range 0 _)⟩⟩⟩
def diRng2 (ts : TDA) : TDI := fun S Q => ts S fun ds => ∃ m n : Int, ds = [.int m, .int n] ∧ (-(2 ^ 62) ≤ m ∧ m < 2 ^ 62 ∧ -(2 ^ 62) ≤ n ∧ n < 2 ^ 62) ∧ Q ((List.range (n - m).toNat).map fun i : Nat => .int (m + (i : Int)))
/-- enumerate(xs), xs a list -/
def enumD : Nat → List D → List D
  | _, [] => []
  | i, d :: ds => .tup [.int (i : Int), d] :: enumD (i + 1) ds
theorem enumD_length : ∀ (i : Nat) (ds : List D), (enumD i ds).length = ds.length
  | _, [] => rfl
  | i, d :: ds => by simp [enumD, enumD_length (i + 1) ds]
theorem enumD_get : ∀ (i j : Nat) (ds : List D), (enumD i ds)[j]? = (ds[j]?).map fun d => .tup [.int ((i + j : Nat) : Int), d]
  | i, j, [] => by simp [enumD]
  | i, 0, d :: ds => by simp [enumD]
  | i, j + 1, d :: ds => by
    simp only [enumD, List.getElem?_cons_succ]
    rw [enumD_get (i + 1) j ds]
    congr 1
    funext d
    rw [show i + 1 + j = i + (j + 1) by omega]
theorem Rp.pair {z : Bz} {M : MS} {H : Hp} {T : Addr} {xs : List V} {ds : List D} (l : RpL z M H xs ds) (hT : H T = none) (n : ¬ M T) : Rp z M (upd H T (.tup xs)) (.ref T) (.tup ds) :=
  .tup upd_same n (l.tr (Tr.of fun b o m e => ⟨by rw [upd_ne (ne_of_none e hT)]; exact e, m⟩))
theorem Wk.enum {g : Gh} {H1 : Hp} {K : PySem.W.Frag} {a : Addr} {xs : List V} {ds : List D} (e : H1 a = some (.lst xs)) (n : ¬ g.M a) (l : RpL g.z g.M H1 xs ds) : Wk g H1 (Ite K a) (enumD 0 ds) where
  go := fun i H' h hi => by
    rw [enumD_length] at hi
    obtain ⟨v, hv, _⟩ := l.get (List.getElem?_eq_getElem hi)
    exact ⟨xs, v, .of (h a _ n e), hv⟩
  stop := fun H' h => ⟨xs, .of (h a _ n e), by rw [l.length, enumD_length]; exact Nat.le_refl _⟩
  yld := fun i H' x H'' d h y hd => by
    obtain ⟨T, v, rfl, hT, rfl, y⟩ := y
    rw [enumD_get] at hd
    cases q : ds[i]? with
    | none => rw [q] at hd; cases hd
    | some d0 =>
      rw [q] at hd
      cases hd
      obtain ⟨v', hv, r⟩ := l.get q
      have := (y xs (.of (h a _ n e))).symm.trans hv
      cases this
      refine ⟨fun b o e => by rw [upd_ne (ne_of_none e hT)]; exact e, fun M' t fr => Rp.pair (.cons ?_ (.cons (r.tr t) .nil)) hT (fun h => (fr T h).ne hT)⟩
      rw [Nat.zero_add]
      exact .int _
def diEnum (ts : TDA) : TDI := fun S Q => ts S fun ds => ∃ xs, ds = [.lst xs] ∧ Q (enumD 0 xs)
theorem di_enum (hm : X.mg "enumerate" = none) (ha : PA X [e] (lA ts)) (hg : Gl X "enumerate" := by rfl) (hs : starEach [e] X.env = [(false, eval e X.env)] := by rfl) : DI X (.Tuple elts kk tpos) (.Call (.Name "enumerate" p) [e] [] pos) (diEnum ts) :=
  ⟨_, pi_enum hg hm ha hs, fun g σ H Qd R s w k => ⟨g, _, s, w, fun ds vs H1 w1 x1 s1 r1 => by
    obtain ⟨xs, rfl, q⟩ := w1
    rcases r1 with _ | ⟨r1, r2⟩
    cases r2
    cases r1 with
    | lst h n l => exact ⟨_, _, rfl, .of h, k _ _ H1 q x1 s1 (Wk.enum h n l)⟩⟩⟩
/-- zip(xs, ys), two lists or two tuples -/
def zipD : List D → List D → List D
  | x :: xs, y :: ys => .tup [x, y] :: zipD xs ys
  | _, _ => []
theorem zipD_length : ∀ xs ys : List D, (zipD xs ys).length = min xs.length ys.length
  | [], ys => by simp [zipD]
  | _ :: _, [] => by simp [zipD]
  | x :: xs, y :: ys => by simp [zipD, zipD_length xs ys, Nat.succ_min_succ]
theorem zipD_get : ∀ (j : Nat) (xs ys : List D) {d : D}, (zipD xs ys)[j]? = some d → ∃ x y, xs[j]? = some x ∧ ys[j]? = some y ∧ d = .tup [x, y]
  | j, [], ys, d, h => by simp [zipD] at h
  | j, _ :: _, [], d, h => by simp [zipD] at h
  | 0, x :: xs, y :: ys, d, h => by simp [zipD] at h; exact ⟨x, y, rfl, rfl, h.symm⟩
  | j + 1, x :: xs, y :: ys, d, h => by
    simp only [zipD, List.getElem?_cons_succ] at h
    simpa using zipD_get j xs ys h
theorem Wk.zip {g : Gh} {H1 : Hp} {K : PySem.W.Frag} {a b : Addr} {xs ys : List V} {ds es : List D} (e : H1 a = some (.lst xs)) (n : ¬ g.M a) (l : RpL g.z g.M H1 xs ds) (e' : H1 b = some (.lst ys)) (n' : ¬ g.M b) (l' : RpL g.z g.M H1 ys es) : Wk g H1 (Itz K a b) (zipD ds es) where
  go := fun i H' h hi => by
    rw [zipD_length] at hi
    obtain ⟨v, hv, _⟩ := l.get (List.getElem?_eq_getElem (show i < ds.length by omega))
    obtain ⟨v', hv', _⟩ := l'.get (List.getElem?_eq_getElem (show i < es.length by omega))
    exact ⟨xs, ys, v, v', .of (h a _ n e), .of (h b _ n' e'), hv, hv'⟩
  stop := fun H' h => ⟨xs, ys, .of (h a _ n e), .of (h b _ n' e'), by rw [l.length, l'.length, zipD_length]; omega⟩
  yld := fun i H' x H'' d h y hd => by
    obtain ⟨T, v, v', rfl, hT, rfl, y, y'⟩ := y
    obtain ⟨x, y0, e1, e2, rfl⟩ := zipD_get i _ _ hd
    obtain ⟨w, hv, r⟩ := l.get e1
    obtain ⟨w', hv', r'⟩ := l'.get e2
    have := (y xs (.of (h a _ n e))).symm.trans hv
    cases this
    have := (y' ys (.of (h b _ n' e'))).symm.trans hv'
    cases this
    exact ⟨fun b o e => by rw [upd_ne (ne_of_none e hT)]; exact e, fun M' t fr => Rp.pair (.cons (r.tr t) (.cons (r'.tr t) .nil)) hT (fun h => (fr T h).ne hT)⟩
theorem Wk.zipT {g : Gh} {H1 : Hp} {K : PySem.W.Frag} {a b : Addr} {xs ys : List V} {ds es : List D} (e : H1 a = some (.tup xs)) (n : ¬ g.M a) (l : RpL g.z g.M H1 xs ds) (e' : H1 b = some (.tup ys)) (n' : ¬ g.M b) (l' : RpL g.z g.M H1 ys es) : Wk g H1 (RZ.ItzT K a b) (zipD ds es) where
  go := fun i H' h hi => by
    rw [zipD_length] at hi
    obtain ⟨v, hv, _⟩ := l.get (List.getElem?_eq_getElem (show i < ds.length by omega))
    obtain ⟨v', hv', _⟩ := l'.get (List.getElem?_eq_getElem (show i < es.length by omega))
    exact ⟨xs, ys, v, v', .of (h a _ n e), .of (h b _ n' e'), hv, hv'⟩
  stop := fun H' h => ⟨xs, ys, .of (h a _ n e), .of (h b _ n' e'), by rw [l.length, l'.length, zipD_length]; omega⟩
  yld := fun i H' x H'' d h y hd => by
    obtain ⟨T, v, v', rfl, hT, rfl, y, y'⟩ := y
    obtain ⟨x, y0, e1, e2, rfl⟩ := zipD_get i _ _ hd
    obtain ⟨w, hv, r⟩ := l.get e1
    obtain ⟨w', hv', r'⟩ := l'.get e2
    have := (y xs (.of (h a _ n e))).symm.trans hv
    cases this
    have := (y' ys (.of (h b _ n' e'))).symm.trans hv'
    cases this
    exact ⟨fun b o e => by rw [upd_ne (ne_of_none e hT)]; exact e, fun M' t fr => Rp.pair (.cons (r.tr t) (.cons (r'.tr t) .nil)) hT (fun h => (fr T h).ne hT)⟩
def diZip (ts : TDA) : TDI := fun S Q => ts S fun ds => ∃ xs ys, (ds = [.lst xs, .lst ys] ∨ ds = [.tup xs, .tup ys]) ∧ Q (zipD xs ys)
theorem di_zip {e2 : Expr} (hm : X.mg "zip" = none) (ha : PA X [e, e2] (lA ts)) (hg : Gl X "zip" := by rfl) (hs : starEach [e, e2] X.env = (false, eval e X.env) :: starEach [e2] X.env := by rfl) (hpl : (backTo pos (starEach [e2] X.env)).any (·.1) = false := by rfl) :
    DI X (.Tuple elts kk tpos) (.Call (.Name "zip" p) [e, e2] [] pos) (diZip ts) :=
  ⟨_, RZ.pi_zipA hg hm ha hs hpl, fun g σ H Qd R s w k => ⟨g, _, s, w, fun ds vs H1 w1 x1 s1 r1 => by
    obtain ⟨xs, ys, hh, q⟩ := w1
    rcases hh with rfl | rfl
    · rcases r1 with _ | ⟨r1, r2⟩
      rcases r2 with _ | ⟨r2, r3⟩
      cases r3
      cases r1 with
      | lst h n l =>
        cases r2 with
        | lst h' n' l' => exact ⟨_, _, _, _, rfl, .inl ⟨.of h, .of h', k _ _ H1 q x1 s1 (Wk.zip h n l h' n' l')⟩⟩
    · rcases r1 with _ | ⟨r1, r2⟩
      rcases r2 with _ | ⟨r2, r3⟩
      cases r3
      cases r1 with
      | tup h n l =>
        cases r2 with
        | tup h' n' l' => exact ⟨_, _, _, _, rfl, .inr ⟨.of h, .of h', k _ _ H1 q x1 s1 (Wk.zipT h n l h' n' l')⟩⟩⟩⟩
end
end L2.DL
namespace L2.DL
open PySem PySem.Spec PyProof.Rows
abbrev TDG := D → SS → (SS → Prop) → Prop
abbrev TDGs := List D → SS → (SS → Prop) → Prop
def lG (is : List Nat) (t : TDG) : TG := fun v σ H Q => ∃ (g : Gh) (d : D) (Qd : SS → Prop), Stt g σ H ∧ Rp g.z g.M H v d ∧ t d g.S Qd ∧ ∀ S' σ', Stt { g with S := S' } σ' H → (∀ j, j ∉ is → σ'[j]? = σ[j]?) → σ'.length = σ.length → Qd S' → Q σ' H
def lGs (is : List Nat) (t : TDGs) : TGs := fun vs σ H Q => ∃ (g : Gh) (ds : List D) (Qd : SS → Prop), Stt g σ H ∧ RpL g.z g.M H vs ds ∧ t ds g.S Qd ∧ ∀ S' σ', Stt { g with S := S' } σ' H → (∀ j, j ∉ is → σ'[j]? = σ[j]?) → σ'.length = σ.length → Qd S' → Q σ' H
section
variable {X : Cx} {tg : Expr} {pos : Pos} {x : Str} {i : Nat} {es : List Expr} {e : Expr} {is js : List Nat}
theorem PG.imp {t t' : TG} (h : PG X tg t) (k : ∀ v σ H Q, t' v σ H Q → t v σ H Q) : PG X tg t' := ⟨fun pins s σ H v u Q I r w => h.run pins s σ H v u Q I r (k _ _ _ _ w)⟩
theorem PGs.imp {t t' : TGs} (h : PGs X es t) (k : ∀ v σ H Q, t' v σ H Q → t v σ H Q) : PGs X es t' := ⟨fun pins s σ H v u Q I r w => h.run pins s σ H v u Q I r (k _ _ _ _ w)⟩
def dgName (i : Nat) : TDG := fun d S Q => Q (S.set i (.val d))
theorem dg_name (hN : X.N.Nodup) (hi : X.N[i]? = some x) (hx : Loc X.env.scope x) (hf : X.fn x = true ∨ X.env.scope.names.lookup x = some .local := by first | exact .inl rfl | exact .inr rfl | assumption) : PG X (.Name x pos) (lG [i] (dgName i)) :=
  PG.imp (pg_name hN hi hx hf) fun v σ H Q ⟨g, d, Qd, s, r, w, k⟩ => k _ _ (s.setVal r) (fun j hj => List.getElem?_set_ne (by simpa using Ne.symm (by simpa using hj))) (List.length_set ..) w
def dgNil : TDGs := fun ds S Q => ds = [] ∧ Q S
def dgCons (t : TDG) (u : TDGs) : TDGs := fun ds S Q => ∃ d r, ds = d :: r ∧ t d S fun S' => u r S' Q
theorem dgs_nil : PGs X [] (lGs [] dgNil) := PGs.imp pgs_nil fun vs σ H Q ⟨g, ds, Qd, s, r, w, k⟩ => by
  obtain ⟨rfl, w⟩ := w
  cases r
  exact ⟨rfl, k g.S σ s (fun _ _ => rfl) rfl w⟩
theorem dgs_cons {t : TDG} {u : TDGs} (h1 : PG X e (lG is t)) (h2 : PGs X es (lGs js u)) (hs : (assignEach (e :: es) X.env).map (·.2) = assign e X.env :: (assignEach es X.env).map (·.2) := by rfl) : PGs X (e :: es) (lGs (is ++ js) (dgCons t u)) :=
  PGs.imp (pgs_cons h1 h2 hs) fun vs σ H Q ⟨g, ds, Qd, s, r, w, k⟩ => by
    obtain ⟨d, ds', rfl, w⟩ := w
    rcases r with _ | ⟨r1, r2⟩
    refine ⟨_, _, rfl, g, d, _, s, r1, w, fun S' σ' s' hs' hl' q => ?_⟩
    refine ⟨{ g with S := S' }, ds', Qd, s', r2, q, fun S2 σ2 s2 hs2 hl2 q2 => k S2 σ2 s2 (fun j hj => ?_) (hl2.trans hl') q2⟩
    simp only [List.mem_append, not_or] at hj
    rw [hs2 j hj.2, hs' j hj.1]
def dgTup (n : Nat) (t : TDGs) : TDG := fun d S Q => ∃ ds, d = .tup ds ∧ ds.length = n ∧ t ds S Q
theorem dg_tup {k n : Nat} {t : TDGs} (h : PGs X es (lGs is t)) (hc : X.calm = true := by rfl) (hn : (assignEach es X.env).length = n := by rfl) (hst : (assignEach es X.env).findIdx? (·.1) = none := by rfl) : PG X (.Tuple es k pos) (lG is (dgTup n t)) :=
  PG.imp (pg_tup hc h hn hst) fun v σ H Q ⟨g, d, Qd, s, r, w, k⟩ => by
    obtain ⟨ds, rfl, hl, w⟩ := w
    cases r with
    | tup h n l => exact ⟨_, _, rfl, .of h, by rw [l.length]; exact hl, g, ds, Qd, s, l, w, k⟩
/-- target = value -/
def dsAsg (te : TDE) (t : TDG) : TDS := fun De S => te S fun d => t d S De.nx
theorem ds_asg {te : TDE} {t : TDG} {pos : Pos} (he : PE X e (lE te)) (hg : PG X tg (lG is t)) (hs : swapsWithSole [tg] e pos.line X.env = pure false := by rfl) (hw : swappedStores [tg] e X.env = pure none := by rfl)
    (h1 : (assignEach [tg] X.env).map (·.2) = [assign tg X.env] := by rfl) : PS X (.Assign [tg] e pos) (lS (dsAsg te t)) := PS.imp (ps_asg he hg hs hw h1) fun D σ H ⟨g, De, s, w, l⟩ =>
  ⟨g, _, s, w, fun d v H1 w1 x1 s1 r1 => ⟨g, d, _, s1, r1, w1, fun S' σ' s' _ _ q => l.nx g.ow S' σ' H1 s' q⟩⟩
end
open Classical in
noncomputable def reb (g : Gh) (H : Hp) : Gh := { g with H0 := fun b => if ∃ i, g.ow i = some b then none else H b }
theorem reb_at {g : Gh} {H : Hp} {b : Addr} (h : ¬ ∃ i, g.ow i = some b) : (reb g H).H0 b = H b := if_neg h
theorem reb_own {g : Gh} {H : Hp} {b : Addr} (h : ∃ i, g.ow i = some b) : (reb g H).H0 b = none := if_pos h
theorem Stt.reb {g : Gh} {σ : St} {H : Hp} (s : Stt g σ H) : Stt (reb g H) σ H where
  rs := fun i as φ e => (s.rs i as φ e).tr (Tr.of fun _ _ n e => ⟨e, n⟩) (fun _ _ _ q => q) rfl fun _ => rfl
  len := s.len
  val := s.val
  own := s.own
  inj := s.inj
  new := fun i a e => ⟨reb_own ⟨i, e⟩, (s.new i a e).2⟩
  alive := s.alive
  keep := fun a o e n => by
    by_cases h : ∃ i, g.ow i = some a
    · rw [reb_own h] at e; cases e
    · rw [reb_at h] at e; exact e
  bag := s.bag
  ex := ⟨fun a o ha na => by
    have h1 := s.ex.e0 a o ha na
    rw [reb_at fun ⟨j, h⟩ => by rw [(s.new j a h).1] at h1; cases h1]
    exact s.keep a o h1 na, s.ex.em, s.ex.ea, s.ex.el, s.ex.ez, s.ex.en⟩
theorem Stt.unreb {g : Gh} {σ σ' : St} {H H' : Hp} {ow : Ix → Option Addr} {S : SS} (s0 : Stt g σ H) (s : Stt { DL.reb g H with ow := ow, S := S } σ' H') : Stt { g with ow := ow, S := S } σ' H' := by
  have key : ∀ a o, g.H0 a = some o → ¬ isB g.z a → (DL.reb g H).H0 a = some o := fun a o e n => by
    rw [reb_at (fun ⟨i, h⟩ => by rw [(s0.new i a h).1] at e; cases e)]
    exact s0.keep a o e n
  refine ⟨fun i as φ e => (s.rs i as φ e).tr (Tr.of fun _ _ n e => ⟨e, n⟩) (fun _ _ _ q => q) rfl fun _ => rfl, s.len, s.val, s.own, s.inj, fun i a e => ⟨?_, (s.new i a e).2⟩, s.alive, fun a o e n => s.keep a o (key a o e n) n, s.bag, s0.ex.e0, s.ex.em, s.ex.ea, s.ex.el, s.ex.ez, s.ex.en⟩
  cases q : g.H0 a with
  | none => rfl
  | some o =>
    have h1 := key a o q fun h => (s.new i a e).2.2 h.res
    have h2 : (DL.reb g H).H0 a = none := (s.new i a e).1
    rw [h1] at h2; cases h2
/-- at a later state of the loop -/
theorem lat_of {g : Gh} {σ σ' : St} {H H' : Hp} {ow : Ix → Option Addr} {S : SS} (s : Stt { reb g H with ow := ow, S := S } σ' H') : Lat g H H' := fun b o n e => by
  refine s.keep b o ?_ fun h => n (res_M h.res)
  show (reb g H).H0 b = some o
  rw [reb_at fun h => n (.inr (.inr h))]; exact e
theorem tr_of {g : Gh} {σ σ' : St} {H H' : Hp} {ow : Ix → Option Addr} {S : SS} (s : Stt { reb g H with ow := ow, S := S } σ' H') : Tr g.M H (Mo g.M0 g.z ow) H' := Tr.of fun b o n e => by
  refine ⟨lat_of (σ := σ') s b o n e, fun h => ?_⟩
  rcases h with h | h | ⟨i, h⟩
  · exact n (.inl h)
  · exact n (.inr (.inl h))
  · have h2 : (reb g H).H0 b = none := (s.new i b h).1
    rw [reb_at fun h => n (.inr (.inr h)), e] at h2; cases h2
theorem BagOk.grow {z : Bz} {H H' : Hp} (b : BagOk z H) (g : Grow H H') : BagOk z H' where
  bg := fun a l e => by
    obtain ⟨ne, ns, at_, big, seed, cnt, e1, e2, r⟩ := b.bg a l e
    exact ⟨ne, ns, at_, big, seed, cnt, g _ _ e1, g _ _ e2, r⟩
  tb := fun P e => (b.tb P e).keeps g
  ap := b.ap
def wpFor (body : D → TDS) : List D → TDS
  | [] => fun De S => De.nx S
  | d :: ds => fun De S => body d { De with nx := wpFor body ds De, ct := wpFor body ds De, bk := De.nx } S
def dsFor (ti : TDI) (tg : TDG) (tb : TDS) : TDS := fun De S => ti S fun ds => wpFor (fun d De' S' => tg d S' fun S2 => tb De' S2) ds De S
section
variable {X : Cx} {tg iter c : Expr} {pos : Pos} {is : List Nat} {body : List Stmt} {ti : TDI} {tgd : TDG} {tb : TDS} {tt : TDT}
theorem ds_for (hi : DI X tg iter ti) (hg : PG X tg (lG is tgd)) (hb : PSs X body (lS tb)) (hp : PassesOwn (model X.prog X.w) X.A X.env X.xe := by exact PassesOwn.never) (hc : X.calm = true := by rfl)
    (hs : ∀ x, foldedSetIterable iter X.env x = pure x := by intro _; rfl) : PS X (.For tg iter body [] pos) (lS (dsFor ti tgd tb)) := by
  obtain ⟨wi, hpi, hw⟩ := hi
  refine PS.imp (ps_for hp hc hpi hg hb hs) fun D σ H ⟨g, De, s, w, l⟩ => ?_
  refine hw g σ H _ _ s w fun ds J H1 w1 x1 s1 wk => ?_
  refine ⟨fun i m σ' H' => m = ds.length - i ∧ i ≤ ds.length ∧ ∃ (ow : Ix → Option Addr) (S : SS), Stt { reb g H1 with ow := ow, S := S } σ' H' ∧ wpFor (fun d De' S' => tgd d S' fun S2 => tb De' S2) (ds.drop i) De S,
    ⟨ds.length, by simp, Nat.zero_le _, g.ow, g.S, s1.reb, w1⟩, ?_⟩
  rintro i m σ' H' ⟨rfl, hi, ow, S, s', w'⟩
  by_cases hlt : i < ds.length
  · have ed : ds.drop i = ds[i] :: ds.drop (i + 1) := List.drop_eq_getElem_cons hlt
    rw [ed] at w'
    refine .inr ⟨wk.go i H' (lat_of (σ := σ') s') hlt, fun σ2 H2 => ∃ (ow : Ix → Option Addr) (S : SS), Stt { reb g H1 with ow := ow, S := S } σ2 H2 ∧ wpFor (fun d De' S' => tgd d S' fun S2 => tb De' S2) (ds.drop (i + 1)) De S,
      fun σ2 H2 ⟨ow2, S2, s2, w2⟩ => ⟨ds.length - (i + 1), by omega, rfl, hlt, ow2, S2, s2, w2⟩, fun x H'' y => ?_⟩
    obtain ⟨gr, rp⟩ := wk.yld i H' x H'' ds[i] (lat_of (σ := σ') s') y (List.getElem?_eq_getElem hlt)
    have r := rp _ (tr_of (σ := σ') s') s'.alive
    have s'' : Stt { reb g H1 with ow := ow, S := S } σ' H'' := s'.ext (fun a o e _ => gr a o e) (s'.bag.grow gr)
    refine ⟨_, ds[i], _, s'', r, w', fun S3 σ3 s3 _ _ w3 => ?_⟩
    refine ⟨{ reb g H1 with ow := ow, S := S3 }, _, s3, w3, ⟨fun ow4 S4 σ4 H4 s4 w4 => ⟨ow4, S4, s4, w4⟩, fun ow4 S4 σ4 H4 s4 w4 => l.nx ow4 S4 σ4 H4 (s1.unreb s4) w4, fun ow4 S4 σ4 H4 s4 w4 => ⟨ow4, S4, s4, w4⟩, fun d v H4 q x b r => ?_, fun d a H4 q x b hn nm o => ?_, fun ds' p as H4 q x b fr => ?_⟩⟩
    · refine l.rt d v H4 q (fun a o e n => ?_) b r
      refine x a o ?_ n
      show (reb g H1).H0 a = some o
      rw [reb_at fun ⟨j, h⟩ => by rw [(s1.new j a h).1] at e; cases e]
      exact s1.keep a o e n
    · have kk : ∀ a o, g.H0 a = some o → ¬ isB g.z a → (reb g H1).H0 a = some o := fun a o e n => by
        rw [reb_at fun ⟨j, h⟩ => by rw [(s1.new j a h).1] at e; cases e]
        exact s1.keep a o e n
      refine l.rf d a H4 q (fun a o e n => x a o (kk a o e n) n) b ?_ nm o
      cases q0 : g.H0 a with
      | none => rfl
      | some u =>
        have h1 := kk a u q0 fun h => nm (.inr (.inl h.res))
        have h2 : (reb g H1).H0 a = none := hn
        rw [h1] at h2; cases h2
    · have kk : ∀ a o, g.H0 a = some o → ¬ isB g.z a → (reb g H1).H0 a = some o := fun a o e n => by
        rw [reb_at fun ⟨j, h⟩ => by rw [(s1.new j a h).1] at e; cases e]
        exact s1.keep a o e n
      refine l.rg ds' p as H4 q (fun a o e n => x a o (kk a o e n) n) b ⟨fr.at_, fr.nd, fun a ha => ⟨?_, (fr.fr a ha).2⟩, fr.len, fr.ow⟩
      cases q0 : g.H0 a with
      | none => rfl
      | some u =>
        have h1 := kk a u q0 fun h => (fr.fr a ha).2 (.inr (.inl h.res))
        have h2 : (reb g H1).H0 a = none := (fr.fr a ha).1
        rw [h1] at h2; cases h2
  · have e : i = ds.length := by omega
    subst e
    rw [List.drop_length] at w'
    exact .inl ⟨wk.stop H' (lat_of (σ := σ') s'), l.nx ow S σ' H' (s1.unreb s') w'⟩
end
end L2.DL
namespace L2.DL
open PySem PySem.Spec PyProof.Rows
def wipeS (S : SS) : List Nat → SS
  | [] => S
  | v :: vs => (wipeS S vs).set v .no
theorem wipeS_length (S : SS) : ∀ vs : List Nat, (wipeS S vs).length = S.length
  | [] => rfl
  | v :: vs => by unfold wipeS; rw [List.length_set, wipeS_length S vs]
theorem wipeS_some {S : SS} {i : Nat} {x : Sl} : ∀ {vs : List Nat}, (wipeS S vs)[i]? = some x → x ≠ .no → S[i]? = some x ∧ i ∉ vs
  | [], h, _ => ⟨h, by simp⟩
  | v :: vs, h, hx => by
    unfold wipeS at h
    rw [List.getElem?_set] at h
    by_cases hi : v = i
    · subst hi
      rw [if_pos rfl] at h
      split at h
      · cases h; exact (hx rfl).elim
      · cases h
    · rw [if_neg hi] at h
      obtain ⟨h1, h2⟩ := wipeS_some h hx
      exact ⟨h1, by simp only [List.mem_cons, not_or]; exact ⟨fun e => hi e.symm, h2⟩⟩
theorem wipe_at {σ : St} {i : Nat} : ∀ {vs : List Nat}, i ∈ vs → (wipe σ vs)[i]? = if i < σ.length then some none else none
  | v :: vs, h => by
    unfold wipe
    rw [List.getElem?_set]
    by_cases hi : v = i
    · subst hi
      rw [if_pos rfl, wipe_length]
    · rw [if_neg hi]
      exact wipe_at ((List.mem_cons.mp h).resolve_left fun e => hi e.symm)
theorem wipe_eq {σ σ' : St} {vs is : List Nat} (h : ∀ j, j ∉ is → σ'[j]? = (wipe σ vs)[j]?) (hl : σ'.length = σ.length) (hs : ∀ j ∈ is, j ∈ vs) : wipe σ' vs = wipe σ vs := by
  apply List.ext_getElem?
  intro j
  by_cases hj : j ∈ vs
  · rw [wipe_at hj, wipe_at hj, hl]
  · rw [wipe_out hj]
    exact h j fun e => hj (hs j e)
theorem Stt.wipe {g : Gh} {σ : St} {H : Hp} (s : Stt g σ H) (vs : List Nat) : Stt { g with S := wipeS g.S vs } (wipe σ vs) H where
  rs := fun i as φ e => (s.rs i as φ (wipeS_some e (by intro h; cases h)).1).tr (Tr.of fun _ _ n e => ⟨e, n⟩) (fun _ _ _ q => q) rfl fun _ => rfl
  len := by show (wipeS g.S vs).length = _; rw [wipeS_length, wipe_length]; exact s.len
  val := fun i d e => by
    obtain ⟨e1, hi⟩ := wipeS_some e (by intro h; cases h)
    obtain ⟨v, e2, r⟩ := s.val i d e1
    exact ⟨v, by rw [wipe_out hi]; exact e2, r⟩
  own := fun i d e => by
    obtain ⟨e1, hi⟩ := wipeS_some e (by intro h; cases h)
    obtain ⟨v, e2, r⟩ := s.own i d e1
    exact ⟨v, by rw [wipe_out hi]; exact e2, r⟩
  inj := s.inj
  new := s.new
  alive := s.alive
  keep := s.keep
  bag := s.bag
  ex := ⟨s.ex.e0, s.ex.em, s.ex.ea, fun i E Ed e => s.ex.el i E Ed (wipeS_some e (by intro h; cases h)).1, fun i p e => s.ex.ez i p (wipeS_some e (by intro h; cases h)).1, s.ex.en⟩
/-- with one more address that is apart -/
def withD (g : Gh) (a : Addr) : Gh := { g with M0 := fun b => g.M0 b ∨ b = a }
theorem withD_M {g : Gh} {a b : Addr} : (withD g a).M b ↔ g.M b ∨ b = a := by
  constructor
  · rintro ((h | h) | h | h)
    · exact .inl (.inl h)
    · exact .inr h
    · exact .inl (.inr (.inl h))
    · exact .inl (.inr (.inr h))
  · rintro ((h | h | h) | h)
    · exact .inl (.inl h)
    · exact .inr (.inl h)
    · exact .inr (.inr h)
    · exact .inl (.inr h)
theorem Stt.withD {g : Gh} {σ : St} {H : Hp} {a : Addr} {o : HO} (s : Stt g σ H) (ha : H a = none) (no : NtO o := by exact trivial) : Stt (withD g a) σ (upd H a o) := by
  have tr : Tr g.M H (DL.withD g a).M (upd H a o) := Tr.of fun b u n e => by
    have ne := ne_of_none e ha
    exact ⟨by rw [upd_ne ne]; exact e, fun h => (withD_M.mp h).elim n ne⟩
  have s' := s.alloc (o := o) ha
  refine ⟨fun j as φ e => (s.rs j as φ e).tr tr (fun c hc o q => by rw [upd_ne (ne_of_none q ha)]; exact q) rfl fun _ => rfl, s.len, fun i d e => ?_, fun i d e => ?_, s.inj, fun i b e => ⟨(s.new i b e).1, fun h => ?_, (s.new i b e).2.2⟩, fun b h => ?_, s'.keep, s'.bag, s.ex.more (fun _ h => .inl h) fun b h => h.elim .inl fun h => .inr (by rw [h]; exact s.x0 ha)⟩
  · obtain ⟨v, e1, r⟩ := s.val i d e
    exact ⟨v, e1, r.tr tr⟩
  · obtain ⟨v, e1, e2, r⟩ := s.own i d e
    refine ⟨v, e1, e2, r.tr tr fun u q => ?_⟩
    rw [upd_ne (ne_of_none q ha)]; exact q
  · rcases h with h | h
    · exact (s.new i b e).2.1 h
    · subst h
      exact (s.alive b (.inr (.inr ⟨i, e⟩))).ne ha
  · rcases withD_M.mp h with h | rfl
    · exact s'.alive b h
    · exact Nt.upd no
def wpMap (f : D → (List D → Prop) → Prop) : List D → (List D → Prop) → Prop
  | [], Q => Q []
  | d :: ds, Q => f d fun r => wpMap f ds fun rs => Q (r ++ rs)
def dtsNil : TDT := fun _ Q => Q true
def ExtA (z : Bz) (A : Addr) (H H' : Hp) : Prop := ∀ b o, H b = some o → ¬ isB z b → b ≠ A → H' b = some o
theorem ExtA.trans {z : Bz} {A : Addr} {H H1 H2 : Hp} (a : ExtA z A H H1) (b : ExtA z A H1 H2) : ExtA z A H H2 := fun c o e n m => b c o (a c o e n m) n m
theorem Ext.A {z : Bz} {A : Addr} {H H' : Hp} (x : Ext z H H') : ExtA z A H H' := fun b o e n _ => x b o e n
theorem ExtA.upd {z : Bz} {A : Addr} {H H' : Hp} {o : HO} (x : ExtA z A H H') : ExtA z A H (upd H' A o) := fun b u e n m => by rw [upd_ne m]; exact x b u e n m
theorem ExtA.tr {g : Gh} {A : Addr} {H H' : Hp} (x : ExtA g.z A H H') (hm : g.M A) : Tr g.M H g.M H' := Tr.of fun b o n e => ⟨x b o e (fun h => n (res_M h.res)) fun h => by subst h; exact n hm, n⟩
theorem Stt.extA {g : Gh} {σ : St} {A : Addr} {H H' : Hp} (s : Stt g σ H) (hm : g.M0 A) (h0 : g.H0 A = none) (x : ExtA g.z A H H') (b : BagOk g.z H') (hA : Nt H' A) : Stt g σ H' := by
  have tr := x.tr (.inl hm)
  have nA : ∀ (i : Ix) a, g.ow i = some a → a ≠ A := fun i a e h => by subst h; exact (s.new i a e).2.1 hm
  refine ⟨fun j as φ e => (s.rs j as φ e).tr tr (fun c hc o q => x c o q (fun h => (s.rsNew e hc).2.2 h.res) (by rintro rfl; exact (s.rsNew e hc).2.1 hm)) rfl fun _ => rfl, s.len, fun i d e => ?_, fun i d e => ?_, s.inj, s.new, fun a h => ?_, fun a o e n => x a o (s.keep a o e n) n (fun h => by subst h; rw [h0] at e; cases e), b, s.ex⟩
  · obtain ⟨v, e1, r⟩ := s.val i d e
    exact ⟨v, e1, r.tr tr⟩
  · obtain ⟨v, e1, e2, r⟩ := s.own i d e
    exact ⟨v, e1, e2, r.tr tr fun o q => x v o q (fun h => (s.new i v e2).2.2 h.res) (nA i v e2)⟩
  · by_cases ha : a = A
    · subst ha; exact hA
    · by_cases hb : resB g.z a
      · exact b.alive hb
      · obtain ⟨o, e, n⟩ := s.alive a h
        exact ⟨o, x a o e (fun h => hb h.res) ha, n⟩
structure WkA (g : Gh) (A : Addr) (H1 : Hp) (J : It) (ds : List D) : Prop where
  go : ∀ i H', ExtA g.z A H1 H' → i < ds.length → J.go i H'
  stop : ∀ H', ExtA g.z A H1 H' → J.stop ds.length H'
  yld : ∀ (i : Nat) H' x H'' d, ExtA g.z A H1 H' → (∀ p, g.M p → Nt H' p) → J.yld i H' x H'' → ds[i]? = some d → Grow H' H'' ∧ Rp g.z g.M H'' x d
theorem lc_gen {g : Gh} {A : Addr} {σ : St} {H1 : Hp} {vs is : List Nat} {J : It} {ds : List D} {tgd : TDG} {B : St → Hp → (Hp → Prop) → Prop} {fB : SS → (List D → Prop) → Prop} {N : Hp → Prop} {xs0 : List V} {rs0 : List D} {Qr : List D → Prop}
    (s1 : Stt g σ H1) (hm : g.M0 A) (h0 : g.H0 A = none) (hr : ¬ resB g.z A) (wk : WkA g A H1 J ds) (hv : ∀ j ∈ is, j ∈ vs) (c : Nat)
    (hB : ∀ (S' : SS) (σ' : St) (H' : Hp) (xs : List V) (rs : List D) (Qr : List D → Prop) (Nx : Hp → Prop), Stt { g with S := S' } σ' H' → H' A = some (.lst xs) → RpL g.z g.M H' xs rs → rs.length + c ≤ sizeLine → fB S' Qr →
      (∀ H2 xs2 r, ExtA g.z A H' H2 → BagOk g.z H2 → H2 A = some (.lst xs2) → RpL g.z g.M H2 xs2 (rs ++ r) → r.length ≤ c → Qr r → Nx H2) → B σ' H' Nx)
    (e0 : H1 A = some (.lst xs0)) (l0 : RpL g.z g.M H1 xs0 rs0) (hb : rs0.length + ds.length * c ≤ sizeLine) (w : wpMap (fun d k => tgd d (wipeS g.S vs) fun S2 => fB S2 k) ds Qr)
    (hN : ∀ H2 xs2 r, ExtA g.z A H1 H2 → BagOk g.z H2 → H2 A = some (.lst xs2) → RpL g.z g.M H2 xs2 (rs0 ++ r) → r.length ≤ ds.length * c → Qr r → N H2) :
    ∃ W : Nat → Nat → Hp → Prop, (∃ m, W 0 m H1) ∧ ∀ i m H, W i m H → (J.stop i H ∧ N H) ∨ (J.go i H ∧ ∃ Nx : Hp → Prop, (∀ H', Nx H' → ∃ m', m' < m ∧ W (i + 1) m' H') ∧
      ∀ x H', J.yld i H x H' → lG is tgd x (L2.wipe σ vs) H' fun σ2 H2 => L2.wipe σ2 vs = L2.wipe σ vs ∧ B σ2 H2 Nx) := by
  refine ⟨fun i m H' => m = ds.length - i ∧ i ≤ ds.length ∧ ∃ xs r, ExtA g.z A H1 H' ∧ BagOk g.z H' ∧ H' A = some (.lst xs) ∧ RpL g.z g.M H' xs (rs0 ++ r) ∧ r.length ≤ i * c ∧ wpMap (fun d k => tgd d (wipeS g.S vs) fun S2 => fB S2 k) (ds.drop i) fun rest => Qr (r ++ rest),
    ⟨ds.length, by simp, Nat.zero_le _, xs0, [], fun b o e _ _ => e, s1.bag, e0, by simpa using l0, Nat.zero_le _, w⟩, ?_⟩
  rintro i m H' ⟨rfl, hi, xs, r, x, b, ea, l, hrl, w'⟩
  have s' : Stt g σ H' := s1.extA hm h0 x b ⟨_, ea, trivial⟩
  by_cases hlt : i < ds.length
  · have ed : ds.drop i = ds[i] :: ds.drop (i + 1) := List.drop_eq_getElem_cons hlt
    rw [ed] at w'
    have hmul : (i + 1) * c ≤ ds.length * c := Nat.mul_le_mul_right c hlt
    have hmul2 : (i + 1) * c = i * c + c := by rw [Nat.add_mul, Nat.one_mul]
    refine .inr ⟨wk.go i H' x hlt, fun H2 => ∃ xs r, ExtA g.z A H1 H2 ∧ BagOk g.z H2 ∧ H2 A = some (.lst xs) ∧ RpL g.z g.M H2 xs (rs0 ++ r) ∧ r.length ≤ (i + 1) * c ∧ wpMap (fun d k => tgd d (wipeS g.S vs) fun S2 => fB S2 k) (ds.drop (i + 1)) fun rest => Qr (r ++ rest),
      fun H2 h => ⟨ds.length - (i + 1), by omega, rfl, hlt, h⟩, fun v H'' y => ?_⟩
    obtain ⟨gr, rp⟩ := wk.yld i H' v H'' ds[i] x s'.alive y (List.getElem?_eq_getElem hlt)
    have x'' : Ext g.z H' H'' := fun a o e _ => gr a o e
    have s'' := (s'.ext x'' (b.grow gr)).wipe vs
    refine ⟨{ g with S := wipeS g.S vs }, ds[i], _, s'', rp, w', fun S3 σ3 s3 hs3 hl3 w3 => ⟨wipe_eq hs3 (by rw [hl3, wipe_length]) hv, ?_⟩⟩
    refine hB S3 σ3 H'' xs (rs0 ++ r) _ _ s3 (gr _ _ ea) (l.ext x'') (by rw [List.length_append]; omega) w3 fun H2 xs2 r2 x2 b2 ea2 l2 hr2 q2 => ?_
    refine ⟨xs2, r ++ r2, (x.trans x''.A).trans x2, b2, ea2, by rw [← List.append_assoc]; exact l2, by rw [List.length_append]; omega, ?_⟩
    simpa [List.append_assoc] using q2
  · have e : i = ds.length := by omega
    subst e
    rw [List.drop_length] at w'
    exact .inl ⟨wk.stop H' x, hN H' xs r x b ea l hrl (by simpa [wpMap] using w')⟩
def lcF (tt : TDT) (te : TDE) : SS → (List D → Prop) → Prop := fun S2 k => tt S2 fun b => if b = true then te S2 fun r => k [r] else k []
def lcB (A : Addr) (tt : TT) (te : TE) : St → Hp → (Hp → Prop) → Prop := fun σ2 H2 Nx => tt σ2 H2 fun b H3 => if b = true then te σ2 H3 fun y H4 => ∃ acc, H4 A = some (.lst acc) ∧ acc.length < sizeLine ∧ Nx (upd H4 A (.lst (acc ++ [y]))) else Nx H3
theorem lcB_ok {g : Gh} {A : Addr} {tt : TDT} {te : TDE} (hm : g.M0 A) (hr : ¬ resB g.z A) (S' : SS) (σ' : St) (H' : Hp) (xs : List V) (rs : List D) (Qr : List D → Prop) (Nx : Hp → Prop) (s : Stt { g with S := S' } σ' H') (ea : H' A = some (.lst xs)) (l : RpL g.z g.M H' xs rs) (hz : rs.length + 1 ≤ sizeLine) (w : lcF tt te S' Qr)
      (k : ∀ H2 xs2 r, ExtA g.z A H' H2 → BagOk g.z H2 → H2 A = some (.lst xs2) → RpL g.z g.M H2 xs2 (rs ++ r) → r.length ≤ 1 → Qr r → Nx H2) : lcB A (lT tt) (lE te) σ' H' Nx := by
  refine ⟨_, _, s, w, fun b H3 w3 x3 s3 => ?_⟩
  have ea3 := x3 A _ ea fun h => hr h.res
  cases b with
  | false => exact k H3 xs [] x3.A s3.bag ea3 (by simpa using l.ext x3) (by simp) w3
  | true =>
    refine ⟨_, _, s3, w3, fun d v H4 w4 x4 s4 r4 => ?_⟩
    have ea4 := x4 A _ ea3 fun h => hr h.res
    have hA : g.M A := .inl hm
    refine ⟨xs, ea4, by rw [l.length]; omega, k _ _ [d] (ExtA.upd (x3.trans x4).A) ?_ upd_same ?_ (by simp) w4⟩
    · exact s4.bag.mut hr fun c q e => by rw [ea4] at e; cases e
    · exact (((l.ext x3).ext x4).append (.one r4)).tr (tr_mut hA _)
/-- [e for t in it if c] -/
def dLc (ti : TDI) (tgd : TDG) (tt : TDT) (te : TDE) (vs : List Nat) : TDE := fun S Q => ti S fun ds => ds.length ≤ sizeLine ∧ wpMap (fun d k => tgd d (wipeS S vs) fun S2 => lcF tt te S2 k) ds fun rs => Q (.lst rs)
theorem Wk.A {g : Gh} {A : Addr} {H1 : Hp} {J : It} {ds : List D} {o : HO} (wk : Wk g H1 J ds) (hA : H1 A = none) : WkA (withD g A) A (upd H1 A o) J ds := by
  have lat : ∀ {H'}, ExtA g.z A (upd H1 A o) H' → Lat g H1 H' := fun {H'} x b u n e => x b u (by rw [upd_ne (ne_of_none e hA)]; exact e) (fun h => n (res_M h.res)) (ne_of_none e hA)
  refine ⟨fun i H' x hi => wk.go i H' (lat x) hi, fun H' x => wk.stop H' (lat x), fun i H' v H'' d x fr y hd => ?_⟩
  obtain ⟨gr, rp⟩ := wk.yld i H' v H'' d (lat x) y hd
  exact ⟨gr, rp _ (Tr.of fun b u n e => ⟨lat x b u n e, fun h => (withD_M.mp h).elim n (ne_of_none e hA)⟩) fr⟩
theorem Wk.A2 {g : Gh} {A : Addr} {H1 : Hp} {J : It} {ds : List D} (wk : Wk g H1 J ds) (hm : g.M A) : WkA g A H1 J ds := by
  have lat : ∀ {H'}, ExtA g.z A H1 H' → Lat g H1 H' := fun {H'} x b u n e => x b u e (fun h => n (res_M h.res)) fun h => by subst h; exact n hm
  refine ⟨fun i H' x hi => wk.go i H' (lat x) hi, fun H' x => wk.stop H' (lat x), fun i H' v H'' d x fr y hd => ?_⟩
  obtain ⟨gr, rp⟩ := wk.yld i H' v H'' d (lat x) y hd
  exact ⟨gr, rp _ (x.tr hm) fr⟩
section
variable {X : Cx} {elt tg iter tg1 iter1 : Expr} {ifs ifs1 : List Expr} {scope : Scope} {own : List (Str × Nat)} {pos : Pos} {is is1 vs1 : List Nat} {ti ti1 : TDI} {tgd tgd1 : TDG} {tt tt1 : TDT} {te : TDE}
theorem dts_nil : PTs X [] (lT dtsNil) := ⟨fun pins s σ H Q I h => by
  obtain ⟨g, Qd, s', w, k⟩ := h
  exact pts_nil.run pins s σ H Q I (k true H w .refl s')⟩
theorem dts_one {c : Expr} (h : PT X c (lT tt)) : PTs X [c] (lT tt) := pts_one h
theorem lc_end {g : Gh} {σ : St} {H H1 H2 : Hp} {A : Addr} {xs : List V} {rs : List D} {Qd : D → Prop} {Q : VK} {o : HO} (s1 : Stt g σ H1) (x1 : Ext g.z H H1) (hA : H1 A = none) (x : ExtA g.z A (upd H1 A o) H2) (b : BagOk g.z H2) (ea : H2 A = some (.lst xs)) (l : RpL g.z (withD g A).M H2 xs rs) (q : Qd (.lst rs))
    (k : ∀ d a H', Qd d → Ext g.z H H' → Stt g σ H' → H a = none → ¬ g.M a → OwF g.z g.M H' a d → Q (.ref a) H') : Q (.ref A) H2 := by
  have hr : ¬ resB g.z A := fun h => s1.fresh hA (res_M h)
  have x2 : Ext g.z H1 H2 := fun c u e n => x c u (by rw [upd_ne (ne_of_none e hA)]; exact e) n (ne_of_none e hA)
  exact k (.lst rs) A H2 q (x1.trans x2) (s1.ext x2 b) (x1.none_of hA fun h => hr h.res) (s1.fresh hA) (.lst ea (l.tr (M' := fun b => g.M b ∨ b = A) (Tr.of fun b o n e => ⟨e, fun h => n (withD_M.mpr h)⟩)))
def WalkOk (ti : TDI) (wi : TI) : Prop := ∀ (g : Gh) (σ : St) (H : Hp) (Qd : List D → Prop) (R : It → Hp → Prop), Stt g σ H → ti g.S Qd → (∀ ds J H1, Qd ds → Ext g.z H H1 → Stt g σ H1 → Wk g H1 J ds → R J H1) → wi σ H R
theorem lc_imp {wi : TI} {vs : List Nat} (hw : WalkOk ti wi) (hv : ∀ j ∈ is, j ∈ vs) {σ : St} {H : Hp} {Q : VK} (h : lF (dLc ti tgd tt te vs) σ H Q) : tLc wi (lG is tgd) (lT tt) (lE te) vs σ H Q := by
  obtain ⟨g, Qd, s, w, k⟩ := h
  refine hw g σ H _ _ s w fun ds J H1 w1 x1 s1 wk A hA => ?_
  have hr : ¬ resB g.z A := fun h => s1.fresh hA (res_M h)
  have h0 : g.H0 A = none := s1.keep.none_of hA fun h => hr h.res
  exact lc_gen (g := withD g A) (B := lcB A (lT tt) (lE te)) (fB := lcF tt te) (rs0 := []) (s1.withD hA) (.inr rfl) h0 hr (wk.A hA) hv 1 (lcB_ok (g := withD g A) (.inr rfl) hr) upd_same .nil (by simpa using w1.1) w1.2
    fun H2 xs2 r x b ea l _ q => lc_end s1 x1 hA x b ea l q k
abbrev BlkA (X : Cx) (scope : Scope) (P : Cx → Prop) : Prop := ∀ (s : Shared) (H : Hp) (C : Addr) (cl : List (Str × Addr)) (fp : List Addr), P (X.blk s H scope (compEnvC scope cl C X.env) fp)
theorem df_lc (hi : DI X tg iter ti) (hN : X.N.Nodup) (ok : BlkOk X.N X.env.scope scope own) (hg : BlkA X scope fun Y => PG Y tg (lG is tgd)) (ht : BlkA X scope fun Y => PTs Y ifs (lT tt)) (he : BlkA X scope fun Y => PE Y elt (lE te))
    (hv : ∀ j ∈ is, j ∈ own.map (·.2) := by decide) (hc : X.calm = true := by rfl) (hs : ∀ x, foldedSetIterable iter X.env x = pure x := by intro _; rfl) : PE X (.ListComp elt [⟨tg, iter, ifs, 0⟩] scope pos) (lF (dLc ti tgd tt te (own.map (·.2)))) := by
  obtain ⟨wi, hpi, hw⟩ := hi
  exact PE.imp (pe_lc hc hN hpi ok hg ht he hs) fun σ H Q h => lc_imp hw hv h
/-- y = [..] -/
theorem ds_setLc {i : Nat} {y : Str} {py spos : Pos} (hi : DI X tg iter ti) (hN : X.N.Nodup) (hy : X.N[i]? = some y) (hyl : X.env.scope.names.lookup y = some .local) (hsw : swapsWith (.ListComp elt [⟨tg, iter, ifs, 0⟩] scope pos) (some (.Name y py)) spos.line X.env = pure true) (ok : BlkOk X.N X.env.scope scope own) (hg : BlkA X scope fun Y => PG Y tg (lG is tgd)) (ht : BlkA X scope fun Y => PTs Y ifs (lT tt)) (he : BlkA X scope fun Y => PE Y elt (lE te))
    (hv : ∀ j ∈ is, j ∈ own.map (·.2) := by decide) (hc : X.calm = true := by rfl) (hs : ∀ x, foldedSetIterable iter X.env x = pure x := by intro _; rfl) : PS X (.Assign [.Name y py] (.ListComp elt [⟨tg, iter, ifs, 0⟩] scope pos) spos) (lS (dsSet i (dLc ti tgd tt te (own.map (·.2))))) := by
  obtain ⟨wi, hpi, hw⟩ := hi
  exact PS.imp (ps_setLc hc hN hy hyl hsw hpi ok hg ht he hs) fun D σ H ⟨g, De, s, w, l⟩ => lc_imp hw hv ⟨g, _, s, w, fun d a H1 w1 x1 s1 hn nm o => l.nx g.ow _ _ H1 (s1.setVal (o.keepE nm)) w1⟩
/-- [e for t in it if c for t1 in it1 if c1] -/
def lcF2 (B : Nat) (tt : TDT) (ti1 : TDI) (tgd1 : TDG) (tt1 : TDT) (te : TDE) (vs1 : List Nat) : SS → (List D → Prop) → Prop := fun S2 k => tt S2 fun b => if b = true then ti1 S2 fun es => es.length ≤ B ∧ wpMap (fun d k => tgd1 d (wipeS S2 vs1) fun S3 => lcF tt1 te S3 k) es k else k []
def dLc2 (ti : TDI) (tgd : TDG) (tt : TDT) (ti1 : TDI) (tgd1 : TDG) (tt1 : TDT) (te : TDE) (vs vs1 : List Nat) : TDE := fun S Q => ti S fun ds => ∃ B, ds.length * B ≤ sizeLine ∧ wpMap (fun d k => tgd d (wipeS S vs) fun S2 => lcF2 B tt ti1 tgd1 tt1 te vs1 S2 k) ds fun rs => Q (.lst rs)
theorem lc2_imp {wi wi1 : TI} {vs : List Nat} (hw : WalkOk ti wi) (hw1 : WalkOk ti1 wi1) (hv : ∀ j ∈ is, j ∈ vs) (hv1 : ∀ j ∈ is1, j ∈ vs1) {σ : St} {H : Hp} {Q : VK} (h : lF (dLc2 ti tgd tt ti1 tgd1 tt1 te vs vs1) σ H Q) : tLc2 wi (lG is tgd) (lT tt) wi1 (lG is1 tgd1) (lT tt1) (lE te) vs vs1 σ H Q := by
  obtain ⟨g, Qd, s, w, k⟩ := h
  refine hw g σ H _ _ s w fun ds J H1 ⟨c, w1, w2⟩ x1 s1 wk A hA => ?_
  have hr : ¬ resB g.z A := fun h => s1.fresh hA (res_M h)
  have h0 : g.H0 A = none := s1.keep.none_of hA fun h => hr h.res
  refine lc_gen (g := withD g A) (B := fun σ2 H3 Nx => lT tt σ2 H3 fun b H3 => if b = true then wi1 σ2 H3 fun J1 H4 => ∃ W1 : Nat → Nat → Hp → Prop, (∃ m, W1 0 m H4) ∧ ∀ j k H, W1 j k H →
      (J1.stop j H ∧ Nx H) ∨ (J1.go j H ∧ ∃ Nx1 : Hp → Prop, (∀ H', Nx1 H' → ∃ k', k' < k ∧ W1 (j + 1) k' H') ∧ ∀ x H', J1.yld j H x H' → lG is1 tgd1 x (L2.wipe σ2 vs1) H' fun σ3 H5 => L2.wipe σ3 vs1 = L2.wipe σ2 vs1 ∧ lcB A (lT tt1) (lE te) σ3 H5 Nx1)
    else Nx H3) (fB := lcF2 c tt ti1 tgd1 tt1 te vs1) (rs0 := []) (s1.withD hA) (.inr rfl) h0 hr (wk.A hA) hv c ?_ upd_same .nil (by simpa using w1) w2
    fun H2 xs2 r x b ea l _ q => lc_end s1 x1 hA x b ea l q k
  intro S' σ' H' xs rs Qr Nx s' ea l hz w' kk
  refine ⟨_, _, s', w', fun b H3 w3 x3 s3 => ?_⟩
  have ea3 := x3 A _ ea fun h => hr h.res
  cases b with
  | false => exact kk H3 xs [] x3.A s3.bag ea3 (by simpa using l.ext x3) (by simp) w3
  | true =>
    refine hw1 _ σ' H3 _ _ s3 w3 fun es J1 H4 w4 x4 s4 wk4 => ?_
    have ea4 := x4 A _ ea3 fun h => hr h.res
    have l4 := (l.ext x3).ext x4
    refine lc_gen (g := { withD g A with S := S' }) (B := lcB A (lT tt1) (lE te)) (fB := lcF tt1 te) s4 (.inr rfl) h0 hr (wk4.A2 (.inl (.inr rfl))) hv1 1 (lcB_ok (g := { withD g A with S := S' }) (.inr rfl) hr) ea4 l4 (by omega) w4.2
      fun H5 xs5 r x5 b5 ea5 l5 hr5 q5 => kk H5 xs5 r ((x3.trans x4).A.trans x5) b5 ea5 l5 (by omega) q5
theorem df_lc2 (hi : DI X tg iter ti) (hN : X.N.Nodup) (ok : BlkOk X.N X.env.scope scope own) (hvs1 : ∀ i ∈ vs1, i ∈ own.map (·.2)) (hg : BlkA X scope fun Y => PG Y tg (lG is tgd)) (ht : BlkA X scope fun Y => PTs Y ifs (lT tt)) (hi1 : ∃ wi1 : TI, (BlkA X scope fun Y => PI Y tg1 iter1 wi1) ∧ WalkOk ti1 wi1)
    (hg1 : BlkA X scope fun Y => PG Y tg1 (lG is1 tgd1)) (ht1 : BlkA X scope fun Y => PTs Y ifs1 (lT tt1)) (he : BlkA X scope fun Y => PE Y elt (lE te))
    (hv : ∀ j ∈ is, j ∈ own.map (·.2) := by decide) (hv1 : ∀ j ∈ is1, j ∈ vs1 := by decide) (hc : X.calm = true := by rfl) (hs : ∀ x, foldedSetIterable iter X.env x = pure x := by intro _; rfl) (hs1 : ∀ env x, foldedSetIterable iter1 env x = pure x := by intro _ _; rfl) :
    PE X (.ListComp elt [⟨tg, iter, ifs, 0⟩, ⟨tg1, iter1, ifs1, 0⟩] scope pos) (lF (dLc2 ti tgd tt ti1 tgd1 tt1 te (own.map (·.2)) vs1)) := by
  obtain ⟨wi, hpi, hw⟩ := hi
  obtain ⟨wi1, hpi1, hw1⟩ := hi1
  exact PE.imp (pe_lc2 hc hN hpi ok hvs1 hg ht hpi1 hg1 ht1 he hs hs1) fun σ H Q h => lc2_imp hw hw1 hv hv1 h
end
end L2.DL
namespace L2.DL
open PySem PySem.Spec PyProof.Rows
theorem u65 {k : Nat} {A : Around} (hr : Room k A) : A.units + 65 < cLine := by have := hr.un; omega
section
variable {X : Cx} {pos p : Pos} {a b c e o : Expr} {ta tb tc te to : TDE} {ts : TDA} {tg : Expr}
def dTestB (t : TDE) : TDT := fun S Q => t S fun d => ∃ k, d = .bl k ∧ Q k
theorem dt_cmp1 {op : CmpOp} {r : R2} {R : RD2} (ho : OpR X (compareOp op) r) (hr : Real2 r R) (ha : PE X a (lP ta)) (hb : PE X b (lP tb)) (hm : behindInMarks op b = false := by first | exact nomark _ | rfl) : PT X (.Compare a [op] [b] pos) (lT (dTestB (d2 R ta tb))) :=
  PT.imp (pt_cmpR ho ha hb hm) fun σ H Q ⟨g, Qd, s, w, k⟩ => ⟨g, _, s, w, fun d v H1 w1 x1 s1 r1 => ⟨g, _, s1, w1, fun d2 v2 H2 w2 x2 s2 r2 =>
    hr g σ H2 v v2 d d2 _ _ s2 (r1.ext x2) r2 w2 fun d' v' H' q x s' r => by
      obtain ⟨kk, rfl, q⟩ := q
      cases r
      exact ⟨kk, rfl, k kk H' q ((x1.trans x2).trans x) s'⟩⟩⟩
theorem dt_eq (hu : X.A.units + 64 < cLine) (ha : PE X a (lP ta)) (hb : PE X b (lP tb)) : PT X (.Compare a [.Eq] [b] pos) (lT (dTestB (d2 rEqDD ta tb))) := dt_cmp1 (op_eqD hu) real_eq ha hb
theorem dt_ne (hu : X.A.units + 64 < cLine) (ha : PE X a (lP ta)) (hb : PE X b (lP tb)) : PT X (.Compare a [.NotEq] [b] pos) (lT (dTestB (d2 rNeDD ta tb))) := dt_cmp1 (op_neD hu) real_ne ha hb
theorem dt_lt (ha : PE X a (lP ta)) (hb : PE X b (lP tb)) : PT X (.Compare a [.Lt] [b] pos) (lT (dTestB (d2 rLt ta tb))) := dt_cmp1 op_ltA real_ord ha hb
theorem dt_gt (ha : PE X a (lP ta)) (hb : PE X b (lP tb)) : PT X (.Compare a [.Gt] [b] pos) (lT (dTestB (d2 rGt ta tb))) := dt_cmp1 op_gtA real_ord ha hb
theorem dt_ge (ha : PE X a (lP ta)) (hb : PE X b (lP tb)) : PT X (.Compare a [.GtE] [b] pos) (lT (dTestB (d2 rGe ta tb))) := dt_cmp1 op_geA real_ord ha hb
theorem dt_in (hu : X.A.units + 65 < cLine) (ha : PE X a (lP ta)) (hb : PE X b (lP tb)) (hm : behindInMarks .In b = false := by rfl) : PT X (.Compare a [.In] [b] pos) (lT (dTestB (d2 (rInDD id) ta tb))) := dt_cmp1 (op_inA hu) real_in ha hb hm
theorem dt_isN {j pos'} (ha : PE X a (lP ta)) : PT X (.Compare a [.Is] [.Constant .none j pos'] pos) (lT (fun S Q => ta S fun d => knownD d = true ∧ Q (isNon d))) := PT.imp (pt_cmp (pc_isN ha)) fun σ H Q ⟨g, Qd, s, w, k⟩ =>
  ⟨g, _, s, w, fun d v H1 w1 x1 s1 r1 => ⟨isNon d, by rw [r1.nonIff w1.1], k _ H1 w1.2 x1 s1⟩⟩
theorem dt_chain {op op' : CmpOp} {r r' : R2} {R R' : RD2} (ho : OpR X (compareOp op) r) (ho' : OpR X (compareOp op') r') (hr : Real2 r R) (hr' : Real2 r' R') (ha : PE X a (lP ta)) (hb : PE X b (lP tb)) (hc : PE X c (lP tc))
    (hm : lastMarks [op, op'] [b, c] = false := by with_unfolding_all rfl) : PT X (.Compare a [op, op'] [b, c] pos) (lT (dTestB (d3 R R' ta tb tc))) := PT.imp (pt_chain ho ho' ha hb hc hm) fun σ H Q ⟨g, Qd, s, w, k⟩ =>
  ⟨g, _, s, w, fun d v H1 w1 x1 s1 r1 => ⟨g, _, s1, w1, fun d2 v2 H2 w2 x2 s2 r2 =>
    hr g σ H2 v v2 d d2 _ _ s2 (r1.ext x2) r2 w2 fun d' v' H3 q x3 s3 r3 => by
      obtain ⟨kk, e, q⟩ := q
      subst e
      cases r3
      refine ⟨kk, rfl, ?_⟩
      cases kk with
      | false =>
        obtain ⟨k', e', q⟩ := q
        cases e'
        exact ⟨false, rfl, k false H3 q ((x1.trans x2).trans x3) s3⟩
      | true =>
        exact ⟨g, _, s3, q, fun d4 v4 H4 w4 x4 s4 r4 => hr' g σ H4 v2 v4 d2 d4 _ _ s4 ((r2.ext x3).ext x4) r4 w4 fun d' v' H' q x s' r => by
          obtain ⟨k2, rfl, q⟩ := q
          cases r
          exact ⟨k2, rfl, k k2 H' q ((((x1.trans x2).trans x3).trans x4).trans x) s'⟩⟩⟩⟩
theorem dt_lele (ha : PE X a (lP ta)) (hb : PE X b (lP tb)) (hc : PE X c (lP tc)) (hm : lastMarks [.LtE, .LtE] [b, c] = false := by with_unfolding_all rfl) : PT X (.Compare a [.LtE, .LtE] [b, c] pos) (lT (dTestB (d3 rLe rLe ta tb tc))) := dt_chain op_leA op_leA real_ord real_ord ha hb hc hm
def rNegD : D → (D → Prop) → Prop
  | .int i, Q => Q (.int (-i))
  | _, _ => False
theorem de_neg (ha : PE X a (lP ta)) : PE X (.UnaryOp .USub a pos) (lE (d1 rNegD ta)) := PE.imp (pe_un un_neg ha) fun σ H Q ⟨g, Qd, s, w, k⟩ =>
  ⟨g, _, s, w, fun d v H1 w1 x1 s1 r1 => by
    cases d <;> try exact w1.elim
    cases r1.int
    exact ⟨_, rfl, k _ _ H1 w1 x1 s1 (.int _)⟩⟩
theorem walk_seq {K : PySem.W.Frag} : WalkOk (diSeq te) (iAny K (lE te)) := fun g σ H Qd R s w k => ⟨g, _, s, w, fun d v H1 w1 x1 s1 r1 => by
  obtain ⟨ds, e1, q⟩ := w1
  cases r1 <;> simp [itemsD] at e1
  · rename_i z
    subst e1
    exact .inr (.inr ⟨_, rfl, k _ _ H1 q x1 s1 (Wk.str z)⟩)
  · rename_i h n l
    subst e1
    exact .inl ⟨_, _, rfl, h, k _ _ H1 q x1 s1 (Wk.list h n l)⟩
  · rename_i h n l
    subst e1
    exact .inr (.inl ⟨_, _, rfl, h, k _ _ H1 q x1 s1 (Wk.tup h n l)⟩)⟩
theorem di1_seq {scope : Scope} (he : BlkA X scope fun Y => PE Y e (lE te)) : ∃ wi1 : TI, (BlkA X scope fun Y => PI Y tg e wi1) ∧ WalkOk (diSeq te) wi1 := ⟨_, fun s H C cl fp => pi_any (he s H C cl fp), walk_seq⟩
def joinL (sep : List Nat) : List (List Nat) → List Nat
  | [] => []
  | [x] => x
  | x :: y :: r => x ++ sep ++ joinL sep (y :: r)
def strsD : List D → Option (List (List Nat))
  | [] => some []
  | .str s :: r => (strsD r).map (s :: ·)
  | _ :: _ => none
theorem strsD_eq : ∀ {ds : List D} {ss : List (List Nat)}, strsD ds = some ss → ds = ss.map D.str
  | [], ss, h => by simp [strsD] at h; subst h; rfl
  | .str b :: r, ss, h => by
    simp [strsD] at h
    obtain ⟨c, h1, h2⟩ := h
    subst h2
    rw [strsD_eq h1]; rfl
theorem strsD_map (ss : List (List Nat)) : strsD (ss.map D.str) = some ss := by
  induction ss with
  | nil => rfl
  | cons b r ih => simp [strsD, ih]
theorem glue_foldl (sep : Array Nat) : ∀ (l : List Str) (a : Array Nat), (l.foldl (fun acc q => acc ++ sep ++ q.cps) a).toList = a.toList ++ (l.map fun q => sep.toList ++ q.cps.toList).flatten
  | [], a => by simp
  | x :: r, a => by
    rw [List.foldl_cons, glue_foldl sep r]
    simp
theorem joinL_cons (sep x : List Nat) : ∀ r : List (List Nat), joinL sep (x :: r) = x ++ (r.map fun q => sep ++ q).flatten
  | [] => by simp [joinL]
  | y :: r => by
    rw [joinL, joinL_cons sep y r]
    simp
theorem txt_join (sep : List Nat) (ys : List (List Nat)) : Txt.join (S2 sep) (ys.map S2) = S2 (joinL sep ys) := by
  cases ys with
  | nil => rfl
  | cons x r =>
    have e : (Txt.join (S2 sep) ((x :: r).map S2)).cps.toList = joinL sep (x :: r) := by
      show ((r.map S2).foldl (fun acc q => acc ++ sep.toArray ++ q.cps) x.toArray).toList = _
      rw [glue_foldl, joinL_cons]
      simp [List.map_map, Function.comp_def]
    rw [← e]
def rJoinD (a : List Nat) : D → (D → Prop) → Prop
  | .lst xs, Q => ∃ ys, strsD xs = some ys ∧ (ys.map (·.length)).sum + ys.length * a.length ≤ 16777216 ∧ Q (.str (joinL a ys))
  | .tup xs, Q => ∃ ys, strsD xs = some ys ∧ (ys.map (·.length)).sum + ys.length * a.length ≤ 16777216 ∧ Q (.str (joinL a ys))
  | _, _ => False
def dJoin (to te : TDE) : TDE := fun S Q => to S fun x => ∃ a, x = .str a ∧ te S fun y => rJoinD a y Q
theorem len_S2 (ys : List (List Nat)) : (ys.map S2).map (·.length) = ys.map (·.length) := by
  rw [List.map_map]
  apply List.map_congr_left
  intro x _
  exact S2_length x
theorem de_join {apos : Pos} (ho : PE X o (lP to)) (he : PE X e (lP te)) (hs : starEach [e] X.env = [(false, eval e X.env)] := by rfl) (hbase : attributeBase o "join" X.env (eval o X.env) = eval o X.env := by rfl) (hline : (apos.endLine == pos.line) = true := by rfl) :
    PE X (.Call (.Attribute o "join" apos) [e] [] pos) (lE (dJoin to te)) := PE.imp (pe_join ho he hs hbase hline) fun σ H Q ⟨g, Qd, s, w, k⟩ =>
  ⟨g, _, s, w, fun d v H1 w1 x1 s1 r1 => by
    obtain ⟨a, rfl, w1⟩ := w1
    cases r1.str
    refine ⟨⟨_, rfl⟩, g, _, s1, w1, fun d2 v2 H2 w2 x2 s2 r2 => ?_⟩
    cases d2 <;> try exact w2.elim
    · obtain ⟨q, xs, rfl, h1, l1⟩ := r2.lst
      obtain ⟨ys, e1, hz, q2⟩ := w2
      rw [strsD_eq e1] at l1
      rw [l1.strs] at h1
      refine ⟨_, _, ys.map S2, rfl, rfl, .inl (.of h1), by rw [len_S2, S2_length, List.length_map]; exact hz, ?_⟩
      rw [txt_join]
      exact k _ _ H2 q2 (x1.trans x2) s2 (.str _)
    · obtain ⟨q, xs, rfl, h1, l1⟩ := r2.tup
      obtain ⟨ys, e1, hz, q2⟩ := w2
      rw [strsD_eq e1] at l1
      rw [l1.strs] at h1
      refine ⟨_, _, ys.map S2, rfl, rfl, .inr (.of h1), by rw [len_S2, S2_length, List.length_map]; exact hz, ?_⟩
      rw [txt_join]
      exact k _ _ H2 q2 (x1.trans x2) s2 (.str _)⟩
end
end L2.DL
namespace L2.DL
open PySem PySem.Spec PyProof.Rows
/-- with more addresses that are apart -/
def apD (g : Gh) (as : List Addr) : Gh := { g with M0 := fun b => g.M0 b ∨ b ∈ as }
theorem apD_M {g : Gh} {as : List Addr} {b : Addr} : (apD g as).M b ↔ g.M b ∨ b ∈ as := by
  constructor
  · rintro ((h | h) | h | h)
    · exact .inl (.inl h)
    · exact .inr h
    · exact .inl (.inr (.inl h))
    · exact .inl (.inr (.inr h))
  · rintro ((h | h | h) | h)
    · exact .inl (.inl h)
    · exact .inr (.inl h)
    · exact .inr (.inr h)
    · exact .inl (.inr h)
theorem Stt.apart {g : Gh} {σ : St} {H H' : Hp} {as : List Addr} (s : Stt g σ H) (x : Ext g.z H H') (b : BagOk g.z H') (hn : ∀ a ∈ as, H a = none) (ha : ∀ a ∈ as, Nt H' a) : Stt (apD g as) σ H' := by
  have tr : Tr g.M H (apD g as).M H' := Tr.of fun c u n e => ⟨x c u e fun h => n (res_M h.res), fun h => (apD_M.mp h).elim n fun h => by rw [hn c h] at e; cases e⟩
  have s' := s.ext x b
  refine ⟨fun j bs φ e => (s.rs j bs φ e).tr tr (fun c hc o q => x c o q fun h => (s.rsNew e hc).2.2 h.res) rfl fun _ => rfl, s.len, fun i d e => ?_, fun i d e => ?_, s.inj, fun i c e => ⟨(s.new i c e).1, fun h => ?_, (s.new i c e).2.2⟩, fun c h => ?_, s'.keep, b, s.ex.more (fun _ h => .inl h) fun b h => h.elim .inl fun h => .inr (s.x0 (hn b h))⟩
  · obtain ⟨v, e1, r⟩ := s.val i d e
    exact ⟨v, e1, r.tr tr⟩
  · obtain ⟨v, e1, e2, r⟩ := s.own i d e
    exact ⟨v, e1, e2, r.tr tr fun u q => x v u q fun h => (s.new i v e2).2.2 h.res⟩
  · rcases h with h | h
    · exact (s.new i c e).2.1 h
    · exact (s.alive c (.inr (.inr ⟨i, e⟩))).ne (hn c h)
  · rcases apD_M.mp h with h | h
    · exact s'.alive c h
    · exact ha c h
/-- a kept value, a new thing -/
inductive KdL (z : Bz) (M : MS) (H : Hp) : List V → List (Bool × D) → Prop
  | nil : KdL z M H [] []
  | kept {v : V} {vs : List V} {d : D} {ks : List (Bool × D)} : Rp z M H v d → KdL z M H vs ks → KdL z M H (v :: vs) ((false, d) :: ks)
  | new {a : Addr} {vs : List V} {d : D} {ks : List (Bool × D)} : Ow z M H a d → KdL z M H vs ks → KdL z M H (.ref a :: vs) ((true, d) :: ks)
def newA : List V → List (Bool × D) → List Addr
  | .ref a :: vs, (true, _) :: ks => a :: newA vs ks
  | _ :: vs, (false, _) :: ks => newA vs ks
  | _, _ => []
theorem newA_kept (v : V) (vs : List V) (d : D) (ks : List (Bool × D)) : newA (v :: vs) ((false, d) :: ks) = newA vs ks := by cases v <;> rfl
theorem KdL.tr {z : Bz} {M M' : MS} {H H' : Hp} (t : Tr M H M' H') : ∀ {vs : List V} {ks : List (Bool × D)}, KdL z M H vs ks → (∀ a ∈ newA vs ks, ∀ o, H a = some o → H' a = some o) → KdL z M' H' vs ks
  | _, _, .nil, _ => .nil
  | _, _, .kept r l, h => .kept (r.tr t) (l.tr t (by rw [newA_kept] at h; exact h))
  | _, _, .new o l, h => .new (o.tr t (h _ (by simp [newA]))) (l.tr t fun a ha => h a (by simp [newA, ha]))
abbrev TDK := SS → (List (Bool × D) → Prop) → Prop
def dkNil : TDK := fun _ Q => Q []
def dkE (te : TDE) (t : TDK) : TDK := fun S Q => te S fun d => t S fun ks => Q ((false, d) :: ks)
def dkF (te : TDE) (t : TDK) : TDK := fun S Q => te S fun d => t S fun ks => Q ((true, d) :: ks)
def setK : SS → List Nat → List (Bool × D) → SS
  | S, i :: is, (false, d) :: ks => setK (S.set i (.val d)) is ks
  | S, i :: is, (true, d) :: ks => setK (S.set i (.own d)) is ks
  | S, _, _ => S
/-- names = display -/
def dsMul (is : List Nat) (ts : TDK) : TDS := fun De S => ts S fun ks => ks.length = is.length ∧ De.nx (setK S is ks)
theorem KdL.length {z : Bz} {M : MS} {H : Hp} : ∀ {vs : List V} {ks : List (Bool × D)}, KdL z M H vs ks → vs.length = ks.length
  | _, _, .nil => rfl
  | _, _, .kept _ l => by simp [l.length]
  | _, _, .new _ l => by simp [l.length]
end L2.DL
namespace L2.DL
open PySem PySem.Spec PyProof.Rows
def hasK {κ : Type} [DecidableEq κ] (l : List κ) (k : κ) : Bool := l.any fun x => decide (x = k)
theorem hasK_iff {κ : Type} [DecidableEq κ] {l : List κ} {k : κ} : hasK l k = true ↔ k ∈ l := by
  unfold hasK
  rw [List.any_eq_true]
  constructor
  · rintro ⟨x, h, e⟩
    rw [← of_decide_eq_true e]; exact h
  · intro h
    exact ⟨k, h, decide_eq_true rfl⟩
theorem hasK_not {κ : Type} [DecidableEq κ] {l : List κ} {k : κ} : ¬ hasK l k = true ↔ k ∉ l := not_congr hasK_iff
def dedup {κ : Type} [DecidableEq κ] : List κ → List κ → List κ
  | acc, [] => acc
  | acc, x :: r => if hasK acc x = true then dedup acc r else dedup (acc ++ [x]) r
theorem dedup_le {κ : Type} [DecidableEq κ] : ∀ (l acc : List κ), (dedup acc l).length ≤ acc.length + l.length
  | [], acc => by simp [dedup]
  | x :: r, acc => by
    unfold dedup
    split
    · have := dedup_le r acc; simp; omega
    · have := dedup_le r (acc ++ [x]); simp at this; simp; omega
theorem mem_dedup {κ : Type} [DecidableEq κ] {k : κ} : ∀ (l acc : List κ), k ∈ dedup acc l ↔ k ∈ acc ∨ k ∈ l
  | [], acc => by simp [dedup]
  | x :: r, acc => by
    unfold dedup
    split
    · rename_i h
      have h := hasK_iff.mp h
      rw [mem_dedup r acc]
      constructor
      · rintro (h1 | h1)
        · exact .inl h1
        · exact .inr (List.mem_cons_of_mem _ h1)
      · rintro (h1 | h1)
        · exact .inl h1
        · rcases List.mem_cons.mp h1 with rfl | h1
          · exact .inl h
          · exact .inr h1
    · rw [mem_dedup r (acc ++ [x]), List.mem_append, List.mem_singleton, List.mem_cons]
      constructor
      · rintro ((h1 | h1) | h1)
        · exact .inl h1
        · exact .inr (.inl h1)
        · exact .inr (.inr h1)
      · rintro (h1 | h1 | h1)
        · exact .inl (.inl h1)
        · exact .inl (.inr h1)
        · exact .inr h1
theorem nodup_dedup {κ : Type} [DecidableEq κ] : ∀ (l acc : List κ), acc.Nodup → (dedup acc l).Nodup
  | [], acc, h => h
  | x :: r, acc, h => by
    unfold dedup
    split
    · exact nodup_dedup r acc h
    · rename_i hx
      have hx := hasK_not.mp hx
      refine nodup_dedup r _ (List.nodup_append.mpr ⟨h, by simp, fun a ha b hb e => ?_⟩)
      rw [List.mem_singleton.mp hb] at e
      subst e
      exact hx ha
theorem dedup_snoc {κ : Type} [DecidableEq κ] (x : κ) : ∀ (l acc : List κ), dedup acc (l ++ [x]) = if hasK (dedup acc l) x = true then dedup acc l else dedup acc l ++ [x]
  | [], acc => by
    rw [List.nil_append]; rfl
  | y :: r, acc => by
    rw [List.cons_append]
    unfold dedup
    split
    · exact dedup_snoc x r acc
    · exact dedup_snoc x r (acc ++ [y])
def keyD : D → Option Key
  | .int i => some (.inl i)
  | .str s => some (.inr (S2 s))
  | _ => none
def keysD : List D → Option (List Key)
  | [] => some []
  | d :: ds => match keyD d, keysD ds with
    | some k, some ks => some (k :: ks)
    | _, _ => none
section
variable {X : Cx} {a : Expr} {ta : TDE} {p p2 q pos : Pos}
/-- len(set(xs)) -/
def rLenSet : D → (D → Prop) → Prop
  | .lst xs, Q => ∃ ks, keysD xs = some ks ∧ ks.length + 1 < scanBound ∧ Q (.int (dedup [] ks).length)
  | _, _ => False
end
end L2.DL
namespace L2.DL
open PySem PySem.Spec PyProof.Rows
abbrev dle : D → D → Bool := PySem.W.dataLe false toPy
def sortD (ds : List D) : List D := ds.mergeSort dle
structure CanSort (ds : List D) : Prop where
  plain : ∀ d ∈ ds, plainD d = true
  dep : ∀ d ∈ ds, dep d ≤ 64
  alike : PySem.W.AllAlike (ds.map toPy)
  kind : PySem.W.Sortable (ds.map toPy)
  len : ds.length ≤ sizeLine
section
variable {X : Cx}
def rSortD : RDC
  | [.lst xs], Q => CanSort xs ∧ Q (.lst (sortD xs))
  | _, _ => False
variable {e : Expr} {ts : TDA} {p pos : Pos}
def intsD : List D → Option (List Int)
  | [] => some []
  | .int i :: r => (intsD r).map (i :: ·)
  | _ :: _ => none
theorem intsD_eq : ∀ {ds : List D} {bs : List Int}, intsD ds = some bs → ds = bs.map D.int
  | [], bs, h => by simp [intsD] at h; subst h; rfl
  | .int b :: r, bs, h => by
    simp [intsD] at h
    obtain ⟨c, h1, h2⟩ := h
    subst h2
    rw [intsD_eq h1]; rfl
def rMaxD : RDC
  | [.lst x], Q => ∃ ns, intsD x = some ns ∧ 0 < ns.length ∧ ∀ m, m ∈ ns → (∀ y ∈ ns, y ≤ m) → Q (.int m)
  | _, _ => False
end
end L2.DL
namespace L2.DL
open PySem PySem.Spec PyProof.Rows
def permL {α : Type} (perm : List Nat) (l : List α) : List α := perm.filterMap fun i => l[i]?
theorem permL_vals {vs : List V} {us : List Value} (r : Vals vs us) : ∀ perm : List Nat, Vals (permL perm vs) (permL perm us)
  | [] => .nil
  | i :: perm => by
    unfold permL
    rw [List.filterMap_cons, List.filterMap_cons]
    cases q : vs[i]? with
    | none => rw [Vals.none_of r q]; exact permL_vals r perm
    | some v =>
      obtain ⟨u, e, ru⟩ := r.get q
      rw [e]
      exact .cons ru (permL_vals r perm)
theorem permL_rpl {z : Bz} {M : MS} {H : Hp} {vs : List V} {ds : List D} (r : RpL z M H vs ds) : ∀ perm : List Nat, RpL z M H (permL perm vs) (permL perm ds)
  | [] => .nil
  | i :: perm => by
    unfold permL
    rw [List.filterMap_cons, List.filterMap_cons]
    cases q : vs[i]? with
    | none =>
      have : ds[i]? = none := by
        have := r.length
        rw [List.getElem?_eq_none_iff] at q ⊢
        omega
      rw [this]; exact permL_rpl r perm
    | some v =>
      obtain ⟨d, e, ru⟩ := r.getV q
      rw [e]
      exact .cons ru (permL_rpl r perm)
abbrev KBp (K : PySem.W.Frag) (fd : FuncData) (ps : List Str) (n : Nat) (ks : List Str) (perm : List Nat) : Prop := KBn K fd ps n ks (fun us ws => permL perm (us ++ ws)) (fun vs zs => permL perm (vs ++ zs))
section
variable {K : PySem.W.Frag} {x qual : Str} {params : Arguments} {body : List Stmt} {scope : Scope} {dvs : List V} {kws : List (Str × V)} {f : Addr} {fd : FuncData} {ps : List Str}
theorem kbp_none (F : FunD K x qual params body scope [] kws f fd) (n : Nat) (ks : List Str) (perm : List Nat)
    (h : ∀ (kV doc pm : Value) (an : Option Addr) (cdv ct : Value) (us ws : List Value), us.length = n → ws.length = ks.length → bindArgs (PySem.W.fnOf x qual params body scope .none kV doc pm an cdv ct) ⟨us, ks.zip ws⟩ = pure (ps.zip (permL perm (us ++ ws)))) : KBp K fd ps n ks perm := by
  obtain ⟨oc, od, dV, kV, doc, pm, an, cdv, ct, osl, rfl, lk, hcd, hD, hK⟩ := F.ex
  refine ⟨fun s us ws _ h1 h2 => ?_, fun r rz => permL_vals (r.append rz) perm⟩
  rcases hD with ⟨_, rfl⟩ | ⟨e, _⟩
  · exact .of_eq (h kV doc pm an cdv ct us ws h1 h2)
  · exact absurd rfl e
end
section
variable {X : Cx} {pos p kpos : Pos} {es : List Expr} {e : Expr} {te : TDE} {ts tk : TDA} {x : Str} {tf : TDF} {n m k : Nat} {f : Addr} {fd : FuncData} {ps ks : List Str} {perm : List Nat} {kws : List Keyword} {nm : Option Str}
theorem PK.imp {t t' : TA} (h : PK X kws t) (i : ∀ σ H Q, t' σ H Q → t σ H Q) : PK X kws t' := ⟨fun pos pins s σ H Q I w => h.run pos pins s σ H Q I (i _ _ _ w)⟩
theorem dw_nil : PK X [] (lA daNil) := PK.imp pk_nil fun σ H Q ⟨g, Qd, s, w, k⟩ => k [] [] H w .refl s .nil
theorem dw_cons (he : PE X e (lE te)) (hr : PK X kws (lA ts)) : PK X (⟨nm, e, kpos⟩ :: kws) (lA (daCons te ts)) := PK.imp (pk_cons he hr) fun σ H Q ⟨g, Qd, s, w, k⟩ =>
  ⟨g, _, s, w, fun d v H1 w1 x1 s1 r1 => ⟨g, _, s1, w1, fun ds vs H2 w2 x2 s2 r2 => k _ _ H2 w2 (x1.trans x2) s2 (.cons (r1.ext x2) r2)⟩⟩
def dFnK (n m : Nat) (perm : List Nat) (tf : TDF) (ts tk : TDA) : TDE := fun S Q => ts S fun ds => tk S fun es => ds.length = n ∧ es.length = m ∧ tf (permL perm (ds ++ es)) Q
/-- f(k = v, ..) -/
theorem pe_fnK0 {sp : Sp} {tk : TA} {CX : CXT} {E : XK} (F : FnOk X.prog X.w X.K X.mg X.base CX k f fd ps sp) (hr : Room k X.A) (hm : X.mg x = some (.ref f)) (hk : PySem.W.keepIn X.K (.ref f) = true) (hb : KBp X.K fd ps 0 ks perm) (hx : Passes CX X E) (hkw : PK X kws tk) (hg : Gl X x)
    (hall : (backToKw pos (keywordEach kws X.env)).all (·.1.isSome) = true) (hks : (backToKw pos (keywordEach kws X.env)).filterMap (·.1) = ks) (hdb : (x == ("__debug__" : Str)) = false) (hpl : ((backTo pos (starEach [] X.env)).any (·.1) || (backToKw pos (keywordEach kws X.env)).any (·.1.isNone)) = false) :
    PE X (.Call (.Name x p) [] kws pos) (fun σ H Q => tk σ H fun zs H2 => zs.length = ks.length ∧ sp (permL perm ([] ++ zs)) H2 Q E) := by
  constructor
  intro pins s σ H Q I h
  apply wpAny_Call_Name_kw
  apply ld_glob I hg hm _ hdb
  refine PySem.W.callWith_KW0 (h₀ := X.base) I.ok.mod.kin hk hall (thn (hkw.run pos pins s σ H _ I h) fun ws s2 ⟨zs, H2, I2, rz, l2, q2⟩ => ⟨I2.kIn, ?_⟩) hpl
  rw [hks]
  exact run_fnN (us := []) (vs := []) F hr hb hx I2 .nil rz rfl l2 q2
theorem de_fnK0 (F : FnOk X.prog X.w X.K X.mg X.base CX0 k f fd ps (spE n tf)) (hr : Room k X.A) (hm : X.mg x = some (.ref f)) (hk : PySem.W.keepIn X.K (.ref f) = true) (hb : KBp X.K fd ps 0 ks perm) (hkw : PK X kws (lA tk)) (hn : ∀ ds Q, tf ds Q → ds.length = n) (hg : Gl X x := by rfl)
    (hall : (backToKw pos (keywordEach kws X.env)).all (·.1.isSome) = true := by rfl) (hks : (backToKw pos (keywordEach kws X.env)).filterMap (·.1) = ks := by rfl) (hdb : (x == ("__debug__" : Str)) = false := by decide) (hpl : ((backTo pos (starEach [] X.env)).any (·.1) || (backToKw pos (keywordEach kws X.env)).any (·.1.isNone)) = false := by rfl) :
    PE X (.Call (.Name x p) [] kws pos) (lE (dFnK 0 ks.length perm tf daNil tk)) := PE.imp (pe_fnK0 F hr hm hk hb pass0 hkw hg hall hks hdb hpl) fun σ H Q ⟨g, Qd, s, w, kk⟩ =>
  ⟨g, _, s, w, fun ds vs H1 w1 x1 s1 r1 => by
    obtain ⟨_, l2, w1⟩ := w1
    have r2 := permL_rpl r1 perm
    exact ⟨by rw [r1.length]; exact l2, by rw [List.nil_append, r2.length]; exact hn _ _ w1, g.z, g.M, _, Qd, s1.amb, r2, w1, fun d v H' q x b rp => kk d v H' q (x1.trans x) (s1.ext x b) rp⟩⟩
end
end L2.DL
namespace L2.DL
open PySem PySem.Spec PyProof.Rows
end L2.DL
namespace L2.DL
open PySem PySem.Spec PyProof.Rows
theorem wpMap_det {f : D → (List D → Prop) → Prop} (g : D → List D) : ∀ {ds : List D} {Q : List D → Prop}, (∀ d ∈ ds, ∀ k : List D → Prop, k (g d) → f d k) → Q (ds.flatMap g) → wpMap f ds Q
  | [], _, _, h => h
  | d :: ds, Q, hf, h => hf d (by simp) _ (wpMap_det g (fun e he => hf e (by simp [he])) (by simpa using h))
theorem flatMap_one (g : D → D) (ds : List D) : ds.flatMap (fun d => [g d]) = ds.map g := by
  induction ds with
  | nil => rfl
  | cons d ds ih => simp [ih]
theorem wpMap_map {f : D → (List D → Prop) → Prop} (g : D → D) {ds : List D} {Q : List D → Prop} (hf : ∀ d ∈ ds, ∀ k : List D → Prop, k [g d] → f d k) (h : Q (ds.map g)) : wpMap f ds Q :=
  wpMap_det (fun d => [g d]) hf (by rw [flatMap_one]; exact h)
/-- one result each, of a kind -/
theorem wpMap_all {f : D → (List D → Prop) → Prop} (R : D → Prop) : ∀ {ds : List D} {Q : List D → Prop}, (∀ d ∈ ds, ∀ k : List D → Prop, (∀ r, R r → k [r]) → f d k) → (∀ rs, rs.length = ds.length → (∀ r ∈ rs, R r) → Q rs) → wpMap f ds Q
  | [], _, _, h => h [] rfl (fun _ h => nomatch h)
  | d :: ds, Q, hf, h => hf d (by simp) _ fun r hr => wpMap_all R (fun e he => hf e (by simp [he])) fun rs hl hs => h (r :: rs) (by simp [hl]) fun x hx => (List.mem_cons.mp hx).elim (fun e => e ▸ hr) (hs x)
theorem wpFor_inv {body : D → TDS} {De : EndsD} (I : Nat → SS → Prop) : ∀ {ds : List D} {S : SS} (i : Nat), I i S →
    (∀ (j : Nat) (d : D) (S : SS) (De' : EndsD), ds[j]? = some d → I (i + j) S → (∀ S', I (i + j + 1) S' → De'.nx S') → (∀ S', I (i + j + 1) S' → De'.ct S') → (∀ S', De.nx S' → De'.bk S') → De'.rt = De.rt → De'.rf = De.rf → body d De' S) →
    (∀ S, I (i + ds.length) S → De.nx S) → wpFor body ds De S
  | [], S, i, h, _, hn => hn S h
  | d :: ds, S, i, h, hb, hn => hb 0 d S _ rfl h
      (fun S' h' => wpFor_inv I (i + 1) h' (fun j e S De' hj hI hn hc hk hr hf => hb (j + 1) e S De' hj (by rw [show i + (j + 1) = i + 1 + j by omega]; exact hI) (by rw [show i + (j + 1) + 1 = i + 1 + j + 1 by omega]; exact hn) (by rw [show i + (j + 1) + 1 = i + 1 + j + 1 by omega]; exact hc) hk hr hf) (fun S hS => hn S (by rw [show i + (d :: ds).length = i + 1 + ds.length by simp; omega]; exact hS)))
      (fun S' h' => wpFor_inv I (i + 1) h' (fun j e S De' hj hI hn hc hk hr hf => hb (j + 1) e S De' hj (by rw [show i + (j + 1) = i + 1 + j by omega]; exact hI) (by rw [show i + (j + 1) + 1 = i + 1 + j + 1 by omega]; exact hn) (by rw [show i + (j + 1) + 1 = i + 1 + j + 1 by omega]; exact hc) hk hr hf) (fun S hS => hn S (by rw [show i + (d :: ds).length = i + 1 + ds.length by simp; omega]; exact hS)))
      (fun _ h => h) rfl rfl
mutual
theorem deqv_refl : ∀ (d : D), deqv d d = true
  | .non => rfl
  | .bl b => by cases b <;> rfl
  | .int i => by show PyData.eqv _ _ = true; simp [toPy, PyData.eqv]
  | .str s => by show PyData.eqv _ _ = true; simp [toPy, PyData.eqv]
  | .lst xs => by show PyData.eqv _ _ = true; simp only [toPy, PyData.eqv]; exact deqvL_refl xs
  | .tup xs => by show PyData.eqv _ _ = true; simp only [toPy, PyData.eqv]; exact deqvL_refl xs
  | .dic _ _ _ _ => rfl
  | .ins _ _ _ => rfl
  | .raw _ => rfl
  | .bag => rfl
  | .clo _ => rfl
theorem deqvL_refl : ∀ (ds : List D), deqvL ds ds = true
  | [] => rfl
  | d :: ds => by
    have h1 := deqv_refl d
    have h2 := deqvL_refl ds
    show PyData.eqvAll _ _ = true
    simp only [toPyL, PyData.eqvAll, Bool.and_eq_true]
    exact ⟨h1, h2⟩
end
theorem plainL_iff : ∀ {ds : List D}, plainL ds = true ↔ ∀ d ∈ ds, plainD d = true
  | [] => by simp [plainL]
  | d :: ds => by simp [plainL, plainL_iff (ds := ds)]
end L2.DL
namespace L2.DL
open PySem PySem.Spec PyProof.Rows
theorem seq_cut {a b : TDS} {De : EndsD} {S : SS} (h : ∀ R, R = b De → a { De with nx := R } S) : dsSeq a b De S := h _ rfl
theorem for_rng {n : Int} {i : Nat} {tb : TDS} {De : EndsD} {S : SS} (I : Nat → SS → Prop) (h1 : n < 2 ^ 62) (h2 : -2 ^ 62 ≤ n) (h0 : I 0 S)
    (hb : ∀ (j : Nat) (S : SS) (De' : EndsD), (j : Int) < n → I j S → (∀ S', I (j + 1) S' → De'.nx S') → (∀ S', I (j + 1) S' → De'.ct S') → (∀ S', De.nx S' → De'.bk S') → De'.rt = De.rt → De'.rf = De.rf → tb De' (S.set i (.val (.int j))))
    (he : ∀ S, I n.toNat S → De.nx S) : dsFor (diRng1 (daCons (dC (.int n)) daNil)) (dgName i) tb De S := by
  refine ⟨n, rfl, h1, h2, wpFor_inv I 0 h0 (fun j d S De' hj hI hn hc hk hr hf => ?_) (fun S hI => he S ?_)⟩
  · obtain ⟨hl, e⟩ := List.getElem?_eq_some_iff.mp hj
    simp only [List.length_map, List.length_range] at hl
    simp only [List.getElem_map, List.getElem_range] at e
    subst e
    rw [Nat.zero_add] at hI hn hc
    have := hb j S De' (by omega) hI hn hc hk hr hf
    simp only [dgName, Int.zero_add]
    exact this
  · simpa using hI
/-- the law's own start: the bag alone -/
theorem lS_law {t : TDS} {D : Ends} {p l : Addr} {H : Hp} {v : Option V} {n : Nat} (hb : BagAt H p l) (hD : ∀ H', D.rt (.bl true) H')
    (w : t { nx := fun _ => False, rt := fun d => d = .bl true, rf := fun _ => False } (.no :: .val .bag :: List.replicate n .no)) : lS t D (v :: some (.ref p) :: List.replicate n none) H := by
  have hz : BagOk ⟨some (p, l), none, [], [], ""⟩ H := ⟨fun a b e => (by cases e; exact hb), fun P e => (by cases e), fun a l P _ e => (by cases e)⟩
  refine ⟨⟨⟨some (p, l), none, [], [], ""⟩, fun _ => False, H, H, fun _ => False, fun _ => none, .no :: .val .bag :: List.replicate n .no⟩, _, ⟨fun i as φ e => (by
    have h1 := List.mem_of_getElem? e
    simp at h1), by simp, fun i d e => ?_, fun i d e => ?_, fun i j a e => (by cases e), fun i a e => (by cases e), fun a h => ?_, .refl, hz, .refl, fun _ h => h, fun _ h => h.elim, fun i E Ed e => (by
    have h1 := List.mem_of_getElem? e
    simp at h1), fun i p e => (by
    have h1 := List.mem_of_getElem? e
    simp at h1), fun _ h => .inl h⟩, w, ?_⟩
  · match i, e with
    | 0, e => cases e
    | 1, e =>
      simp only [List.getElem?_cons_succ, List.getElem?_cons_zero, Option.some.injEq, Sl.val.injEq] at e
      subst e
      exact ⟨_, rfl, .bag rfl⟩
    | i + 2, e =>
      simp only [List.getElem?_cons_succ, List.getElem?_replicate] at e
      split at e <;> cases e
  · match i, e with
    | 0, e => cases e
    | 1, e => cases e
    | i + 2, e =>
      simp only [List.getElem?_cons_succ, List.getElem?_replicate] at e
      split at e <;> cases e
  · rcases h with h | h | ⟨i, h⟩
    · exact h.elim
    · exact hz.alive h
    · cases h
  · refine ⟨fun ow S σ H' s' q => q.elim, fun _ _ _ _ _ q => q.elim, fun _ _ _ _ _ q => q.elim, fun d v H' q x b rp => ?_, fun d a H' q => q.elim, fun _ _ _ _ q => q.elim⟩
    subst q
    cases rp
    exact hD H'
end L2.DL
namespace L2.DL
open PySem PySem.Spec PyProof.Rows
theorem permL_nil {α : Type} (l : List α) : permL [] l = [] := rfl
theorem permL_cons {α : Type} (i : Nat) (p : List Nat) (l : List α) : permL (i :: p) l = (l[i]?).toList ++ permL p l := by
  unfold permL
  rw [List.filterMap_cons]
  cases l[i]? <;> rfl
theorem deqv_int (i j : Int) : deqv (.int i) (.int j) = decide (i = j) := by
  show PyData.eqv _ _ = _
  simp only [toPy, PyData.eqv]
  by_cases h : i = j <;> simp [h]
end L2.DL
namespace L2.DL
open PySem PySem.Spec PyProof.Rows
theorem WkA.own {g : Gh} {H1 : Hp} {K : PySem.W.Frag} {a A : Addr} {o : HO} {xs : List V} {ds : List D} (e : H1 a = some (.lst xs)) (n : ¬ resB g.z a) (l : RpL g.z g.M H1 xs ds) (hA : H1 A = none) : WkA (withD g A) A (upd H1 A o) (Itl K a) ds := by
  have na : a ≠ A := ne_of_none e hA
  have at_ : ∀ {H'}, ExtA g.z A (upd H1 A o) H' → H' a = some (.lst xs) := fun {H'} x => x a _ (by rw [upd_ne na]; exact e) (fun h => n h.res) na
  refine ⟨fun i H' x hi => ?_, fun H' x => ⟨xs, .of (at_ x), by rw [l.length]; exact Nat.le_refl _⟩, fun i H' v H'' d x fr y hd => ?_⟩
  · obtain ⟨v, hv, _⟩ := l.get (List.getElem?_eq_getElem hi)
    exact ⟨xs, v, .of (at_ x), hv⟩
  · obtain ⟨rfl, y⟩ := y
    obtain ⟨v', hv, r⟩ := l.get hd
    have := (y xs (.of (at_ x))).symm.trans hv
    cases this
    have tr : Tr g.M H1 (withD g A).M H'' := Tr.of fun b u n e => ⟨x b u (by rw [upd_ne (ne_of_none e hA)]; exact e) (fun h => n (res_M h.res)) (ne_of_none e hA), fun h => (withD_M.mp h).elim n (ne_of_none e hA)⟩
    exact ⟨fun _ _ e => e, r.tr tr⟩
end L2.DL
namespace L2.DL
open PySem PySem.Spec PyProof.Rows
def getF : List Str → List D → Str → Option D
  | n :: ns, v :: vs, f => if n = f then some v else getF ns vs f
  | _, _, _ => none
theorem getF_rp {z : Bz} {M : MS} {H : Hp} {f : Str} {d : D} : ∀ {fs : List (Str × V)} {ds : List D}, RpL z M H (fs.map fun p => p.2) ds → getF (fs.map fun p => p.1) ds f = some d → ∃ v, fs.lookup f = some v ∧ Rp z M H v d
  | [], _, .nil, h => by simp [getF] at h
  | (n, v) :: fs, _, .cons a b, h => by
    simp only [List.map_cons, getF] at h
    by_cases c : n = f
    · subst c
      rw [if_pos rfl] at h
      cases h
      exact ⟨v, by simp [List.lookup], a⟩
    · rw [if_neg c] at h
      obtain ⟨v', e, r⟩ := getF_rp b h
      refine ⟨v', ?_, r⟩
      rw [List.lookup_cons, beq_eq_false_iff_ne.mpr (fun q => c q.symm)]
      exact e
theorem getF_no {f : Str} : ∀ {fs : List (Str × V)}, f ∉ (fs.map fun p => p.1) → fs.lookup f = none
  | [], _ => rfl
  | (n, v) :: fs, h => by
    simp only [List.map_cons, List.mem_cons, not_or] at h
    rw [List.lookup_cons, beq_eq_false_iff_ne.mpr h.1]
    exact getF_no h.2
def putN (f : Str) : List Str → List Str
  | [] => [f]
  | n :: ns => if n = f then n :: ns else n :: putN f ns
def putV (f : Str) (d : D) : List Str → List D → List D
  | n :: ns, v :: vs => if n = f then d :: vs else v :: putV f d ns vs
  | _, _ => [d]
theorem putF_names (f : Str) (v : V) : ∀ fs : List (Str × V), (putF f v fs).map (fun p => p.1) = putN f (fs.map fun p => p.1)
  | [] => rfl
  | (n, u) :: fs => by
    rw [putF.eq_2, List.map_cons, putN]
    by_cases c : n = f
    · rw [if_pos c, if_pos c]; rfl
    · rw [if_neg c, if_neg c, List.map_cons, putF_names f v fs]
theorem putF_vals {z : Bz} {M : MS} {H : Hp} {f : Str} {v : V} {d : D} (r : Rp z M H v d) : ∀ {fs : List (Str × V)} {ds : List D}, RpL z M H (fs.map fun p => p.2) ds → RpL z M H ((putF f v fs).map fun p => p.2) (putV f d (fs.map fun p => p.1) ds)
  | [], _, .nil => .cons r .nil
  | (n, u) :: fs, _, .cons a b => by
    rw [putF.eq_2, List.map_cons, putV]
    by_cases c : n = f
    · rw [if_pos c, if_pos c]; exact .cons r b
    · rw [if_neg c, if_neg c]; exact .cons a (putF_vals r b)
/-- an instance, read -/
theorem Pk.ins {g : Gh} {H : Hp} {v : V} {C : Addr} {ns : List Str} {vs : List D} (h : Pk g H v (.ins C ns vs)) : ∃ a dx fs, v = .ref a ∧ H a = some (.ins C dx fs) ∧ (∀ (f : Str) (d : D), f ≠ ("" : Str) → getF ns vs f = some d → ∃ u, fs.lookup f = some u ∧ Rp g.z g.M H u d) ∧ ∀ f : Str, f ∉ ns → fs.lookup f = none := by
  have key : ∀ (fs : List (Str × V)) (ds : List D) (a : Addr), RpL g.z g.M H (fs.map fun p => p.2) ds → (∀ (f : Str) (d : D), f ≠ ("" : Str) → getF ("" :: fs.map fun p => p.1) (.raw (.ref a) :: ds) f = some d → ∃ u, fs.lookup f = some u ∧ Rp g.z g.M H u d) ∧ ∀ f : Str, f ∉ (("" : Str) :: fs.map fun p => p.1) → fs.lookup f = none := fun fs ds a l =>
    ⟨fun f d hf e => getF_rp l (by rw [getF, if_neg (Ne.symm hf)] at e; exact e), fun f hf => getF_no fun q => hf (List.mem_cons_of_mem _ q)⟩
  rcases h with h | ⟨a, rfl, _, _, h⟩
  · cases h with
    | ins h q n l => exact ⟨_, _, _, rfl, h, fun f d _ e => getF_rp l e, fun f hf => getF_no hf⟩
    | slf h n l => exact ⟨_, _, _, rfl, h, (key _ _ _ l).1, fun f hf => getF_no fun q => hf (List.mem_cons_of_mem _ q)⟩
  · cases h with
    | ins h q l => exact ⟨_, _, _, rfl, h, fun f d _ e => getF_rp l e, fun f hf => getF_no hf⟩
    | slf h l => exact ⟨_, _, _, rfl, h, (key _ _ _ l).1, fun f hf => getF_no fun q => hf (List.mem_cons_of_mem _ q)⟩
def dFld (C : Addr) (f : Str) (te : TDE) : TDE := fun S Q => te S fun d => ∃ ns vs v, d = .ins C ns vs ∧ getF ns vs f = some v ∧ Q v
section
variable {X : Cx} {e o : Expr} {es : List Expr} {te to : TDE} {ts : TDA} {C f i' : Addr} {x m : Str} {fl : Str} {pos p apos pos' : Pos} {i n k : Nat} {fd : FuncData} {ps : List Str} {tf : TDF} {dvs : List V} {dds : List D}
theorem de_fld (he : PE X e (lP te)) (hc : Cls X.K C) (hn : NoAttr X.K C fl) (hf : fl ≠ ("" : Str) := by decide) (hb : attributeBase e fl X.env (eval e X.env) = eval e X.env := by rfl) : PE X (.Attribute e fl pos) (lE (dFld C fl te)) := PE.imp (pe_fld he hb) fun σ H Q ⟨g, Qd, s, w, k⟩ =>
  ⟨g, _, s, w, fun d v H1 w1 x1 s1 r1 => by
    obtain ⟨ns, vs, d1, rfl, e1, q⟩ := w1
    obtain ⟨a, dx, fs, rfl, h, hg, _⟩ := Pk.ins r1
    obtain ⟨u, e2, r2⟩ := hg _ _ hf e1
    exact ⟨a, C, dx, fs, u, rfl, h, hc, hn, e2, k d1 u H1 q x1 s1 r2⟩⟩
/-- self.f = e, of the new self -/
def dsFld (i : Nat) (C : Addr) (fl : Str) (te : TDE) : TDS := fun De S => ∃ ns vs a, S[i]? = some (.own (.ins C ("" :: ns) (.raw (.ref a) :: vs))) ∧ te S fun d => ns.length < 1000 ∧ De.nx (S.set i (.own (.ins C ("" :: putN fl ns) (.raw (.ref a) :: putV fl d ns vs))))
theorem ow_slf {z : Bz} {M : MS} {H : Hp} {a b C : Addr} {ns : List Str} {vs : List D} (h : Ow z M H a (.ins C ("" :: ns) (.raw (.ref b) :: vs))) : ∃ dx fs, b = a ∧ H a = some (.ins C dx fs) ∧ ns = (fs.map fun p => p.1) ∧ RpL z M H (fs.map fun p => p.2) vs := by
  generalize hd : D.ins C ("" :: ns) (.raw (.ref b) :: vs) = d at h
  cases h with
  | lst => cases hd
  | dicK => cases hd
  | dicT => cases hd
  | ins e q l =>
    simp only [D.ins.injEq] at hd
    exact (q (by rw [← hd.2.1]; simp)).elim
  | slf e l =>
    simp only [D.ins.injEq, List.cons.injEq, D.raw.injEq, V.ref.injEq, true_and] at hd
    obtain ⟨rfl, rfl, rfl, rfl⟩ := hd
    exact ⟨_, _, rfl, e, rfl, l⟩
theorem ds_fld (ho : PE X o (tVar i)) (he : PE X e (lE te)) (hc : Cls X.K C) (hn : NoAttr X.K C fl) (hs : swapsWith e (some (.Attribute o fl pos')) pos.line X.env = pure false := by rfl) : PS X (.Assign [.Attribute o fl pos'] e pos) (lS (dsFld i C fl te)) :=
  PS.imp (ps_fld ho he hs) fun D σ H ⟨g, De, s, ⟨ns, vs, b, e1, w⟩, l⟩ => ⟨g, _, s, w, fun d v H1 w1 x1 s1 r1 => by
    obtain ⟨a, ea, eo, o1⟩ := s1.own i _ e1
    obtain ⟨dx, fs, rfl, h1, rfl, l1⟩ := ow_slf o1
    refine ⟨.ref b, ea, b, C, dx, fs, rfl, h1, hc, hn, by have := w1.1; rwa [List.length_map] at this, ?_⟩
    have tr : Tr g.M H1 g.M (upd H1 b (HO.ins C dx (putF fl v fs))) := tr_mut (.inr (.inr ⟨i, eo⟩)) _
    refine l.nx g.ow _ σ _ (s1.mutate e1 ea (.inr rfl) ?_) w1.2
    have := Ow.slf (z := g.z) (M := g.M) (H := upd H1 b (.ins C dx (putF fl v fs))) (a := b) (C := C) (dx := dx) (fs := putF fl v fs) upd_same ((putF_vals r1 l1).tr tr)
    rw [putF_names] at this
    exact this⟩
/-- the contract of __init__: the heap ahead of the new object is the base -/
def spI (C : Addr) (n : Nat) (tf : TDF) : Sp := fun vs H Q _ => ∃ (H1 : Hp) (x dx : Addr) (us : List V) (ds : List D) (z : Bz) (M : MS) (Qd : D → Prop), vs = .ref x :: us ∧ us.length = n ∧ H = upd (upd H1 dx (.own x)) x (.ins C dx []) ∧ H1 x = none ∧ H1 dx = none ∧ dx ≠ x ∧ Amb z M H1 ∧ RpL z M H1 us ds ∧ tf ds Qd ∧ ∀ ns vs H', Qd (.ins C ns vs) → Ext z H1 H' → BagOk z H' → OwF z M H' x (.ins C ns vs) → Q .non H'
theorem df_make (M : Mk X.K C f) (F : FnOk X.prog X.w X.K X.mg X.base CX0 k f fd ps (spI C n tf)) (hr : Room (k + 1) X.A) (hm : X.mg x = some (.ref C)) (hb : ∃ dsv, Vals dvs dsv ∧ Binds X.K fd ps dsv) (hdd : ∀ z M H, RpL z M H dvs dds) (ha : PA X (e :: es) (lA ts)) (hn : ∀ ds Q, tf ds Q → ds.length = n) (hg : Gl X x := by rfl)
    (hdb : (x == ("__debug__" : Str)) = false := by decide) (he : starEach (e :: es) X.env = (false, eval e X.env) :: starEach es X.env := by rfl) (hpl : (backTo pos (starEach es X.env)).any (·.1) = false := by rfl) : PE X (.Call (.Name x p) (e :: es) [] pos) (lF (dFn tf dds ts)) := by
  obtain ⟨dsv, hd, hb⟩ := hb
  exact PE.imp (pe_make M F hr hg hm hb hd pass0 ha hdb he hpl) fun σ H Q ⟨g, Qd, s, w, kk⟩ =>
    ⟨g, _, s, w, fun ds vs H1 w1 x1 s1 r1 y dx hy hdx ne => by
      have r2 := r1.append (hdd g.z g.M H1)
      exact ⟨H1, y, dx, vs ++ dvs, _, g.z, g.M, Qd, rfl, by rw [r2.length]; exact hn _ _ w1, rfl, hy, hdx, ne, s1.amb, r2, w1, fun ns us H' q x b o => ⟨rfl, kk (.ins C ns us) y H' q (x1.trans x) (s1.ext x b) (x1.none_of hy fun h => s1.fresh hy (res_M h.res)) (s1.fresh hy) o⟩⟩⟩
def dMeth (C : Addr) (m : Str) (tf : TDF) (dds : List D) (to : TDE) (ts : TDA) : TDE := fun S Q => to S fun d => ∃ ns vs, d = .ins C ns vs ∧ m ∉ ns ∧ ts S fun ds => tf (d :: (ds ++ dds)) Q
end
end L2.DL
namespace L2.DL
open PySem PySem.Spec PyProof.Rows
theorem instAt_of {P : Program} {w : World} {H : Hp} {h : Heap} {a C dx : Addr} {fs : List (Str × V)} (k : HOk P w H h) (e : H a = some (.ins C dx fs)) : ∃ ox od, PySem.W.InstAt h a ox C od := by
  obtain ⟨mA, O, _⟩ := ins_get k e
  obtain ⟨o, es, ep, ho, _⟩ := O.ns
  exact ⟨_, some o, O.obj, rfl, rfl, ho⟩
theorem back_of {X : Cx} {pins : List (Addr × Obj)} {σ : St} {Q : VK} {v : Value} {s : Shared} (h : EP X pins σ Q v s) : PySem.W.CmpBack (EP X pins σ Q) v s := by
  obtain ⟨x, H, I, r, q⟩ := h
  have h' : EP X pins σ Q v s := ⟨x, H, I, r, q⟩
  cases v <;> first | exact h' | (cases x <;> (try (exact (nomatch r))) <;> (try (obtain ⟨_, r⟩ := r)) <;> cases r)
section
variable {X : Cx} {C f : Addr} {fd : FuncData} {ps : List Str} {op : Operator} {tf : TDF} {k : Nat} {a b : Expr} {ta tb : TDE} {pos : Pos}
def dOp2 (C : Addr) (tf : TDF) (ta tb : TDE) : TDE := fun S Q => ta S fun d => tb S fun e => (∃ ns vs, d = .ins C ns vs) ∧ (∃ i, e = .int i) ∧ tf [d, e] Q
end
section
variable {X : Cx} {C f : Addr} {fd : FuncData} {ps : List Str} {tf : TDF} {k : Nat} {a b : Expr} {ta tb : TDE} {pos : Pos}
theorem run_in1 {CX : CXT} {sp : Sp} {dvs : List V} {ds : List Value} {E : XK} {pins : List (Addr × Obj)} {σ : St} {H : Hp} {s : Shared} {Q : VK} {us : List Value} {vs : List V} (F : FnOk X.prog X.w X.K X.mg X.base CX k f fd ps sp) (hr : Room (k + 1) X.A) (hb : Binds X.K fd ps ds) (hd : Vals dvs ds) (hx : Passes CX X E) (I : L2.Inv X pins σ H s) (r : Vals vs us) (h : sp (vs ++ dvs) H Q E) :
    wpAny (model X.prog X.w) X.A.in1 (call (.ref f) us) (EP X pins σ Q) X.xe s := by
  have r2 := Vals.append r hd
  have hl : (us ++ ds).length = ps.length := by rw [← r2.length]; exact F.len _ _ _ _ h
  have e := Inv.env0 I
  have hr1 : Room k X.A.in1 := ⟨hr.hd, by have := hr.dp; show X.A.depth + 3 * k + 5 < _; omega, by have := hr.un; show X.A.units + 1 + 16 * k + 200 < _; omega⟩
  refine wpAny_call (codeAny_mono (F.run X.A.in1 X.stack s H ⟨us, []⟩ (us ++ ds) (vs ++ dvs) Q E hr1 ⟨e.frames, e.mod, e.bs, e.bsz, e.funs, e.frf, e.hok, e.bare⟩ (hb s us I.kIn hl) r2 h) fun r s' hq => ?_)
  cases r with
  | error e => exact hx pins σ H s e s' I hq
  | ok fl => cases fl <;> first | exact hq.elim | exact I.after hq
def dRadd (C : Addr) (tf : TDF) (ta tb : TDE) : TDE := fun S Q => ta S fun d => tb S fun e => (∃ x, d = .str x) ∧ (∃ ns vs, e = .ins C ns vs) ∧ tf [e, d] Q
def dGet (C : Addr) (tf : TDF) (ta tb : TDE) : TDE := fun S Q => ta S fun d => tb S fun e => (∃ ns vs, d = .ins C ns vs) ∧ tf [d, e] Q
def dEqI (C : Addr) (tf : TDF) (ta tb : TDE) : TDE := fun S Q => ta S fun d => tb S fun e => (∃ ns vs, d = .ins C ns vs) ∧ (∃ ns vs, e = .ins C ns vs) ∧ tf [d, e] Q
end
end L2.DL
namespace L2.DL
open PySem PySem.Spec PyProof.Rows
structure IsC (K : PySem.W.Frag) (C : Addr) : Prop where
  cls : Cls K C
  at_ : PySem.W.findIn K (.ref C) "__class__" = some (some (.builtin "object.__class__"))
  sp : PySem.W.specialIn K (.builtin "object.__class__") "__get__" = some (some (.builtin "getset_descriptor.__get__"))
  tk : PySem.W.takesIn K (.builtin "object.__class__") = some true
  mro : PySem.W.mroIn K C (.type "object") = some true
section
variable {X : Cx} {e o a b : Expr} {te to : TDE} {ts : TDA} {C f : Addr} {x m : Str} {pos p apos : Pos} {n k : Nat} {fd : FuncData} {ps : List Str} {tf : TDF} {dvs : List V} {dds : List D}
theorem de_cls (hm : X.mg x = some (.ref C)) (hg : Gl X x := by rfl) (hdb : (x == ("__debug__" : Str)) = false := by decide) : PE X (.Name x pos) (lE (dC (.raw (.ref C)))) := de_C (pe_glob (v := .ref C) hg hm rfl hdb) fun _ _ _ => .raw _
def rIsiC (C : Addr) : RDC
  | [.ins C' _ _, .raw (.ref C'')], Q => (C' = C ∧ C'' = C) ∧ Q (.bl true)
  | _, _ => False
theorem de_meth0 (ho : PE X o (lE to)) (hc : Cls X.K C) (hm : Meth X.K C m f) (F : FnOk X.prog X.w X.K X.mg X.base CX0 k f fd ps (spE n tf)) (hr : Room k X.A) (hb : ∃ dsv, Vals dvs dsv ∧ Binds X.K fd ps dsv) (hdd : ∀ z M H, RpL z M H dvs dds) (hn : ∀ ds Q, tf ds Q → ds.length = n) {pl : Sem Bool}
    (hev : eval (.Call (.Attribute o m apos) [] [] pos) X.env = (do let ov ← eval o X.env; standAt apos.atName; let fs ← holding [ov] (getMethod ov m pl); callWith pos fs.1 fs.2 (backTo pos (starEach [] X.env)) (backToKw pos (keywordEach [] X.env))) := by rfl) :
    PE X (.Call (.Attribute o m apos) [] [] pos) (lE (dMeth C m tf dds to daNil)) := by
  obtain ⟨dsv, hd, hb⟩ := hb
  exact PE.imp (pe_meth0 ho hc hm F hr hb hd pass0 hev) fun σ H Q ⟨g, Qd, s, w, kk⟩ =>
    ⟨g, _, s, w, fun d v H1 w1 x1 s1 r1 => by
      obtain ⟨ns, vs, rfl, hmn, w2⟩ := w1
      obtain ⟨a, dx, fs, rfl, h, _, hno⟩ := Pk.ins (.inl r1)
      have r3 : RpL g.z g.M H1 (.ref a :: ([] ++ dvs)) (.ins C ns vs :: ([] ++ dds)) := .cons r1 (hdd g.z g.M H1)
      exact ⟨a, dx, fs, rfl, h, hno m hmn, by rw [r3.length]; exact hn _ _ w2, g.z, g.M, _, Qd, s1.amb, r3, w2, fun d v H' q x b rp => kk d v H' q (x1.trans x) (s1.ext x b) rp⟩⟩
end
end L2.DL
namespace L2.DL
open PySem PySem.Spec PyProof.Rows
theorem for_cutG {ti : TDI} {tg : TDG} {tb : TDS} {De : EndsD} {S : SS} (h : ∀ G : List D → Prop, (∀ ds, wpFor (fun d De' S' => tg d S' fun S2 => tb De' S2) ds De S → G ds) → ti S G) : dsFor ti tg tb De S := h _ fun _ h => h
end L2.DL
namespace L2.DL
open PySem PySem.Spec PyProof.Rows
def tyNames : List String := ["NoneType", "bool", "int", "str", "list", "tuple"]
theorem tyN_mem {d : D} {n : String} (h : tyN d = some n) : n ∈ tyNames := by
  cases d <;> simp [tyN] at h <;> subst h <;> decide
structure IsX (K : PySem.W.Frag) (C : Addr) : Prop extends IsC K C where
  cs : (PySem.W.clsIn K C).isSome = true
  ty : PySem.W.typeIn K (.ref C) = some (.type "type")
  sub : ∀ n ∈ tyNames, PySem.W.subIn K (.type n) (.ref C) = some false
theorem IsX.mk' {K : PySem.W.Frag} {C : Addr} (c : IsC K C) (cs : (PySem.W.clsIn K C).isSome = true) (ty : PySem.W.typeIn K (.ref C) = some (.type "type"))
    (h1 : PySem.W.subIn K (.type "NoneType") (.ref C) = some false) (h2 : PySem.W.subIn K (.type "bool") (.ref C) = some false) (h3 : PySem.W.subIn K (.type "int") (.ref C) = some false) (h4 : PySem.W.subIn K (.type "str") (.ref C) = some false) (h5 : PySem.W.subIn K (.type "list") (.ref C) = some false) (h6 : PySem.W.subIn K (.type "tuple") (.ref C) = some false) : IsX K C :=
  ⟨c, cs, ty, fun n hn => by
    simp only [tyNames, List.mem_cons, List.not_mem_nil, or_false] at hn
    rcases hn with rfl | rfl | rfl | rfl | rfl | rfl <;> assumption⟩
theorem IsX.kit {K : PySem.W.Frag} {C : Addr} (c : IsX K C) {n : String} (h : n ∈ tyNames) : PySem.W.kitOne K (.type n) (.ref C) = some false := by
  unfold PySem.W.kitOne
  rw [if_neg (by intro q; cases q)]
  show (if ((PySem.W.clsIn K C).isSome && PySem.W.typeIn K (.ref C) == some (.type "type")) = true then PySem.W.subIn K (.type n) (.ref C) else none) = some false
  rw [c.cs, c.ty, if_pos (by simp)]
  exact c.sub n h
def rIsiX (C : Addr) : RDC
  | [.ins C' _ _, .raw (.ref C'')], Q => (C' = C ∧ C'' = C) ∧ Q (.bl true)
  | [d, .raw (.ref C'')], Q => (C'' = C ∧ (tyN d).isSome = true) ∧ Q (.bl false)
  | _, _ => False
section
variable {X : Cx} {C f : Addr} {fd : FuncData} {ps : List Str} {tf : TDF} {k : Nat} {a b : Expr} {ta tb : TDE} {ts : TDA} {pos p : Pos}
structure EqX (K : PySem.W.Frag) (C f : Addr) : Prop where
  isx : IsX K C
  eq : PySem.W.findIn K (.ref C) "__eq__" = some (some (.ref f))
  fn : PySem.W.isFn K (.ref f) = true
  ne : PySem.W.findIn K (.ref C) "__ne__" = some (some (.builtin "object.__ne__"))
def okOther (C : Addr) : D → Prop
  | .ins C' _ _ => C' = C
  | e => (tyN e).isSome = true
theorem ne_K {K : PySem.W.Frag} {prog : Program} {w : World} {A : Around} {E : Value → Shared → Prop} {s : Shared} {x C f : Addr} {ox : Obj} {od : Option Obj} {b tb : Value} {Q : Value → Shared → Prop}
    (hu : A.units + 1 < cLine) (X : K.In s.heap) (I : PySem.W.InstAt s.heap x ox C od) (hb : PySem.W.Looks (model prog w) s.heap (typeOf b) tb) (hn : PySem.W.notFirst K C tb = true)
    (hs : PySem.W.findIn K (.ref C) "__ne__" = some (some (.builtin "object.__ne__"))) (he : PySem.W.findIn K (.ref C) "__eq__" = some (some (.ref f))) (hf : PySem.W.isFn K (.ref f) = true) (hmro : PySem.W.mroIn K C (.type "object") = some true)
    (h : wpAny (model prog w) A.in1 (call (.ref f) [.ref x, b]) (fun v s' => ∃ r, v = .bool r ∧ Q (.bool (!r)) s') E s) : wpAny (model prog w) A (richCompare .NotEq (.ref x) b) Q E s := by
  have sub : PySem.W.Looks (model prog w) s.heap (isInstance (.ref x) (.type "object")) true := I.type.andThen (PySem.W.looks_mroIn X hmro)
  have S := PySem.F.cmp_object.ne
  have one : wpAny (model prog w) A (tryCompare (.ref x) (cmpInfo .NotEq).2.1 b) (fun r s' => ∃ v, r = some v ∧ Q v s') E s := by
    show wpAny (model prog w) A (tryCompare (.ref x) "__ne__" b) _ E s
    unfold tryCompare
    have body : wpAny (model prog w) A (call (.builtin "object.__ne__") [.ref x, b]) (fun v s' => ∃ r, v = .bool r ∧ Q (.bool r) s') E s := by
      refine wpAny_call (codeAny_call_builtin S.plain PySem.F.cmpEntry_ne (PySem.W.check_slot PySem.F.cmpKind_ne PySem.F.cmpSplit_ne sub (PySem.F.cmpArgs_ne _ _) ?_))
      unfold Builtin.«object.__ne__»
      repeat (first
        | with_reducible refine wpAny_cRoomFor hu ?_
        | (refine wpAny_bind (m := callSpecialIfBound? (.ref x) (Str.ofString "__eq__") [b]) (PySem.W.ifBound_K X I he hf (wpAny_mono h (fun r s' hr => by
              obtain ⟨q, rfl, hq⟩ := hr
              repeat (first | exact ⟨_, rfl, hq⟩ | exact wpAny_pure ⟨_, rfl, hq⟩ | exact wpAny_truthy_bool ⟨_, rfl, hq⟩ | (refine wpAny_bind (m := truthy (.bool _)) (wpAny_truthy_bool ?_)) | wp_step)) fun _ _ e => e)))
        | wp_step)
    have bound : ∀ Q' : Option Value → Shared → Prop, wpAny (model prog w) A (call (.builtin "object.__ne__") [.ref x, b]) (fun v => Q' (some v)) E s → wpAny (model prog w) A (callSpecialIfBound? (.ref x) "__ne__" [b]) Q' E s := by
      intro Q' hc
      simp only [callSpecialIfBound?, bindSpecialIfBound?]
      refine wpAny_holding (wpAny_bind (wpAny_bind (wpAny_bind (I.type.here ((PySem.W.looks_findIn X hs).here ?_)))))
      simp only [S.bind]
      refine wpAny_bind (wpAny_askSetting (wpAny_ite ?_))
      have fin : wpAny (model prog w) A (call (.builtin "object.__ne__") ([.ref x] ++ [b]) >>= fun v => pure (some v)) Q' E s :=
        wpAny_bind (wpAny_mono hc (fun v s' h' => wpAny_pure h') fun _ _ h' => h')
      split
      · exact wpAny_bind (wpAny_pure (wpAny_pure (by exact fin)))
      · exact wpAny_tryCatch (wpAny_bind (wpAny_pure (wpAny_pure (by exact fin))))
    refine wpAny_bind (bound _ (wpAny_mono body (fun v s' h' => ?_) fun _ _ h' => h'))
    obtain ⟨r, rfl, q⟩ := h'
    exact wpAny_pure ⟨_, rfl, q⟩
  unfold richCompare
  simp only [oneThing_ref]
  refine wpAny_holding (wpAny_bind (wpAny_cRoomFor (Nat.lt_of_succ_lt hu) ?_))
  refine wpAny_bind (I.type.here (wpAny_bind (hb.here ?_)))
  split
  · rename_i q
    have e : PySem.W.subIn K tb (.ref C) = some false := by
      rcases Bool.or_eq_true_iff.mp hn with e | e
      · rw [beq_iff_eq.mp e] at q; simp at q
      · exact beq_iff_eq.mp e
    refine wpAny_bind ((PySem.W.looks_subIn X e).here ?_)
    simp only [Bool.false_eq_true, if_false]
    refine wpAny_bind (wpAny_mono one (fun r s' z => ?_) fun _ _ e => e)
    obtain ⟨v, rfl, hq⟩ := z
    exact wpAny_pure hq
  · refine wpAny_bind (wpAny_pure ?_)
    simp only [Bool.false_eq_true, if_false]
    refine wpAny_bind (wpAny_mono one (fun r s' z => ?_) fun _ _ e => e)
    obtain ⟨v, rfl, hq⟩ := z
    exact wpAny_pure hq
theorem op_eqX (o : EqX X.K C f) (F : FnOk X.prog X.w X.K X.mg X.base CX0 k f fd ps (spE 2 tf)) (hr : Room k X.A) (hb : Binds X.K fd ps []) : OpR X (compareOp .Eq) (fun x y H Q => ∃ a dx fs tb, x = .ref a ∧ H a = some (.ins C dx fs) ∧ TyX X.K H y tb ∧ PySem.W.notFirst X.K C tb = true ∧ spE 2 tf [x, y] H Q E0) := by
  intro pins s σ H x y v u Q I rx ry h
  obtain ⟨a, dx, fs, tb, rfl, e, ty, nf, w⟩ := h
  obtain rfl : v = Value.ref a := rx
  obtain ⟨ox, od, ia⟩ := instAt_of I.hok e
  obtain ⟨m, fr⟩ := I.fr
  obtain ⟨P, KX, hP, _⟩ := kit_of I ry ty
  show wpAny (model X.prog X.w) X.A (richCompare .Eq (.ref a) u) _ _ _
  refine PySem.W.cmp_K (tb := tb) (by have := hr.un; omega) fr I.ok.mod.kin ia (KX.ty _ _ I.kIn hP) nf o.eq o.fn ?_
  exact thn (run_fn (dvs := []) (vs := [.ref a, y]) F hr hb .nil pass0 I (.cons (show RelV (.ref a) (.ref a) from rfl) (.cons ry .nil)) w) fun v s' h => back_of h
theorem op_neX (o : EqX X.K C f) (F : FnOk X.prog X.w X.K X.mg X.base CX0 k f fd ps (spE 2 tf)) (hr : Room (k + 1) X.A) (hb : Binds X.K fd ps []) : OpR X (compareOp .NotEq) (fun x y H Q => ∃ a dx fs tb, x = .ref a ∧ H a = some (.ins C dx fs) ∧ TyX X.K H y tb ∧ PySem.W.notFirst X.K C tb = true ∧ spE 2 tf [x, y] H (fun v H' => ∃ r, v = .bl r ∧ Q (.bl (!r)) H') E0) := by
  intro pins s σ H x y v u Q I rx ry h
  obtain ⟨a, dx, fs, tb, rfl, e, ty, nf, w⟩ := h
  obtain rfl : v = Value.ref a := rx
  obtain ⟨ox, od, ia⟩ := instAt_of I.hok e
  obtain ⟨P, KX, hP, _⟩ := kit_of I ry ty
  show wpAny (model X.prog X.w) X.A (richCompare .NotEq (.ref a) u) _ _ _
  refine ne_K (tb := tb) (by have := hr.un; omega) I.kIn ia (KX.ty _ _ I.kIn hP) nf o.ne o.eq o.fn o.isx.mro ?_
  refine thn (run_in1 (dvs := []) (vs := [.ref a, y]) F hr hb .nil pass0 I (.cons (show RelV (.ref a) (.ref a) from rfl) (.cons ry .nil)) w) fun v s' h => ?_
  obtain ⟨z, H', I', rz, r, rfl, q⟩ := h
  obtain rfl : v = Value.bool r := rz
  exact ⟨r, rfl, .bl (!r), H', I', rfl, q⟩
def dEqX (C : Addr) (tf : TDF) (ta tb : TDE) : TDE := fun S Q => ta S fun d => tb S fun e => (∃ ns vs, d = .ins C ns vs) ∧ okOther C e ∧ tf [d, e] Q
def dNeX (C : Addr) (tf : TDF) (ta tb : TDE) : TDE := fun S Q => ta S fun d => tb S fun e => (∃ ns vs, d = .ins C ns vs) ∧ okOther C e ∧ tf [d, e] fun r => ∃ b, r = .bl b ∧ Q (.bl (!b))
end
end L2.DL
namespace L2.DL
open PySem PySem.Spec PyProof.Rows
def keyM (e : Int × Value) : Key := match e.2 with
  | .int k _ => .inl k
  | .str x _ => .inr x
  | _ => .inl 0
def GoodM (w : World) (e : Int × Value) : Prop := keyIs (keyM e) e.2 = true ∧ e.1 = keyH w (keyM e)
def SetM (w : World) (h : Heap) (a : Addr) (ks : List Key) : Prop :=
  ∃ o es ep t, h.get? a = some o ∧ o.ExactSet ∧ o.data = .set es ep t ∧ (∀ e ∈ es.toList, GoodM w e) ∧ (es.toList.map keyM).Perm ks ∧ ks.Nodup ∧ es.size < scanBound ∧ t.fits es.size = true ∧ Ris t.place.toList ∧ (w.params.followText "set-order" = true ∨ t.led = true)
theorem keyM_is {k : Key} {v : Value} {n : Int} (h : keyIs k v = true) : keyM (n, v) = k := by
  rcases keyIs_shape h with ⟨i, t, rfl, rfl⟩ | ⟨x, t, rfl, rfl⟩ <;> rfl
theorem key_scan {k : Key} {v : Value} (h : keyIs k v = true) : v.scannable = true := by
  rcases keyIs_shape h with ⟨i, t, rfl, rfl⟩ | ⟨x, t, rfl, rfl⟩ <;> rfl
theorem SetM.at {w : World} {h h' : Heap} {a : Addr} {ks : List Key} (R : SetM w h a ks) (k : ∀ o, h.get? a = some o → h'.get? a = some o) : SetM w h' a ks := by
  obtain ⟨o, es, ep, t, ho, r⟩ := R
  exact ⟨o, es, ep, t, k o ho, r⟩
theorem goodM_el {P : Program} {w : World} {l : List (Int × Value)} (g : ∀ e ∈ l, GoodM w e) : ElemsOf (mixKind P w) l := fun e he =>
  ⟨⟨keyM e, (g e he).1, (g e he).2⟩, key_scan (g e he).1⟩
theorem goodM_key {w : World} {e : Int × Value} (g : GoodM w e) {k : Key} : keyIs k e.2 = true ↔ keyM e = k := by
  constructor
  · intro h
    exact keyM_is (n := e.1) h
  · intro h
    rw [← h]; exact g.1
section
variable {P : Program} {w : World} {A : Around} {E : Value → Shared → Prop} {s : Shared} {a : Addr} {ks : List Key}
theorem setM_lay {gg : Bool → Sem Unit} (hg : ∀ (b : Bool) (t : Shared) (q : Unit → Shared → Prop), q () t → wpAny (model P w) A (gg b) q E t)
    {o : Obj} {es : Array (Int × Value)} {ep : Nat} {t : SetTable} (ho : s.heap.get? a = some o) (hex : o.ExactSet) (hd : o.data = .set es ep t)
    {es1 : Array (Int × Value)} {t2 : SetTable} (g1 : ∀ e ∈ es1.toList, GoodM w e) (p1 : (es1.toList.map keyM).Perm ks) (n1 : ks.Nodup) (b1 : es1.size < scanBound) (f2 : t2.fits es1.size = true) (r2 : Ris t2.place.toList) (l2 : w.params.followText "set-order" = true ∨ t2.led = true) {dm : Bool} {R : Option Bool → Shared → Prop}
    (fin : ∀ h2, Heap.SameBut a s.heap h2 → SetM w h2 a ks → R (some true) { s with heap := h2 }) :
    wpAny (model P w) A (do
      storeSet a es1 t2
      if (!dm && t2.tooFull) = true then do
        gg (relayAll t2 es1 (SetTable.grown es1.size)).2.2
        storeSet a (relayAll t2 es1 (SetTable.grown es1.size)).1 (relayAll t2 es1 (SetTable.grown es1.size)).2.1
        pure (some true)
      else pure (some true)) R E s := by
  apply wpAny_bind
  apply wpAny_storeSet_of ho hd _ (fits_of_scanBound b1)
  have o1 := store_at (es' := es1) (t' := t2) ho hd
  have s1 := Heap.SameBut.update s.heap a (Obj.putSet es1 t2)
  split
  · have q1 := relayAll_perm t2 es1 (SetTable.grown es1.size)
    have q2 := relayAll_fits t2 es1 (SetTable.grown es1.size)
    have q3 := relayAll_ris t2 es1 (SetTable.grown es1.size)
    have q4 := relayAll_led t2 es1 (SetTable.grown es1.size)
    generalize relayAll t2 es1 (SetTable.grown es1.size) = Z at q1 q2 q3 q4 ⊢
    obtain ⟨es2, t3, gv⟩ := Z
    dsimp only at q1 q2 q3 q4 ⊢
    have z : es2.size = es1.size := by have := q1.length_eq; simpa using this
    apply wpAny_bind
    apply hg
    apply wpAny_bind
    apply wpAny_storeSet_of o1 rfl _ (fits_of_scanBound (by rw [z]; exact b1))
    have o2 := store_at (es' := es2) (t' := t3) o1 rfl
    refine wpAny_pure (fin _ (s1.trans (Heap.SameBut.update _ a _)) ⟨_, es2, _, t3, o2, hex, rfl, fun e he => g1 e (q1.mem_iff.mp he), (q1.map keyM).trans p1, n1, by rw [z]; exact b1, q2, q3, ?_⟩)
    exact l2.imp id fun y => by rw [q4]; exact y
  · exact wpAny_pure (fin _ s1 ⟨_, es1, _, t2, o1, hex, rfl, g1, p1, n1, b1, f2, r2, l2⟩)
theorem setM_add {k : Key} {v : Value} {Q : Bool → Shared → Prop} (hv : keyIs k v = true) (R : SetM w s.heap a ks) (room : ks.length + 1 < scanBound)
    (fin : ∀ (b : Bool) h2, Heap.SameBut a s.heap h2 → SetM w h2 a (if hasK ks k = true then ks else ks ++ [k]) → Q b { s with heap := h2 }) :
    wpAny (model P w) A (setAddHashed a v ((mixKind P w).hash k)) Q E s := by
  obtain ⟨o, es, ep, t, ho, hex, hd, g, pm, nd, hb, hf, hr, hl⟩ := R
  have sc := key_scan hv
  have el : ElemsOf (mixKind P w) es.toList := goodM_el g
  unfold setAddHashed setAddHashedIn
  apply wpAny_holding
  apply wpAny_bind
  apply wpAny_setState_of ho hd hf
  dsimp only
  rw [byScan_of sc hb el]
  simp only [↓reduceIte]
  unfold setAddByScan
  apply wpAny_bind
  apply wpAny_bind
  apply wpAny_rule
  apply wpAny_bind
  apply wpAny_setScan_of (knd := mixKind P w) (k := k) hv ho hd hf el
  have el' : es.toList.length = ks.length := by have := pm.length_eq; rw [List.length_map] at this; exact this
  cases hfi : List.findIdx? (fun e => (mixKind P w).is k e.2) es.toList with
  | some j =>
    dsimp only
    obtain ⟨hj, pj, _⟩ := List.findIdx?_eq_some_iff_getElem.mp hfi
    have hk : k ∈ ks := pm.mem_iff.mp (List.mem_map.mpr ⟨_, List.getElem_mem hj, (goodM_key (g _ (List.getElem_mem hj))).mp pj⟩)
    refine wpAny_pure (wpAny_pure (fin _ s.heap (Heap.SameBut.refl a s.heap) ?_))
    rw [if_pos (hasK_iff.mpr hk)]
    exact ⟨o, es, ep, t, ho, hex, hd, g, pm, nd, hb, hf, hr, hl⟩
  | none =>
    dsimp only
    have hk : k ∉ ks := fun z => by
      obtain ⟨e, he, q⟩ := List.mem_map.mp (pm.mem_iff.mpr z)
      have c := List.findIdx?_eq_none_iff.mp hfi e he
      rw [show (mixKind P w).is k e.2 = true from (goodM_key (g e he)).mpr q] at c
      cases c
    have gw : ∀ (b : Bool) {t1 : Shared} {q : Unit → Shared → Prop}, q () t1 → wpAny (model P w) A (match b with | true => rule "set.scan.the-table-gave-way" | false => pure ()) q E t1 := fun b _ _ q => by
      cases b
      · exact wpAny_pure q
      · exact wpAny_rule q
    have q1 := layNew_perm t es ((mixKind P w).hash k) v
    have q2 := layNew_fits t es ((mixKind P w).hash k) v
    have q3 := layNew_ris t es ((mixKind P w).hash k) v hr
    have q4 := layNew_led t es ((mixKind P w).hash k) v
    generalize layNew t es ((mixKind P w).hash k) v = Z at q1 q2 q3 q4 ⊢
    obtain ⟨es1, t1, dm, gv⟩ := Z
    dsimp only at q1 q2 q3 q4 ⊢
    rw [Array.toList_push] at q1
    have g1 : ∀ e ∈ es1.toList, GoodM w e := fun e he => by
      rcases List.mem_append.mp (q1.mem_iff.mp he) with z | z
      · exact g e z
      · rw [List.mem_singleton.mp z]
        have ek : keyM ((mixKind P w).hash k, v) = k := keyM_is hv
        exact ⟨by rw [ek]; exact hv, by rw [ek]; rfl⟩
    have p1 : (es1.toList.map keyM).Perm (ks ++ [k]) := by
      have := q1.map keyM
      rw [List.map_append] at this
      have ek : keyM ((mixKind P w).hash k, v) = k := keyM_is hv
      simp only [List.map_cons, List.map_nil, ek] at this
      exact this.trans (pm.append_right [k])
    have n1 : (ks ++ [k]).Nodup := List.nodup_append.mpr ⟨nd, by simp, fun x hx y hy => by rw [List.mem_singleton.mp hy]; rintro rfl; exact hk hx⟩
    have z1 : es1.size = ks.length + 1 := by
      have := p1.length_eq
      simpa using this
    have b1 : es1.size < scanBound := by rw [z1]; exact room
    have ld : w.params.followText "set-order" = true ∨ t1.led = true := hl.imp id fun y => by rw [q4]; exact y
    have fn : ∀ h2, Heap.SameBut a s.heap h2 → SetM w h2 a (ks ++ [k]) → Q true { s with heap := h2 } := fun h2 sb r => fin true h2 sb (by rw [if_neg (hasK_not.mpr hk)]; exact r)
    apply wpAny_bind
    refine gw _ ?_
    split
    · apply wpAny_bind
      rw [hashByValue_scannable 8 sc]
      apply wpAny_pure
      refine setM_lay ?_ ho hex hd g1 p1 n1 b1 ?_ ?_ ?_ ?_
      · intro b t1 q hq; cases b <;> first | exact wpAny_pure hq | exact wpAny_rule hq
      · first | (split <;> first | exact q2 | exact SetTable.fits_plain_off q2) | exact q2
      · first | (split <;> exact q3) | exact q3
      · first | (split <;> exact ld) | exact ld
      · intro h2 sb r; dsimp only; exact wpAny_pure (fn h2 sb r)
    · apply wpAny_bind
      apply wpAny_pure
      simp only [↓reduceIte]
      refine setM_lay ?_ ho hex hd g1 p1 n1 b1 q2 q3 ld ?_
      · intro b t1 q hq; cases b <;> first | exact wpAny_pure hq | exact wpAny_rule hq
      · intro h2 sb r; dsimp only; exact wpAny_pure (fn h2 sb r)
end
end L2.DL
namespace L2.DL
open PySem PySem.Spec PyProof.Rows
section
variable {prog : Program} {w : World} {A : Around} {R : Result → Shared → Prop} {I : Addr} {fp wr : List Addr} {G : Array GenState → Array GenState → Prop} {n : Nat} {P : Nat → Value → Prop} {St : Nat → Shared → Prop}
theorem setM_loop (W : WalksS prog w A.in1 I fp wr G n P St) (S : Addr) (nS : S ∉ fp) (ks : List Key) (hn : ks.length = n) (is : ∀ i v, P i v → ∃ k, ks[i]? = some k ∧ keyIs k v = true) (room : n + 1 < scanBound) :
    ∀ (m i : Nat) (s : Shared), n - i = m → i ≤ n → St i s → SetM w s.heap S (dedup [] (ks.take i)) →
      (∀ t, Moved (S :: wr) G s t → SetM w t.heap S (dedup [] ks) → R (.ok (.ret .none)) t) →
      codeAny (model prog w) A (.builtin "set.update.loop" ⟨[.ref S, .ref I], []⟩) R s := by
  have nw : S ∉ wr := fun h => nS (W.sub _ h)
  have up : ∀ c ∈ wr, c ∈ S :: wr := fun c hc => List.mem_cons_of_mem _ hc
  intro m
  induction m with
  | zero =>
    intro i s hm hi st so out
    have e : i = n := by omega
    subst e
    rw [List.take_of_length_le (Nat.le_of_eq hn)] at so
    apply codeAny_builtin F.entry_set_update_loop
    rw [Around.under_plainId F.plain_set_update_loop _]
    change wpAny _ A.in1 (pyNext (.ref I) >>= _) _ _ s
    apply wpAny_bind
    apply W.done s _ _ st
    intro t mv
    change wpAny _ A.in1 (ret Value.none) _ _ t
    apply wpAny_pure
    exact out t (mv.mono up) (so.at fun o ho => mv.heap S _ nw ho)
  | succ m ih =>
    intro i s hm hi st so out
    have lt : i < n := by omega
    apply codeAny_builtin F.entry_set_update_loop
    rw [Around.under_plainId F.plain_set_update_loop _]
    change wpAny _ A.in1 (pyNext (.ref I) >>= _) _ _ s
    apply wpAny_bind
    apply W.item i s _ _ lt st
    intro v t hP st' mv
    obtain ⟨k, ek, ik⟩ := is i v hP
    have so' : SetM w t.heap S (dedup [] (ks.take i)) := so.at fun o ho => mv.heap S _ nw ho
    change wpAny _ A.in1 (holding [v] (setAdd S v) >>= _) _ _ t
    apply wpAny_bind
    apply wpAny_holding
    unfold setAdd
    apply wpAny_holding
    apply wpAny_bind
    apply (mixKind prog w).pyHash (k := k) ik
    have rm : (dedup [] (ks.take i)).length + 1 < scanBound := by
      have h1 := dedup_le (ks.take i) []
      have h2 := List.length_take_le i ks
      simp at h1
      omega
    refine setM_add (P := prog) (s := { t with toks := t.toks + 1 }) ik so' rm fun b h2 sb so2 => ?_
    have tk : ks.take (i + 1) = ks.take i ++ [k] := by
      rw [List.take_add_one, ek]; rfl
    rw [← dedup_snoc, ← tk] at so2
    refine wpAny_pure ⟨plainId_quiet F.plain_set_update_loop _, ih (i + 1) _ (by omega) lt (W.frame _ t _ _ st' (Nat.le_succ _) fun c hc o e => ?_) so2 fun u mv2 so4 => ?_⟩
    · rw [sb.2 c fun h : c = S => nS (h ▸ hc)]; exact e
    · refine out u (Moved.trans W.gtrans ((mv.mono up).then_heap (Nat.le_succ _) fun c o hc e => ?_) mv2) so4
      rw [sb.2 c fun h : c = S => hc (h ▸ List.mem_cons_self)]; exact e
end
section
variable {prog : Program} {w : World} {A : Around} {E : Value → Shared → Prop} {s : Shared}
abbrev obS (w : World) : Obj := { cls := .type "set", dict := none, data := .set #[] 0 (.fresh 0 0 (!w.params.followText "set-order")) }
theorem new_set1 {x : Value} {Q : Value → Shared → Prop} (h : Q (.ref s.heap.objs.size) { s with heap := s.heap.push (obS w) }) :
    codeAny (model prog w) A (.call (.builtin "set.__new__") ⟨[.type "set", x], []⟩) (wants Q E) s := by
  apply codeAny_of_tree
  change wpAny _ A.in1 (do checkBuiltinCall "set.__new__" ⟨[.type "set", x], []⟩; again (.builtin "set.__new__" ⟨[.type "set", x], []⟩)) _ _ s
  apply wpAny_bind
  apply wpAny_of_eq (F.newCall_set_1 x)
  refine wpAny_pure ⟨plainId_quiet F.plain_set_new _, ?_⟩
  apply codeAny_builtin F.entry_set_new
  rw [Around.under_plainId F.plain_set_new _]
  unfold Builtin.«set.__new__» Builtin.Frozenset.newClass
  have hsub := sub_set_self
  obtain ⟨hp, g, d, tk, os⟩ := s
  dsimp only
  wp_walk
  apply wpAny_askSetting
  apply wpAny_pure
  dsimp only
  simp only [newObj]
  apply wpAny_bind
  apply wpAny_alloc
  exact wpAny_pure (wpAny_pure h)
theorem setM_of_list {l : Addr} {items : Array Value} {ks : List Key} {Q : Value → Shared → Prop} (calm : A.handled = none) (isl : s.heap.IsList l items) (hk : ∀ (i : Nat) (v : Value), items[i]? = some v → ∃ k, ks[i]? = some k ∧ keyIs k v = true) (hn : ks.length = items.size) (room : items.size + 1 < scanBound)
    (out : ∀ (h2 : Heap) (tk : Nat), SetM w h2 s.heap.objs.size (dedup [] ks) → (∀ c o, c < s.heap.objs.size → s.heap.get? c = some o → h2.get? c = some o) → Q (.ref s.heap.objs.size) { s with heap := h2, toks := tk }) :
    wpAny (model prog w) A (call (.type "set") [.ref l]) Q E s := by
  obtain ⟨cc, tl, hmro⟩ := PySem.F.called_set.mro
  have hmade := PySem.F.called_set.made
  have hsub := PySem.F.called_set.sub
  apply wpAny_call
  apply codeAny_of_tree
  change wpAny _ _ (callAny (.type "set") _) _ _ _
  refine wpAny_pure ⟨Code.quiet_builtin _ (by decide +kernel), ?_⟩
  apply codeAny_builtin PySem.F.entry_type_call
  rw [Around.under_plain (weight_type_call_type "set" [.ref l] []) rfl]
  have a1 := PySem.F.called_set.notType
  have a2 := PySem.F.called_set.canCreate
  have a3 := PySem.F.typeCall_set_1 (.ref l)
  repeat (any_goals first | assumption | wp_step)
  refine codeAny_mono (new_set1 (x := .ref l) (E := E) (Q := fun y t => y = .ref s.heap.objs.size ∧ t = { s with heap := s.heap.push (obS w) }) ⟨rfl, rfl⟩) fun r t hr => ?_
  cases r with
  | error e => exact hr
  | ok fl =>
    cases fl with
    | next => exact hr.elim
    | brk => exact hr.elim
    | cont => exact hr.elim
    | ret y =>
      obtain ⟨rfl, rfl⟩ := hr
      have gS : (s.heap.push (obS w)).get? s.heap.objs.size = some (obS w) := Heap.get?_push_size _ rfl
      have gT : Shared.TypeIs { s with heap := s.heap.push (obS w) } (.ref s.heap.objs.size) "set" := ⟨_, gS, rfl⟩
      have b1 := PySem.F.called_set.init.lookup
      have b2 := PySem.F.called_set.init.bind (.ref s.heap.objs.size)
      repeat (any_goals first | assumption | wp_step)
      refine codeAny_mono (codeAny_call_builtin (R := wants (fun r u => r = .none ∧ ∃ h2 tk, u = { s with heap := h2, toks := tk } ∧ SetM w h2 s.heap.objs.size (dedup [] ks) ∧ (∀ c o, c < s.heap.objs.size → s.heap.get? c = some o → h2.get? c = some o)) E) PySem.F.called_set.init.plain PySem.F.entry_set_init (check_set_init_1 gT ?_)) fun r2 u hr2 => ?_
      · obtain ⟨ol, gl, cl, nl, dl⟩ := isl
        obtain ⟨k1, k2, k3, k4⟩ := ol
        simp only at cl dl
        subst cl
        subst dl
        have gl2 : (s.heap.push (obS w)).get? l = some { cls := .type "list", dict := k2, data := .seq items nl, slots := k4 } := Heap.get?_push_of_some _ gl
        have c1 := PySem.F.sub_list_set
        have c2 := PySem.F.sub_list_frozenset
        have c3 : (Value.type "list" == Value.type "dict") = false := by decide
        have il : (s.heap.push (obS w)).IsList l items := ⟨_, gl2, rfl, nl, rfl⟩
        unfold Builtin.«set.__init__» noKeywords Builtin.Frozenset.updateFrom
        generalize hZ : pyIter = Z
        wp_walk
        subst hZ
        apply wpAny_pyIter_list il
        apply wpAny_bind
        apply wpAny_runValue
        have ll : l < s.heap.objs.size := Heap.lt_size gl
        have h3 : A.in1.in1.in1.handled = none := by simp [calm]
        have n1 : l ≠ (s.heap.push (obS w)).objs.size := by
          rw [Heap.size_push]
          exact Nat.ne_of_lt (Nat.lt_succ_of_lt ll)
        have n2 : s.heap.objs.size ∉ [(s.heap.push (obS w)).objs.size, l] := by
          rw [Heap.size_push]
          intro hh
          rcases List.mem_cons.mp hh with hh | hh
          · exact Nat.ne_of_lt (Nat.lt_succ_self _) hh
          · exact Nat.ne_of_gt ll (List.mem_singleton.mp hh)
        refine setM_loop ((Walks.list h3 _ l n1 items).toS) s.heap.objs.size n2 ks hn hk room (items.size - 0) 0 _ (by omega) (Nat.zero_le _) ⟨⟨_, Heap.get?_push_size _ rfl, rfl, rfl⟩, il.push _⟩ ?z1 ?z2
        case z1 =>
          have gg : ((s.heap.push (obS w)).push { cls := .type "list_iterator", data := .fields #[.ref l, .int 0 0] }).get? s.heap.objs.size = some (obS w) := Heap.get?_push_of_some _ gS
          refine ⟨_, #[], 0, _, gg, ⟨rfl, rfl, rfl⟩, rfl, (fun e he => by simp at he), ?_, ?_, (by decide), (by rfl), List.Pairwise.nil, ?_⟩
          · simp [dedup]
          · simp [dedup]
          · show _ ∨ (!w.params.followText "set-order") = true
            cases w.params.followText "set-order"
            · exact .inr rfl
            · exact .inl rfl
        case z2 =>
          intro t mv so
          obtain ⟨h2, g2, d2, t2, o2⟩ := t
          have q1 : g2 = s.gens := mv.gens
          have q2 : d2 = s.drawn := mv.drawn
          have q3 : o2 = s.os := mv.os
          subst q1 q2 q3
          change wpAny _ _ _ _ _ _
          apply wpAny_pure
          change wpAny _ _ (ret Value.none) _ _ _
          refine wpAny_pure ⟨rfl, h2, t2, rfl, so, fun c o hc e => ?_⟩
          refine mv.heap c o (fun hh => ?_) (Heap.get?_push_of_some _ (Heap.get?_push_of_some _ e))
          rcases List.mem_cons.mp hh with hh | hh
          · exact Nat.ne_of_lt hc hh
          · have hh := List.mem_singleton.mp hh
            rw [Heap.size_push] at hh
            exact Nat.ne_of_lt (Nat.lt_succ_of_lt hc) hh
      · cases r2 with
        | error e => exact hr2
        | ok f2 =>
          cases f2 with
          | next => exact hr2.elim
          | brk => exact hr2.elim
          | cont => exact hr2.elim
          | ret y =>
            obtain ⟨rfl, h2, tk, rfl, so, kp⟩ := hr2
            repeat (any_goals first | assumption | wp_step)
            exact out _ _ so kp
theorem each_map' {β : Type} {R : Value → β → Prop} (f : Value → β) : ∀ {vs : List Value}, (∀ v ∈ vs, R v (f v)) → PySem.W.EachIs R vs (vs.map f)
  | [], _ => .nil
  | v :: vs, h => .cons (h v (by simp)) (each_map' f fun u hu => h u (by simp [hu]))
/-- sorted(a set) -/
theorem sortedM {β : Type} (f : Value → β) (enc : β → PyData) (Rl : Value → β → Prop) {a : Addr} {ks : List Key} {Q : Value → Shared → Prop} (R : SetM w s.heap a ks) (calm : A.handled = none) (hu : A.units + 3 < cLine) (hz : ks.length ≤ sizeLine)
    (hR : ∀ k v, k ∈ ks → keyIs k v = true → Rl v (f v) ∧ (∀ h, Reads h v (enc (f v)) []) ∧ (enc (f v)).depth = 0) (al : ∀ k v k' v', k ∈ ks → k' ∈ ks → keyIs k v = true → keyIs k' v' = true → PySem.W.alike (enc (f v)) (enc (f v')) = true) (sb : ∀ k v, k ∈ ks → keyIs k v = true → enc (f v) ≠ .none ∧ ∀ xs, enc (f v) ≠ .tuple xs)
    (out : ∀ (s2 : Shared) (p : Addr) (os : List Value) (c : Nat) (vs : List Value), (∀ b o, s.heap.get? b = some o → s2.heap.get? b = some o) → s2.gens = s.gens → s2.os = s.os → s.heap.objs.size ≤ p → s2.heap.get? p = some (seqObj "list" os.toArray c) → PySem.W.EachIs Rl os ((vs.map f).mergeSort (PySem.W.dataLe false enc)) → (vs.map fun v => keyM (0, v)).Perm ks → (∀ v ∈ vs, keyIs (keyM (0, v)) v = true) → Q (.ref p) s2) :
    wpAny (model prog w) A (call (.builtin "sorted") [.ref a]) Q E s := by
  obtain ⟨o, es, ep, t, ho, hex, hd, g, pm, nd, hb, hf, hr, hl⟩ := R
  apply Calls.call_function_entry kind_sorted plain_sorted entry_sorted (args_sorted1 _)
  unfold Builtin.«sorted»
  apply wpAny_bind (m := checkCount "sorted" 1 1 _)
  apply wpAny_pure
  refine wpAny_bind (collect_set (A := A.in1) calm ⟨o, ho, hex.1, hd⟩ hf hb hr hl fun s1 vs k1 hz1 g1 o1 pv => ?_)
  have gk : ∀ v ∈ vs, keyIs (keyM (0, v)) v = true ∧ keyM (0, v) ∈ ks := fun v hv => by
    obtain ⟨e, he, q⟩ := List.mem_map.mp (pv.mem_iff.mp hv)
    subst q
    have e1 : keyM (0, e.2) = keyM e := rfl
    exact ⟨(g e he).1, by rw [e1]; exact pm.mem_iff.mp (List.mem_map.mpr ⟨e, he, rfl⟩)⟩
  have pk : (vs.map fun v => keyM (0, v)).Perm ks := by
    have q := pv.map fun v => keyM (0, v)
    rw [List.map_map] at q
    exact q.trans pm
  have vl : vs.length = ks.length := by have := pk.length_eq; rwa [List.length_map] at this
  refine wpAny_bind (wpAny_newList ?_ (by rw [vl]; exact hz))
  have hoL : (s1.heap.push (seqObj "list" vs.toArray 0)).get? s1.heap.objs.size = some (seqObj "list" vs.toArray 0) := Heap.get?_push_size _ rfl
  refine wpAny_bind (wpAny_holding (PySem.W.list_sort_data (bs := vs.map f) (enc := enc) (R := Rl) hoL (each_map' f fun v hv => (hR _ v (gk v hv).2 (gk v hv).1).1) (each_map' f fun v hv => ⟨[], (hR _ v (gk v hv).2 (gk v hv).1).2.1 _, by simp⟩) ?_ ?_ (by rw [List.length_map, vl]; exact hz) (fun b hb => ?_) fun os hl2 eo => ?_))
  · intro d hd d' hd'
    obtain ⟨b, hb1, rfl⟩ := List.mem_map.mp hd
    obtain ⟨v, hv, rfl⟩ := List.mem_map.mp hb1
    obtain ⟨b', hb2, rfl⟩ := List.mem_map.mp hd'
    obtain ⟨v', hv', rfl⟩ := List.mem_map.mp hb2
    exact al _ _ _ _ (gk v hv).2 (gk v' hv').2 (gk v hv).1 (gk v' hv').1
  · refine .inr fun d hd => ?_
    obtain ⟨b, hb1, rfl⟩ := List.mem_map.mp hd
    obtain ⟨v, hv, rfl⟩ := List.mem_map.mp hb1
    exact sb _ _ (gk v hv).2 (gk v hv).1
  · obtain ⟨v, hv, rfl⟩ := List.mem_map.mp hb
    rw [(hR _ v (gk v hv).2 (gk v hv).1).2.2]
    show A.units + 1 + 1 + 0 < cLine
    omega
  · obtain ⟨c, hc⟩ := sortedHeap_at (vs := vs) (out := os.toArray) hoL
    refine wpAny_pure ⟨_, rfl, out _ s1.heap.objs.size os c vs (fun b u e => ?_) g1 o1 hz1 hc eo pk fun v hv => (gk v hv).1⟩
    have q := k1 b u e
    have hlt := Heap.lt_size q
    show (sortedHeap (s1.heap.push (seqObj "list" vs.toArray 0)) s1.heap.objs.size vs os.toArray).get? b = some u
    rw [sortedHeap_old (Nat.ne_of_lt hlt) (by rw [Heap.size_push]; exact Nat.lt_succ_of_lt hlt)]
    exact Heap.get?_push_of_some _ q
end
end L2.DL
namespace L2.DL
open PySem PySem.Spec PyProof.Rows
def strsQ : List D → Option (List (List Nat))
  | [] => some []
  | .str x :: r => (strsQ r).map (x :: ·)
  | _ => none
theorem strsQ_eq : ∀ {ds : List D} {ys : List (List Nat)}, strsQ ds = some ys → ds = ys.map D.str
  | [], ys, h => by cases h; rfl
  | d :: r, ys, h => by
    cases d <;> simp only [strsQ, reduceCtorEq] at h
    obtain ⟨zs, e, rfl⟩ := Option.map_eq_some_iff.mp h
    rw [strsQ_eq e]; rfl
theorem strsQ_map : ∀ ys : List (List Nat), strsQ (ys.map D.str) = some ys
  | [] => rfl
  | y :: ys => by simp [strsQ, strsQ_map ys]
def rSS : D → (D → Prop) → Prop
  | .lst ds, Q => ds.length + 1 < 4096 ∧ ((∃ ns, intsD ds = some ns ∧ ∀ ms : List Int, ms.Pairwise (· < ·) → (∀ x, x ∈ ms ↔ x ∈ ns) → Q (.lst (ms.map .int))) ∨ ∃ ys, strsQ ds = some ys ∧ ∀ ws : List (List Nat), ws.Pairwise (· < ·) → (∀ x, x ∈ ws ↔ x ∈ ys) → Q (.lst (ws.map .str)))
  | _, _ => False
def dSS (ta : TDE) : TDE := fun S Q => ta S fun d => rSS d Q
/-- at the level of the heap -/
def tSSV (ta : TE) : TE := fun σ H Q => ta σ H fun x H1 => ∃ l xs, x = .ref l ∧ H1 l = some (.lst xs) ∧ xs.length + 1 < 4096 ∧
  ((∃ ns : List Int, xs = ns.map V.int ∧ ∀ (ms : List Int) p, ms.Pairwise (· < ·) → (∀ x, x ∈ ms ↔ x ∈ ns) → H1 p = none → Q (.ref p) (upd H1 p (.lst (ms.map V.int)))) ∨
   ∃ ys : List (List Nat), xs = (ys.map S2).map V.str ∧ ∀ (ws : List (List Nat)) p, ws.Pairwise (· < ·) → (∀ x, x ∈ ws ↔ x ∈ ys) → H1 p = none → Q (.ref p) (upd H1 p (.lst ((ws.map S2).map V.str))))
theorem pw_lt {α : Type} {le : α → α → Prop} {lt : α → α → Prop} (h : ∀ a b, le a b → a ≠ b → lt a b) : ∀ {l : List α}, l.Pairwise le → l.Nodup → l.Pairwise lt
  | [], _, _ => .nil
  | a :: l, .cons h1 h2, .cons n1 n2 => .cons (fun b hb => h a b (h1 b hb) (n1 b hb)) (pw_lt h h2 n2)
theorem each_ints : ∀ {os : List Value} {ms : List Int}, PySem.W.EachIs (fun v i => ∃ t, v = Value.int i t) os ms → Vals (ms.map V.int) os
  | _, _, .nil => .nil
  | _, _, .cons ⟨t, e⟩ r => .cons ⟨t, e⟩ (each_ints r)
theorem each_strs : ∀ {os : List Value} {ms : List Str}, PySem.W.EachIs (fun v i => ∃ t, v = Value.str i t) os ms → Vals (ms.map V.str) os
  | _, _, .nil => .nil
  | _, _, .cons ⟨t, e⟩ r => .cons ⟨t, e⟩ (each_strs r)
def intOf : Value → Int
  | .int i _ => i
  | _ => 0
def strOf : Value → Str
  | .str i _ => i
  | _ => Str.empty
theorem keys_i {ns : List Int} {k : Key} : k ∈ dedup [] (ns.map fun i => (Sum.inl i : Key)) ↔ ∃ i ∈ ns, k = .inl i := by
  rw [mem_dedup]
  simp [eq_comm]
theorem keys_s {ns : List (List Nat)} {k : Key} : k ∈ dedup [] (ns.map fun i => (Sum.inr (S2 i) : Key)) ↔ ∃ i ∈ ns, k = .inr (S2 i) := by
  rw [mem_dedup]
  simp [eq_comm]
section
variable {X : Cx} {a : Expr} {ta : TDE} {pos p p2 q : Pos}
theorem pe_ssV {ta : TE} (hu : X.A.units + 65 < cLine) (hm : X.mg "sorted" = none) (hm2 : X.mg "set" = none) (ha : PE X a ta) (hc : X.calm = true := by rfl) (hg : Gl X "sorted" := by rfl) (hg2 : Gl X "set" := by rfl) (na : starEach [a] X.env = (false, eval a X.env) :: starEach [] X.env := by rfl) :
    PE X (.Call (.Name "sorted" p) [.Call (.Name "set" p2) [a] [] q] [] pos) (tSSV ta) := by
  constructor
  intro pins s σ H Q I h
  refine Call_ (ld_blt I hg hm (show bootBuiltins "sorted" = some (.builtin "sorted") by decide +kernel) (callWith_builtin1 (args_cons (Call_ (ld_blt I hg2 hm2 boot_set ?_)) rfl) rfl rfl))
  refine callWith_type1 (args_cons (thn (ha.run pins s σ H _ I h) fun v s1 ⟨x, H1, I1, r1, q1⟩ => args_nil ?_) na) na rfl
  obtain ⟨l, xs, rfl, hq, hlen, q1⟩ := q1
  cases r1
  obtain ⟨its, r, pl, hz⟩ := I1.list (.of hq)
  have hsz : its.toArray.size = xs.length := by rw [List.size_toArray, ← r.length]
  have fin : ∀ (s2 : Shared) (p : Addr) (os : List Value) (c : Nat) (zs : List V) (h2 : Heap) (tk : Nat), (∀ c o, c < s1.heap.objs.size → s1.heap.get? c = some o → h2.get? c = some o) → s1.heap.objs.size ≤ h2.objs.size → (∀ b o, h2.get? b = some o → s2.heap.get? b = some o) → s2.gens = s1.gens → s2.os = s1.os → h2.objs.size ≤ p → s2.heap.get? p = some (seqObj "list" os.toArray c) → Vals zs os → zs.length ≤ sizeLine → (H1 p = none → Q (.ref p) (upd H1 p (.lst zs))) → EP X pins σ Q (.ref p) s2 := by
    intro s2 p os c zs h2 tk kp hle k2 g2 o2 hp hg hv hl hQ
    have k : ∀ b o, s1.heap.get? b = some o → s2.heap.get? b = some o := fun b o e => k2 b o (kp b o (Heap.lt_size e) e)
    have hp' : s1.heap.objs.size ≤ p := Nat.le_trans hle hp
    have hn : H1 p = none := I1.hok.fresh hp'
    have J : Inv X pins σ (upd H1 p (.lst zs)) { s1 with heap := s2.heap, gens := s2.gens, drawn := s2.drawn, toks := s2.toks } :=
      I1.call (ch := []) (Un.laid k hp' hn) (I1.hok.laid k hp' ⟨hl, os, c, hv, hg⟩) (by rw [g2]; exact I1.bare) (fun _ z => nomatch z)
    have e : s2 = { s1 with heap := s2.heap, gens := s2.gens, drawn := s2.drawn, toks := s2.toks } := by
      cases s2
      cases s1
      cases o2
      rfl
    rw [e]
    exact ⟨.ref p, _, J, rfl, hQ hn⟩
  have hcalm := I1.ok.hd hc
  have hrm : its.toArray.size + 1 < scanBound := by rw [hsz]; exact hlen
  rcases q1 with ⟨ns, rfl, q1⟩ | ⟨ys, rfl, q1⟩
  · have hnl : ns.length = its.toArray.size := by rw [hsz, List.length_map]
    refine setM_of_list hcalm pl.isList (ks := ns.map fun i => (Sum.inl i : Key)) (fun i u e => ?_) (by rw [List.length_map]; exact hnl) hrm fun h2 tk so kp => ?_
    · have e' : its[i]? = some u := by simpa using e
      have hi : i < its.length := (List.getElem?_eq_some_iff.mp e').1
      have hi' : i < ns.length := by rw [hnl]; simpa using hi
      obtain ⟨u', e2, ru⟩ := r.get (i := i) (x := .int ns[i]) (by rw [List.getElem?_map, List.getElem?_eq_getElem hi']; rfl)
      rw [e'] at e2
      cases e2
      obtain ⟨t, rfl⟩ := ru
      exact ⟨.inl ns[i], by rw [List.getElem?_map, List.getElem?_eq_getElem hi']; rfl, by simp [keyIs, Value.isInt]⟩
    · apply args_nil
      have hle2 := dedup_le (ns.map fun i => (Sum.inl i : Key)) []
      simp only [List.length_nil, List.length_map, Nat.zero_add] at hle2
      have hlt : s1.heap.objs.size ≤ h2.objs.size := by
        obtain ⟨o, es, ep, t, ho, _⟩ := so
        exact Nat.le_of_lt (Heap.lt_size ho)
      refine sortedM (s := { s1 with heap := h2, toks := tk }) intOf .int (fun v i => ∃ t, v = Value.int i t) so hcalm (by omega) (by have : (16777216 : Nat) = sizeLine := rfl; rw [← this]; rw [List.length_map] at hlen; omega) (fun k v hk hv => ?_) (fun k v k' v' hk hk' hv hv' => rfl) (fun k v hk hv => ⟨(by intro z; cases z), fun xs z => by cases z⟩) fun s2 p os c vs k2 g2 o2 hp hgt eo pk gk => ?_
      · obtain ⟨i, _, rfl⟩ := keys_i.mp hk
        rcases keyIs_shape hv with ⟨j, t, e, rfl⟩ | ⟨x, t, e, rfl⟩
        · exact ⟨⟨t, rfl⟩, fun h => .int _ _, rfl⟩
        · cases e
      · have eh : PySem.W.dataLe false PyData.int = fun a b : Int => decide (a ≤ b) := PySem.W.dataLe_int (β := Int) fun i => i
        rw [eh] at eo
        have hv := each_ints eo
        have pr : ((vs.map intOf).mergeSort fun a b => decide (a ≤ b)).Perm (vs.map intOf) := List.mergeSort_perm _ _
        have kk : ∀ v ∈ vs, keyM (0, v) = .inl (intOf v) := fun v hv => by
          have hm := pk.mem_iff.mp (List.mem_map.mpr ⟨v, hv, rfl⟩)
          obtain ⟨i, _, e⟩ := keys_i.mp hm
          rcases keyIs_shape (gk v hv) with ⟨j, t, e', rfl⟩ | ⟨x, t, e', rfl⟩
          · rfl
          · rw [e] at e'; cases e'
        have pk' : ((vs.map intOf).map (fun i => (Sum.inl i : Key))).Perm (dedup [] (ns.map fun i => (Sum.inl i : Key))) := by
          rw [List.map_map]
          have : vs.map ((fun i => (Sum.inl i : Key)) ∘ intOf) = vs.map fun v => keyM (0, v) := List.map_congr_left fun v hv => (kk v hv).symm
          rw [this]; exact pk
        have nd : (vs.map intOf).Nodup := by
          have := pk'.nodup_iff.mpr (nodup_dedup _ _ List.nodup_nil)
          exact (List.pairwise_map.mp this).imp fun hne e => hne (by rw [e])
        refine fin s2 p os c _ h2 tk kp hlt k2 g2 o2 hp hgt hv ?_ fun hn => q1 _ p ?_ (fun x => ?_) hn
        · rw [List.length_map, List.length_mergeSort]
          have := pk'.length_eq
          rw [List.length_map] at this
          rw [List.length_map] at hlen
          show _ ≤ 16777216
          omega
        · refine pw_lt (le := fun a b : Int => decide (a ≤ b) = true) (fun a b h1 h2 => ?_) (List.pairwise_mergeSort (fun a b c h1 h2 => ?_) (fun a b => ?_) _) (pr.nodup_iff.mpr nd)
          · have := of_decide_eq_true h1; omega
          · have := of_decide_eq_true h1; have := of_decide_eq_true h2; exact decide_eq_true (by omega)
          · rw [Bool.or_eq_true, decide_eq_true_eq, decide_eq_true_eq]; omega
        · rw [pr.mem_iff]
          constructor
          · intro hx
            obtain ⟨i, hi, e⟩ := keys_i.mp (pk'.mem_iff.mp (List.mem_map.mpr ⟨x, hx, rfl⟩))
            cases e
            exact hi
          · intro hx
            obtain ⟨y, hy, e⟩ := List.mem_map.mp (pk'.mem_iff.mpr (keys_i.mpr ⟨x, hx, rfl⟩))
            cases e
            exact hy
  · have hnl : ys.length = its.toArray.size := by rw [hsz, List.length_map, List.length_map]
    refine setM_of_list hcalm pl.isList (ks := ys.map fun i => (Sum.inr (S2 i) : Key)) (fun i u e => ?_) (by rw [List.length_map]; exact hnl) hrm fun h2 tk so kp => ?_
    · have e' : its[i]? = some u := by simpa using e
      have hi : i < its.length := (List.getElem?_eq_some_iff.mp e').1
      have hi' : i < ys.length := by rw [hnl]; simpa using hi
      obtain ⟨u', e2, ru⟩ := r.get (i := i) (x := .str (S2 ys[i])) (by rw [List.getElem?_map, List.getElem?_map, List.getElem?_eq_getElem hi']; rfl)
      rw [e'] at e2
      cases e2
      obtain ⟨t, rfl⟩ := ru
      exact ⟨.inr (S2 ys[i]), by rw [List.getElem?_map, List.getElem?_eq_getElem hi']; rfl, by simp [keyIs, Value.isStrOf]⟩
    · apply args_nil
      have hle2 := dedup_le (ys.map fun i => (Sum.inr (S2 i) : Key)) []
      simp only [List.length_nil, List.length_map, Nat.zero_add] at hle2
      have hlt : s1.heap.objs.size ≤ h2.objs.size := by
        obtain ⟨o, es, ep, t, ho, _⟩ := so
        exact Nat.le_of_lt (Heap.lt_size ho)
      refine sortedM (s := { s1 with heap := h2, toks := tk }) strOf .str (fun v i => ∃ t, v = Value.str i t) so hcalm (by omega) (by have : (16777216 : Nat) = sizeLine := rfl; rw [← this]; rw [List.length_map, List.length_map] at hlen; omega) (fun k v hk hv => ?_) (fun k v k' v' hk hk' hv hv' => rfl) (fun k v hk hv => ⟨(by intro z; cases z), fun xs z => by cases z⟩) fun s2 p os c vs k2 g2 o2 hp hgt eo pk gk => ?_
      · obtain ⟨i, _, rfl⟩ := keys_s.mp hk
        rcases keyIs_shape hv with ⟨j, t, e, rfl⟩ | ⟨x, t, e, rfl⟩
        · cases e
        · exact ⟨⟨t, rfl⟩, fun h => .str _ _, rfl⟩
      · have eh : PySem.W.dataLe false PyData.str = fun a b : Str => decide (a.cps.toList ≤ b.cps.toList) := PySem.W.dataLe_str (β := Str) fun i => i
        rw [eh] at eo
        have hv := each_strs eo
        have pr : ((vs.map strOf).mergeSort fun a b : Str => decide (a.cps.toList ≤ b.cps.toList)).Perm (vs.map strOf) := List.mergeSort_perm _ _
        have kk : ∀ v ∈ vs, keyM (0, v) = .inr (strOf v) := fun v hv => by
          have hm := pk.mem_iff.mp (List.mem_map.mpr ⟨v, hv, rfl⟩)
          obtain ⟨i, _, e⟩ := keys_s.mp hm
          rcases keyIs_shape (gk v hv) with ⟨j, t, e', rfl⟩ | ⟨x, t, e', rfl⟩
          · rw [e] at e'; cases e'
          · rfl
        have pk' : ((vs.map strOf).map (fun i => (Sum.inr i : Key))).Perm (dedup [] (ys.map fun i => (Sum.inr (S2 i) : Key))) := by
          rw [List.map_map]
          have : vs.map ((fun i => (Sum.inr i : Key)) ∘ strOf) = vs.map fun v => keyM (0, v) := List.map_congr_left fun v hv => (kk v hv).symm
          rw [this]; exact pk
        have nd : (vs.map strOf).Nodup := by
          have := pk'.nodup_iff.mpr (nodup_dedup _ _ List.nodup_nil)
          exact (List.pairwise_map.mp this).imp fun hne e => hne (by rw [e])
        have eS : ∀ l : List Str, (l.map fun x => x.cps.toList).map S2 = l := fun l => by
          rw [List.map_map]
          exact (List.map_congr_left fun x _ => S2_eta x).trans (List.map_id l)
        have ems := eS ((vs.map strOf).mergeSort fun a b : Str => decide (a.cps.toList ≤ b.cps.toList))
        rw [← ems] at hv
        have pw : (((vs.map strOf).mergeSort fun a b : Str => decide (a.cps.toList ≤ b.cps.toList)).map fun x => x.cps.toList).Pairwise (· < ·) := by
          rw [List.pairwise_map]
          refine pw_lt (le := fun a b : Str => decide (a.cps.toList ≤ b.cps.toList) = true) (fun a b h1 h2 => ?_) (List.pairwise_mergeSort (fun a b c h1 h2 => ?_) (fun a b => ?_) _) (pr.nodup_iff.mpr nd)
          · have h1 := of_decide_eq_true h1
            by_cases h : a.cps.toList < b.cps.toList
            · exact h
            · exact (h2 (by rw [← S2_eta a, ← S2_eta b, List.le_antisymm h1 (List.not_lt.mp h)])).elim
          · exact decide_eq_true (List.le_trans (of_decide_eq_true h1) (of_decide_eq_true h2))
          · rw [Bool.or_eq_true, decide_eq_true_eq, decide_eq_true_eq]; exact List.le_total _ _
        refine fin s2 p os c _ h2 tk kp hlt k2 g2 o2 hp hgt hv ?_ fun hn => q1 _ p pw (fun x => ?_) hn
        · rw [List.length_map, List.length_map, List.length_map, List.length_mergeSort]
          have := pk'.length_eq
          rw [List.length_map] at this
          rw [List.length_map, List.length_map] at hlen
          show _ ≤ 16777216
          omega
        · rw [List.mem_map]
          constructor
          · rintro ⟨y, hy, rfl⟩
            obtain ⟨i, hi, e⟩ := keys_s.mp (pk'.mem_iff.mp (List.mem_map.mpr ⟨y, pr.mem_iff.mp hy, rfl⟩))
            have e1 : y = S2 i := by cases e; rfl
            rw [e1]
            exact hi
          · intro hx
            obtain ⟨y, hy, e⟩ := List.mem_map.mp (pk'.mem_iff.mpr (keys_s.mpr ⟨x, hx, rfl⟩))
            have e1 : y = S2 x := by cases e; rfl
            exact ⟨y, pr.mem_iff.mpr hy, by rw [e1]⟩
theorem df_sortedSet (hu : X.A.units + 65 < cLine) (hm : X.mg "sorted" = none) (hm2 : X.mg "set" = none) (ha : PE X a (lP ta)) (hc : X.calm = true := by rfl) (hg : Gl X "sorted" := by rfl) (hg2 : Gl X "set" := by rfl) (na : starEach [a] X.env = (false, eval a X.env) :: starEach [] X.env := by rfl) :
    PE X (.Call (.Name "sorted" p) [.Call (.Name "set" p2) [a] [] q] [] pos) (lF (dSS ta)) := PE.imp (pe_ssV hu hm hm2 ha hc hg hg2 na) fun σ H Q ⟨g, Qd, s, w, kk⟩ =>
  ⟨g, _, s, w, fun d v H1 w1 x1 s1 r1 => by
    match d, w1, r1 with
    | .lst ds, w1, r1 =>
      obtain ⟨l1, w1⟩ := w1
      obtain ⟨a, xs, rfl, ha, rl⟩ := r1.lst
      refine ⟨a, xs, rfl, ha, by rw [rl.length]; exact l1, ?_⟩
      rcases w1 with ⟨ns, e, w1⟩ | ⟨ys, e, w1⟩
      · have e' := intsD_eq e
        subst e'
        exact .inl ⟨ns, rl.ints, fun ms p h1 h2 hp => kk (.lst (ms.map .int)) p _ (w1 ms h1 h2) (x1.trans (.new hp)) (s1.alloc hp) (x1.none_of hp fun h => s1.fresh hp (res_M h.res)) (s1.fresh hp) (.lst upd_same (RpL.of_ints ms))⟩
      · have e' := strsQ_eq e
        subst e'
        exact .inr ⟨ys, rl.strs, fun ms p h1 h2 hp => kk (.lst (ms.map .str)) p _ (w1 ms h1 h2) (x1.trans (.new hp)) (s1.alloc hp) (x1.none_of hp fun h => s1.fresh hp (res_M h.res)) (s1.fresh hp) (.lst upd_same (RpL.of_strs ms))⟩⟩
end
end L2.DL
namespace L2.DL
open PySem PySem.Spec PyProof.Rows
section
variable {X : Cx} {C f : Addr} {fd : FuncData} {ps ks : List Str} {tf : TDF} {k n m : Nat} {a e : Expr} {es : List Expr} {ta te : TDE} {ts tk : TDA} {pos p p2 q : Pos} {x : Str} {kws : List Keyword} {perm : List Nat}
theorem run_B {B : Around} {CX : CXT} {sp : Sp} {dvs : List V} {ds : List Value} {E : XK} {pins : List (Addr × Obj)} {σ : St} {H : Hp} {s : Shared} {Q : VK} {us : List Value} {vs : List V} (hf : B.frames = X.A.frames) (F : FnOk X.prog X.w X.K X.mg X.base CX k f fd ps sp) (hr : Room k B) (hb : Binds X.K fd ps ds) (hd : Vals dvs ds) (hx : Passes CX X E) (I : L2.Inv X pins σ H s) (r : Vals vs us) (h : sp (vs ++ dvs) H Q E) :
    wpAny (model X.prog X.w) B (call (.ref f) us) (EP X pins σ Q) X.xe s := by
  have r2 := Vals.append r hd
  have hl : (us ++ ds).length = ps.length := by rw [← r2.length]; exact F.len _ _ _ _ h
  have e := Inv.env0 I
  refine wpAny_call (codeAny_mono (F.run B X.stack s H ⟨us, []⟩ (us ++ ds) (vs ++ dvs) Q E hr ⟨hf.trans e.frames, e.mod, e.bs, e.bsz, e.funs, e.frf, e.hok, e.bare⟩ (hb s us I.kIn hl) r2 h) fun r s' hq => ?_)
  cases r with
  | error e => exact hx pins σ H s e s' I hq
  | ok fl => cases fl <;> first | exact hq.elim | exact I.after hq
theorem room_in1 {A : Around} (h : Room (k + 1) A) : Room k A.in1 := ⟨h.hd, by have := h.dp; show A.depth + 3 * k + 5 < _; omega, by have := h.un; show A.units + 1 + 16 * k + 200 < _; omega⟩
structure Spec1 (K : PySem.W.Frag) (C : Addr) (nm : Str) (f : Addr) : Prop where
  at_ : PySem.W.findIn K (.ref C) nm = some (some (.ref f))
  fn : PySem.W.isFn K (.ref f) = true
def rOwn1 (C : Addr) (tf : TDF) (P : V → Prop) : List V → Hp → VK → Prop := fun xs H Q => ∃ a dx fs, xs = [.ref a] ∧ H a = some (.ins C dx fs) ∧ spE 1 tf [.ref a] H (fun v H' => P v ∧ Q v H') E0
theorem call_reprO (o : Spec1 X.K C "__repr__" f) (F : FnOk X.prog X.w X.K X.mg X.base CX0 k f fd ps (spE 1 tf)) (hr : Room (k + 1) X.A) (hb : Binds X.K fd ps []) : CallR X (.builtin "repr") (rOwn1 C tf fun v => ∃ x, v = .str x) := by
  intro pins s σ H xs us Q I r h
  obtain ⟨a, dx, fs, rfl, e, w⟩ := h
  obtain ⟨u, rfl, ru⟩ := vals1 r
  obtain rfl : u = Value.ref a := ru
  obtain ⟨ox, od, ia⟩ := instAt_of I.hok e
  obtain ⟨m, fr⟩ := I.fr
  refine PySem.W.repr_K (by have := hr.un; show X.A.units + 1 < _; omega) fr I.ok.mod.kin ia o.at_ o.fn (thn (run_B (B := X.A.in1) (dvs := []) (vs := [.ref a]) rfl F (room_in1 hr) hb .nil pass0 I (.cons (show RelV (.ref a) (.ref a) from rfl) .nil) w) fun v s' h => ?_)
  obtain ⟨z, H', I', rz, ⟨x, rfl⟩, qq⟩ := h
  obtain ⟨t, rfl⟩ := rz
  exact ⟨.str x, H', I', ⟨t, rfl⟩, qq⟩
def rStrO (C : Addr) (tf : TDF) : RDC
  | [.ins C' ns vs], Q => C' = C ∧ tf [.ins C' ns vs] fun r => ∃ x, r = .str x ∧ Q r
  | _, _ => False
def rLenO (C : Addr) (tf : TDF) : RDC
  | [.ins C' ns vs], Q => C' = C ∧ tf [.ins C' ns vs] fun r => ∃ i : Int, r = .int i ∧ (0 ≤ i ∧ i < 2 ^ 63) ∧ Q r
  | _, _ => False
def dOwn1 (R : RDC) (te : TDE) : TDE := fun S Q => te S fun d => R [d] Q
theorem own1_imp {Y : Expr} {P : V → Prop} {Rd : D → Prop} {R : RDC} (hY : PE X Y (tCB (rOwn1 C tf P) (tCons (lE te) tNil))) (hR : ∀ d Qd, R [d] Qd → ∃ ns vs, d = .ins C ns vs ∧ tf [d] fun r => Rd r ∧ Qd r) (hP : ∀ (g : Gh) H v d, Rd d → Rp g.z g.M H v d → P v) : PE X Y (lE (dOwn1 R te)) :=
  PE.imp hY fun σ H Q ⟨g, Qd, s, w, kk⟩ => ⟨g, _, s, w, fun d v H1 w1 x1 s1 r1 => by
    obtain ⟨ns, vs, rfl, w2⟩ := hR _ _ w1
    obtain ⟨a, dx, fs, rfl, h, _⟩ := Pk.ins (.inl r1)
    exact ⟨a, dx, fs, rfl, h, rfl, g.z, g.M, _, _, s1.amb, .cons r1 .nil, w2, fun d v H' q x b rp => ⟨hP g H' v d q.1 rp, kk d v H' q.2 (x1.trans x) (s1.ext x b) rp⟩⟩⟩
theorem str_val (g : Gh) (H : Hp) (v : V) (d : D) (h : ∃ x, d = .str x) (r : Rp g.z g.M H v d) : ∃ x, v = .str x := by
  obtain ⟨x, rfl⟩ := h
  cases r
  exact ⟨_, rfl⟩
theorem de_reprO (he : PE X e (lE te)) (o : Spec1 X.K C "__repr__" f) (F : FnOk X.prog X.w X.K X.mg X.base CX0 k f fd ps (spE 1 tf)) (hr : Room (k + 1) X.A) (hbn : ∃ dsv, Vals [] dsv ∧ Binds X.K fd ps dsv) (hm : X.mg "repr" = none) (hg : Gl X "repr" := by rfl) (hs : starEach [e] X.env = (false, eval e X.env) :: starEach [] X.env := by rfl) : PE X (.Call (.Name "repr" p) [e] [] pos) (lE (dOwn1 (rStrO C tf) te)) := by
  obtain ⟨dsv, hv, hbn⟩ := hbn
  cases hv
  refine own1_imp (Rd := fun d => ∃ x, d = .str x) (pe_callB (call_reprO o F hr hbn) hg hm (by decide +kernel) (pa_cons he pa_nil hs) (he := hs) (hpl := by rfl)) (fun d Qd h => ?_) str_val
  cases d <;> try (exact h.elim)
  · obtain ⟨rfl, h⟩ := h
    refine ⟨_, _, rfl, ?_⟩
    have eq : (fun r => ∃ x, r = D.str x ∧ Qd r) = fun r => (∃ x, r = D.str x) ∧ Qd r := by
      funext r
      exact propext ⟨fun ⟨x, a, b⟩ => ⟨⟨x, a⟩, b⟩, fun ⟨⟨x, a⟩, b⟩ => ⟨x, a, b⟩⟩
    rw [← eq]; exact h
def reprL (x : List Nat) : List Nat := (reprText (S2 x)).cps.toList
def rReprS : RDC
  | [.str x], Q => (reprL x).length ≤ sizeLine ∧ Q (.str (reprL x))
  | _, _ => False
def rListS : RDC
  | [.str x], Q => x.length ≤ sizeLine ∧ Q (.lst (x.map fun c => .str [c]))
  | _, _ => False
theorem call_listS (hc : X.calm = true) : CallR X (.type "list") (fun xs H Q => ∃ y : Str, xs = [.str y] ∧ y.cps.size ≤ sizeLine ∧ ∀ l, H l = none → Q (.ref l) (upd H l (.lst (y.cps.toList.map fun c => .str ⟨#[c]⟩)))) := by
  intro pins s σ H xs us Q I r h
  obtain ⟨y, rfl, hz, qq⟩ := h
  obtain ⟨u, rfl, ru⟩ := vals1 r
  obtain ⟨t, rfl⟩ := ru
  refine call_list_str (I.ok.hd hc) y t (fun h2 tk acc c hk e hi => ?_) hz
  refine ⟨.ref s.heap.objs.size, upd H s.heap.objs.size (.lst (y.cps.toList.map fun c => .str ⟨#[c]⟩)), I.laid hk (Nat.le_refl _) ⟨by rw [List.length_map, Array.length_toList]; exact hz, acc.toList, c, ?_, by rw [Array.toArray_toList]; exact e⟩, rfl, qq _ (I.hok.fresh (Nat.le_refl _))⟩
  refine vals_of_idx _ _ (by rw [List.length_map, Array.length_toList, Array.length_toList]; exact hi.1) fun j u hj => ?_
  obtain ⟨c, t', hc, rfl⟩ := hi.2 j u (by rw [← Array.getElem?_toList]; exact hj)
  exact ⟨.str ⟨#[c]⟩, by rw [List.getElem?_map, Array.getElem?_toList, hc]; rfl, ⟨_, rfl⟩⟩
theorem real_listS : RealCF (fun xs H Q => ∃ y : Str, xs = [.str y] ∧ y.cps.size ≤ sizeLine ∧ ∀ l, H l = none → Q (.ref l) (upd H l (.lst (y.cps.toList.map fun c => .str ⟨#[c]⟩)))) rListS := by
  intro g σ H xs ds Qd Q s hx w k
  match ds, w, hx with
  | [.str x], w, hx =>
    obtain ⟨v, rfl, h⟩ := hx.one
    obtain rfl := h.str
    have key : ∀ (z : Bz) (M : MS) (H : Hp) (l : List Nat), RpL z M H (l.map fun c => V.str ⟨#[c]⟩) (l.map fun c => D.str [c]) := fun z M H l => by
      induction l with
      | nil => exact .nil
      | cons c l ih => exact .cons (.str [c]) ih
    exact ⟨S2 x, rfl, by simpa using w.1, fun l hl => k.lst s hl w.2 (key _ _ _ x)⟩
theorem df_listS (hm : X.mg "list" = none) (ha : PA X [e] (lAP ts)) (hc : X.calm = true := by rfl) (hg : Gl X "list" := by rfl) (he : starEach [e] X.env = (false, eval e X.env) :: starEach [] X.env := by rfl) : PE X (.Call (.Name "list" p) [e] [] pos) (lF (dCall rListS ts)) := df_callTy (call_listS hc) real_listS hg hm (by decide +kernel) ha (he := he) (hpl := by rfl)
def dFmt (te : TDE) : TDE := fun S Q => te S fun d => match d with
  | .str y => y.length ≤ sizeLine ∧ Q (.str y)
  | .int i => i.natAbs.log2 < 1920 ∧ Q (.str (decOf i))
  | _ => False
def dFmtR (te : TDE) : TDE := fun S Q => te S fun d => match d with
  | .str y => (reprL y).length ≤ sizeLine ∧ Q (.str (reprL y))
  | .int i => i.natAbs.log2 < 1920 ∧ Q (.str (decOf i))
  | _ => False
theorem de_fmt (he : PE X e (lE te)) : PE X (.FormattedValue e (-1) none pos) (lE (dFmt te)) := PE.imp (pe_fmt he) fun σ H Q ⟨g, Qd, s, w, kk⟩ =>
  ⟨g, _, s, w, fun d v H1 w1 x1 s1 r1 => by
    match d, w1, r1 with
    | .str y, w1, r1 =>
      cases r1
      exact .inl ⟨S2 y, rfl, by rw [S2_length]; exact w1.1, kk (.str y) _ H1 w1.2 x1 s1 (.str y)⟩
    | .int i, w1, r1 =>
      cases r1
      exact .inr ⟨i, rfl, w1.1, kk (.str (decOf i)) _ H1 w1.2 x1 s1 (.str (decOf i))⟩⟩
inductive PJD (X : Cx) : List Expr → List TDE → Prop
  | nil : PJD X [] []
  | cons {e : Expr} {t : TDE} {es : List Expr} {ts : List TDE} (h : PE X e (lE t)) (r : PJD X es ts) : PJD X (e :: es) (t :: ts)
theorem PJD.pj : ∀ {es : List Expr} {ts : List TDE}, PJD X es ts → PJ X es (ts.map lE)
  | _, _, .nil => .nil
  | _, _, .cons h r => .cons h r.pj
def dJs : List TDE → List Nat → SS → (List Nat → Prop) → Prop
  | [], acc, _, Q => Q acc
  | t :: ts, acc, S, Q => t S fun d => ∃ y, d = .str y ∧ acc.length + y.length ≤ sizeLine ∧ dJs ts (acc ++ y) S Q
def dJoined (ts : List TDE) : TDE := fun S Q => dJs ts [] S fun out => Q (.str out)
theorem js_imp : ∀ (ts : List TDE) (acc : List Nat) {g : Gh} {σ : St} {H : Hp} {Qd : D → Prop} {Q : VK}, Stt g σ H → dJs ts acc g.S (fun out => Qd (.str out)) → (∀ d v H', Qd d → Ext g.z H H' → Stt g σ H' → Rp g.z g.M H' v d → Q v H') → tJs (ts.map lE) (S2 acc) σ H fun out H1 => Q (.str out) H1
  | [], acc, g, σ, H, Qd, Q, s, w, kk => kk (.str acc) _ H w .refl s (.str acc)
  | t :: ts, acc, g, σ, H, Qd, Q, s, w, kk => ⟨g, _, s, w, fun d v H1 w1 x1 s1 r1 => by
    obtain ⟨y, rfl, hz, w2⟩ := w1
    cases r1
    refine ⟨S2 y, rfl, by rw [S2_append, S2_length, List.length_append]; exact hz, ?_⟩
    rw [S2_append]
    exact js_imp ts (acc ++ y) s1 w2 fun d v H' q x s' r => kk d v H' q (x1.trans x) s' r⟩
theorem de_joined {v1 v2 : Expr} {rest : List Expr} {ts : List TDE} (h : PJD X (v1 :: v2 :: rest) ts) : PE X (.JoinedStr (v1 :: v2 :: rest) pos) (lE (dJoined ts)) := PE.imp (pe_joined h.pj) fun σ H Q ⟨g, Qd, s, w, kk⟩ => js_imp ts [] s w kk
end
end L2.DL
namespace L2.DL
open PySem PySem.Spec PyProof.Rows
end L2.DL
namespace L2.DL
open PySem PySem.Spec PyProof.Rows
end L2.DL
namespace L2.DL
open PySem PySem.Spec PyProof.Rows
mutual
def kEq : D → D → Bool
  | .int i, .int j => decide (i = j)
  | .str x, .str y => decide (x = y)
  | .tup xs, .tup ys => kEqL xs ys
  | _, _ => false
def kEqL : List D → List D → Bool
  | [], [] => true
  | x :: xs, y :: ys => kEq x y && kEqL xs ys
  | _, _ => false
end
def dgetD : List D → List D → D → Option D
  | k' :: ks, v :: vs, k => if kEq k' k = true then some v else dgetD ks vs k
  | _, _, _ => none
def dhas (ks : List D) (k : D) : Bool := ks.any fun k' => kEq k' k
def dputK (ks : List D) (k : D) : List D := if dhas ks k = true then ks else ks ++ [k]
def dmapV : List D → List D → D → D → List D
  | k' :: ks, v' :: vs, k, v => (if kEq k' k = true then v else v') :: dmapV ks vs k v
  | _, _, _, _ => []
def dputV (ks vs : List D) (k v : D) : List D := if dhas ks k = true then dmapV ks vs k v else vs ++ [v]
def keyOk : Bool → D → Bool
  | false, d => (keyD d).isSome
  | true, .tup xs => (keysD xs).isSome
  | _, _ => false
theorem keyD_kD {d : D} {k : Key} (h : keyD d = some k) : d = kD k := by
  cases d <;> simp only [keyD, Option.some.injEq, reduceCtorEq] at h <;> subst h <;> rfl
/-- a dict, read: how it stands -/
theorem Pk.dic {g : Gh} {H : Hp} {v : V} {t lk : Bool} {ks vs : List D} (h : Pk g H v (.dic t lk ks vs)) : ∃ a, v = .ref a ∧ ((∃ kvs : List (Key × V), t = false ∧ LkD lk H a (.dK kvs) ∧ ks = (kvs.map fun p => kD p.1) ∧ RpL g.z g.M H (kvs.map fun p => p.2) vs) ∨ ∃ kvs : List (List Key × V), t = true ∧ LkD lk H a (.dT kvs) ∧ ks = (kvs.map fun p => tD p.1) ∧ RpL g.z g.M H (kvs.map fun p => p.2) vs) := by
  rcases h with h | ⟨a, e, _, _, h⟩
  · cases h with
    | dicK r n l => exact ⟨_, rfl, .inl ⟨_, rfl, r, rfl, l⟩⟩
    | dicT r n l => exact ⟨_, rfl, .inr ⟨_, rfl, r, rfl, l⟩⟩
  · cases h with
    | dicK r l => exact ⟨_, e, .inl ⟨_, rfl, r, rfl, l⟩⟩
    | dicT r l => exact ⟨_, e, .inr ⟨_, rfl, r, rfl, l⟩⟩
/-- a key, read -/
theorem Pk.key {g : Gh} {H : Hp} {v : V} {d : D} (h : Pk g H v d) (hk : (keyD d).isSome = true) : ∃ k, d = kD k ∧ v = kV k := by
  obtain ⟨k, e⟩ := Option.isSome_iff_exists.mp hk
  have e1 := keyD_kD e
  subst e1
  refine ⟨k, rfl, ?_⟩
  cases k with
  | inl i => exact h.int
  | inr x => exact h.str
def dGetR : D → D → (D → Prop) → Prop
  | .dic t _ ks vs, k, Q => keyOk t k = true ∧ ∃ v, dgetD ks vs k = some v ∧ Q v
  | _, _, _ => False
def dInR (f : Bool → Bool) : D → D → (D → Prop) → Prop
  | .dic t _ ks vs, k, Q => keyOk t k = true ∧ Q (.bl (f (dgetD ks vs k).isSome))
  | _, _, _ => False
section
variable {X : Cx} {o i e : Expr} {td tk te tv : TDE} {pos pos' p : Pos} {ts : TDA} {j : Nat}
/-- d[k] = v, d owned -/
def dsDput (j : Nat) (tk tv : TDE) : TDS := fun De S => ∃ t ks vs, S[j]? = some (.own (.dic t false ks vs)) ∧ tv S fun v => tk S fun k => keyOk t k = true ∧ ks.length < sizeLine ∧ De.nx (S.set j (.own (.dic t false (dputK ks k) (dputV ks vs k v))))
end
end L2.DL
namespace L2.DL
open PySem PySem.Spec PyProof.Rows
section
variable {X : Cx} {tg e : Expr} {te : TDE}
def diKeys (te : TDE) : TDI := fun S Q => te S fun d => ∃ t ks vs, d = .dic t true ks vs ∧ Q ks
end
section
variable {X : Cx} {e : Expr} {te : TDE} {t : TDS}
def dLk (te : TDE) : TDE := fun S Q => te S fun d => ∃ t ks vs, d = .dic t false ks vs ∧ Q (.dic t true ks vs)
/-- what name i owns is kept and locked from here on -/
def dsFrzL (i : Nat) (t : TDS) : TDS := fun De S => ∃ b ks vs, S[i]? = some (.own (.dic b false ks vs)) ∧ t De (S.set i (.val (.dic b true ks vs)))
end
end L2.DL
namespace L2.DL
open PySem PySem.Spec PyProof.Rows
/-- the entries, put one by one -/
def dstep (p : List D × List D) : D → List D × List D
  | .tup [k, v] => (dputK p.1 k, dputV p.1 p.2 k v)
  | _ => p
def dfold (rs : List D) : List D × List D := rs.foldl dstep ([], [])
def dcF (t : Bool) (tt : TDT) (tk tv : TDE) : SS → (List D → Prop) → Prop := fun S2 Q => tt S2 fun b => if b = true then tk S2 fun k => tv S2 fun v => keyOk t k = true ∧ Q [.tup [k, v]] else Q []
section
variable {X : Cx} {kx vx tg iter tg1 iter1 : Expr} {ifs ifs1 : List Expr} {scope : Scope} {own : List (Str × Nat)} {pos : Pos} {is is1 vs1 : List Nat} {ti ti1 : TDI} {tgd tgd1 : TDG} {tt tt1 : TDT} {tk tv : TDE} {t : Bool}
/-- {k: v for x in it if c} -/
def dDc (t : Bool) (ti : TDI) (tgd : TDG) (tt : TDT) (tk tv : TDE) (vs : List Nat) : TDE := fun S Q => ti S fun ds => ds.length ≤ sizeLine ∧ wpMap (fun d k => tgd d (wipeS S vs) fun S2 => dcF t tt tk tv S2 k) ds fun rs => Q (.dic t false (dfold rs).1 (dfold rs).2)
/-- two loops -/
def dcF2 (t : Bool) (B : Nat) (tt : TDT) (ti1 : TDI) (tgd1 : TDG) (tt1 : TDT) (tk tv : TDE) (vs1 : List Nat) : SS → (List D → Prop) → Prop := fun S2 Q => tt S2 fun b => if b = true then ti1 S2 fun es => es.length ≤ B ∧ wpMap (fun d k => tgd1 d (wipeS S2 vs1) fun S3 => dcF t tt1 tk tv S3 k) es Q else Q []
def dDc2 (t : Bool) (ti : TDI) (tgd : TDG) (tt : TDT) (ti1 : TDI) (tgd1 : TDG) (tt1 : TDT) (tk tv : TDE) (vs vs1 : List Nat) : TDE := fun S Q => ti S fun ds => ∃ B, ds.length * B ≤ sizeLine ∧ wpMap (fun d k => tgd d (wipeS S vs) fun S2 => dcF2 t B tt ti1 tgd1 tt1 tk tv vs1 S2 k) ds fun rs => Q (.dic t false (dfold rs).1 (dfold rs).2)
end
end L2.DL
namespace L2.DL
open PySem PySem.Spec PyProof.Rows
end L2.DL
namespace L2.DL
open PySem PySem.Spec PyProof.Rows PySem.Calls
def dhits (ks' vs' : List D) : List D → List D → Bool
  | k :: ks, v :: vs => (match dgetD ks' vs' k with | none => false | some v' => deqv v v') && dhits ks' vs' ks vs
  | _, _ => true
def deqDic (ks vs ks' vs' : List D) : Bool := (ks.length == ks'.length) && dhits ks' vs' ks vs
def rEqDic : RD2
  | .dic true _ ks vs, .dic true _ ks' vs', Q => vs.all okD = true ∧ vs'.all okD = true ∧ Q (.bl (deqDic ks vs ks' vs'))
  | _, _, _ => False
end L2.DL
namespace L2.DL
open PySem PySem.Spec PyProof.Rows
theorem u1 {k : Nat} {A : Around} (hr : Room k A) : A.units + 1 < cLine := by have := hr.un; omega
section
variable {X : Cx} {e e' : Expr} {i : Nat} {ta : TDA} {pos : Pos}
/-- xs.insert(k, y), xs owned -/
def dsIns (i : Nat) (ta : TDA) : TDS := fun De S => ∃ ds, S[i]? = some (.own (.lst ds)) ∧ ta S fun as => ∃ (k : Int) (y : D), as = [.int k, y] ∧ 0 ≤ k ∧ k < 2 ^ 63 ∧ ds.length < sizeLine ∧ De.nx (S.set i (.own (.lst (ds.take k.toNat ++ [y] ++ ds.drop k.toNat))))
theorem ds_ins {o : Expr} {ap cp : Pos} (ho : PE X o (tVar i)) (ha : PA X [e, e'] (lA ta))
    (hbase : attributeBase o "insert" X.env (eval o X.env) = eval o X.env := by rfl)
    (hfew : ((backTo cp (starEach [e, e'] X.env)).all (fun x => !x.1) && (backToKw cp (keywordEach [] X.env)).all (fun x => x.1.isSome)
      && decide ([e, e'].length + ([] : List Keyword).length + (if ([] : List Keyword).isEmpty then 0 else 1) < 30)) = true := by rfl)
    (hline : (ap.endLine == cp.line) = true := by rfl) (hs : starEach [e, e'] X.env = (false, eval e X.env) :: starEach [e'] X.env := by rfl) (hpl : (backTo cp (starEach [e'] X.env)).any (·.1) = false := by rfl)
    (hsw : swapsWith (.Call (.Attribute o "insert" ap) [e, e'] [] cp) none pos.line X.env = pure false := by rfl) :
    PS X (.Expr (.Call (.Attribute o "insert" ap) [e, e'] [] cp) pos) (lS (dsIns i ta)) :=
  PS.imp (ps_expr (pe_bm PySem.F.plainAttrs_list PySem.F.slot_list_insert PySem.F.type_list_insert mt_insert ho ha hbase hfew hline hs hpl) hsw) fun D σ H ⟨g, De, s, ⟨ds, e1, w⟩, l⟩ => by
    obtain ⟨a, ea, eo, o⟩ := s.own i _ e1
    cases o with
    | lst h1 l1 =>
      refine ⟨.ref a, ea, .inl ⟨rfl, _, .of h1⟩, g, _, s, w, fun as vs H1 w1 x1 s1 r1 => ?_⟩
      obtain ⟨k, y, rfl, k0, k1, hz, q⟩ := w1
      rcases r1 with _ | ⟨r1, r2⟩
      rcases r2 with _ | ⟨r2, r3⟩
      cases r3
      cases r1
      obtain ⟨a', ea', eo', o'⟩ := s1.own i _ e1
      rw [ea] at ea'
      cases ea'
      cases o' with
      | lst h2 l2 =>
        refine ⟨a, _, k, _, rfl, rfl, h2, by rw [l2.length]; exact hz, k0, k1, ?_⟩
        exact l.nx g.ow _ σ _ (s1.mutate e1 ea (.inr rfl) (.lst upd_same ((((l2.take k.toNat).append (.one r2)).append (l2.drop k.toNat)).tr (tr_mut (.inr (.inr ⟨i, eo⟩)) _)))) q
/-- len of a dict -/
def rLenDic : RDC
  | [.dic _ _ ks _], Q => Q (.int ks.length)
  | _, _ => False
end
end L2.DL
namespace L2.DL
open PySem PySem.Spec PyProof.Rows
inductive Src where
  | txt (x : Str)
  | lst (a : Addr)
  | tup (a : Addr)
def Src.val : Src → V
  | .txt x => .str x
  | .lst a => .ref a
  | .tup a => .ref a
def Src.below (s : Src) (n : Nat) : Prop := match s with
  | .txt _ => True
  | .lst a => a < n
  | .tup a => a < n
section
variable {X : Cx} {pins : List (Addr × Obj)} {σ : St} {H : Hp} {sh : Shared} {A : Around} {xs : List V}
def Src.fits : Src → Value → Tok → Prop
  | .txt x, u, t => u = .str x t
  | .lst a, u, _ => u = .ref a
  | .tup a, u, _ => u = .ref a
end
inductive SrcR (g : Gh) (H1 : Hp) : Src → List V → List D → Prop
  | txt (l : List Nat) : SrcR g H1 (.txt (S2 l)) (l.map fun c => .str ⟨#[c]⟩) (l.map fun c => .str [c])
  | lst {a : Addr} {xs : List V} {ds : List D} : H1 a = some (.lst xs) → ¬ g.M a → RpL g.z g.M H1 xs ds → SrcR g H1 (.lst a) xs ds
  | tup {a : Addr} {xs : List V} {ds : List D} : H1 a = some (.tup xs) → ¬ g.M a → RpL g.z g.M H1 xs ds → SrcR g H1 (.tup a) xs ds
theorem rpL_chars {z : Bz} {M : MS} {H : Hp} : ∀ l : List Nat, RpL z M H (l.map fun c => .str ⟨#[c]⟩) (l.map fun c => .str [c])
  | [] => .nil
  | c :: l => .cons (.str [c]) (rpL_chars l)
theorem SrcR.rp {g : Gh} {H1 : Hp} {s : Src} {xs : List V} {ds : List D} (r : SrcR g H1 s xs ds) : RpL g.z g.M H1 xs ds := by
  cases r with
  | txt l => exact rpL_chars l
  | lst e n l => exact l
  | tup e n l => exact l
end L2.DL
namespace L2.DL
open PySem PySem.Spec PyProof.Rows
end L2.DL
namespace L2.DL
open PySem PySem.Spec PyProof.Rows
section
variable {X : Cx} {a : Expr} {ta : TDE} {p p2 pos pos2 : Pos}
def dLRg (ta : TDE) : TDE := fun S Q => ta S fun d => ∃ n : Int, d = .int n ∧ n ≤ 16777216 ∧ -(2 ^ 62) ≤ n ∧ Q (.lst ((List.range n.toNat).map fun i : Nat => .int (0 + (i : Int))))
end
end L2.DL
namespace L2.DL
open PySem PySem.Spec PyProof.Rows
abbrev TDX := List D → (D → Prop) → (XD → Prop) → Prop
def noRaise : XD → Prop := fun _ => False
theorem XLink.no {z : Bz} {M : MS} {H : Hp} : XLink z M H (fun _ _ _ => False) noRaise := fun _ _ _ h => h.elim
section
variable {X : Cx} {e o : Expr} {es : List Expr} {x m : Str} {p pos apos : Pos} {ts : TDA} {to : TDE} {k n j : Nat} {f C : Addr} {fd : FuncData} {ps : List Str} {dvs : List V} {dds : List D} {tf : TDX} {E : XK}
def dFnX (j : Nat) (E : XK) (tf : TDX) (dds : List D) (ts : TDA) : TDE := fun S Q => ts S fun ds => ∃ Ed, S[j]? = some (.ex E Ed) ∧ tf (ds ++ dds) Q Ed
def dMethX (j : Nat) (E : XK) (C : Addr) (m : Str) (tf : TDX) (dds : List D) (to : TDE) (ts : TDA) : TDE := fun S Q => to S fun d => ∃ ns vs, d = .ins C ns vs ∧ m ∉ ns ∧ ts S fun ds => ∃ Ed, S[j]? = some (.ex E Ed) ∧ tf (d :: (ds ++ dds)) Q Ed
end
end L2.DL
namespace L2.DL
open PySem PySem.Spec PyProof.Rows
section
variable {X : Cx} {e : Expr} {es : List Expr} {x : Str} {p pos pos' : Pos} {ts : TDA} {k j : Nat} {fI C : Addr} {fd : FuncData} {ps : List Str} {E : XK} {names : List Str} {code : List Nat}
def xdE (C : Addr) (names : List Str) (code : List Nat) (ds : List D) : XD := ⟨C, names.reverse ++ [("code" : Str)], ds.reverse ++ [.str code]⟩
def dsRaise (j : Nat) (E : XK) (C : Addr) (names : List Str) (code : List Nat) (ts : TDA) : TDS := fun De S => ts S fun ds => ds.length = names.length ∧ ∃ Ed, S[j]? = some (.ex E Ed) ∧ Ed (xdE C names code ds)
end
end L2.DL
namespace L2.DL
open PySem PySem.Spec PyProof.Rows
end L2.DL
namespace L2.DL
open PySem PySem.Spec PyProof.Rows
end L2.DL
namespace L2.DL
open PySem PySem.Spec PyProof.Rows
abbrev TCl := Nat → (D → Prop) → (XD → Prop) → Prop
/-- from H on: calls of the lambdas' functions (the cells that they read are told by H) -/
def PowD (P : Program) (w : World) (K : PySem.W.Frag) (mg : Str → Option Value) (base : Heap) (k : Nat) (z : Bz) (M : MS) (H : Hp) (T : TCl) : Prop :=
  ∀ (i : Nat) (f : Addr) (A : Around) (outer : List Env) (s1 : Shared) (HZ : Hp) (MZ : MS) (Q : VK) (E : XK) (Qd : D → Prop) (Ed : XD → Prop), Room k A → Env0 P w K mg base A outer s1 HZ → Ext z H HZ → Amb z MZ HZ → (∀ a, M a → MZ a) → (∀ a, MZ a → M a ∨ resB z a ∨ H a = none) →
    CloAt z MZ HZ f i → T i Qd Ed → (∀ d v H', Qd d → Ext z HZ H' → BagOk z H' → Rp z MZ H' v d → Q v H') → XLink z MZ HZ E Ed → codeAny (model P w) A (.call (.ref f) ⟨[], []⟩) (CR (L2.CX P w) outer P w HZ s1 Q E) s1
theorem PowD.later {P : Program} {w : World} {K : PySem.W.Frag} {mg : Str → Option Value} {base : Heap} {k : Nat} {z : Bz} {M M1 : MS} {H H1 : Hp} {T : TCl} (p : PowD P w K mg base k z M H T) (x : Ext z H H1) (h1 : ∀ a, M a → M1 a) (h2 : ∀ a, M1 a → M a ∨ resB z a ∨ H a = none)
    (hn : ∀ a, H1 a = none → resB z a ∨ H a = none) : PowD P w K mg base k z M1 H1 T := fun i f A outer s2 HZ MZ Q E Qd Ed hr e0 x2 am g1 g2 c t kq ke =>
  p i f A outer s2 HZ MZ Q E Qd Ed hr e0 (x.trans x2) am (fun a h => g1 a (h1 a h)) (fun a h => by
    rcases g2 a h with h | h | h
    · exact h2 a h
    · exact .inr (.inl h)
    · exact .inr (hn a h)) c t kq ke
def wipeO : Sl → Sl
  | .val d => .val d
  | _ => .no
/-- what a lambda sees of the slots; jx: the wish about exceptions -/
def lamS (S : SS) (jx : Nat) (E : XK) (Ed : XD → Prop) : SS := (S.map wipeO).set jx (.ex E Ed)
end L2.DL
namespace L2.DL
open PySem PySem.Spec PyProof.Rows
end L2.DL
namespace L2.DL
open PySem PySem.Spec PyProof.Rows
end L2.DL
namespace L2.DL
open PySem PySem.Spec PyProof.Rows
theorem Stt.trX {g : Gh} {σ : St} {H : Hp} (s : Stt g σ H) (hr : ∀ a, resB g.z a → g.XM a) : Tr g.XM g.X0 g.M H := Tr.of fun b o n e => by
  have nb : ¬ isB g.z b := fun q => n (hr b q.res)
  have e1 := s.ex.e0 b o e nb
  refine ⟨s.keep b o e1 nb, fun h => ?_⟩
  rcases h with h | h | ⟨i, h⟩
  · rcases s.ex.en b h with h | h
    · exact n h
    · rw [h] at e; cases e
  · exact n (hr b h)
  · rw [(s.new i b h).1] at e1; cases e1
theorem Stt.mX {g : Gh} {σ : St} {H : Hp} (s : Stt g σ H) {a : Addr} (h : g.M a) : g.XM a ∨ resB g.z a ∨ g.X0 a = none := by
  rcases h with h | h | ⟨i, h⟩
  · rcases s.ex.en a h with h | h
    · exact .inl h
    · exact .inr (.inr h)
  · exact .inr (.inl h)
  · by_cases hb : resB g.z a
    · exact .inr (.inl hb)
    · refine .inr (.inr ?_)
      cases e : g.X0 a with
      | none => rfl
      | some o =>
        have e1 := s.ex.e0 a o e fun q => hb q.res
        rw [(s.new i a h).1] at e1
        cases e1
/-- the class's fields are told by its instances alone -/
def FldC (K : PySem.W.Frag) (names : List Str) (C : Addr) : Prop := XfC K C ∧ ∀ n ∈ names, PySem.W.findIn K (.ref C) n = some none
def XZ (K : PySem.W.Frag) (names : List Str) (cls : Value) (d : Option Addr) (x : XD) : Bz → MS → Hp → Prop := fun z M H => (∀ b, resB z b → M b) ∧ cls = .ref x.C ∧ (∃ dd, d = some dd ∧ ¬ isB z dd ∧ XRp z M H dd x) ∧ FldC K names x.C
theorem BagOk.xd {z : Bz} {H : Hp} {dd : Addr} {fs : List (Str × V)} (b : BagOk z H) (e : H dd = some (.xd fs)) : ¬ isB z dd := fun q => by
  rcases q with ⟨l, q⟩ | q
  · obtain ⟨_, _, _, _, _, _, e1, _⟩ := b.bg dd l q
    rw [e] at e1
    cases e1
  · obtain ⟨ps, e1, _⟩ := b.tb dd q
    rw [e] at e1
    cases e1
abbrev SpW := Addr → Value → Option Addr → List V → Hp → VK → XK → Prop
structure FnW (P : Program) (w : World) (K : PySem.W.Frag) (mg : Str → Option Value) (base : Heap) (CX : CXT) (k : Nat) (f : Addr) (fd : FuncData) (ps : List Str) (sp : SpW) : Prop where
  len : ∀ a cls d vs H Q E, sp a cls d vs H Q E → vs.length = ps.length
  run : ∀ (A : Around) (outer : List Env) (s : Shared) (H : Hp) (args : Args) (us : List Value) (vs : List V) (Q : VK) (E : XK) (p : Addr × Obj) (cls : Value) (d : Option Addr), Zc cls d p.2 → (∃ vs, p.2.data = .fields vs) → L2H.RoomH k A → L2H.PinOk outer H s p → Env0 P w K mg base A outer s H → BindsTo s fd args (ps.zip us) → Vals vs us → sp p.1 cls d vs H Q E →
    codeAny (model P w) A (.call (.ref f) args) (CR CX outer P w H s Q E) s
end L2.DL
namespace L2.DL
open PySem PySem.Spec PyProof.Rows
theorem XZ.at {g : Gh} {σ : St} {H : Hp} {j : Nat} {K : PySem.W.Frag} {names : List Str} {cls : Value} {d : Option Addr} {x : XD} (s : Stt g σ H) (e : g.S[j]? = some (.zz (XZ K names cls d x))) : XZ K names cls d x g.z g.M H := by
  obtain ⟨hr, ec, ⟨dd, ed, nb, fs, x1, x2, x3⟩, T⟩ := s.ex.ez j _ e
  exact ⟨fun b h => res_M h, ec, ⟨dd, ed, nb, fs, s.keep dd _ (s.ex.e0 dd _ x1 nb) nb, x2, x3.tr (s.trX hr)⟩, T⟩
section
variable (P : Program) (w : World) (K : PySem.W.Frag) (mg : Str → Option Value) (base : Heap) (kp : Nat)
/-- the fact of the slot that tells of the lambdas' calls -/
def PZ (T : TCl) : Bz → MS → Hp → Prop := fun z M0 H0 => (∀ a, resB z a → M0 a) ∧ PowD P w K mg base kp z M0 H0 T
end
/-- the power at a later state of the def that got it -/
theorem PZ.at {g : Gh} {σ : St} {H : Hp} {P : Program} {w : World} {K : PySem.W.Frag} {mg : Str → Option Value} {base : Heap} {kp j : Nat} {T : TCl} (st : Stt g σ H) (e : g.S[j]? = some (.zz (PZ P w K mg base kp T))) : PowD P w K mg base kp g.z g.M H T := by
  obtain ⟨hr, p⟩ := st.ex.ez j _ e
  exact p.later (st.ex.e0.trans st.keep) (fun a h => .inl (st.ex.em a h)) (fun a h => st.mX h) fun a h => .inr (st.x0 h)
end L2.DL
namespace L2.DL
open PySem PySem.Spec PyProof.Rows
end L2.DL
namespace L2.DL
open PySem PySem.Spec PyProof.Rows
end L2.DL
namespace L2.DL
open PySem PySem.Spec PyProof.Rows
theorem Amb.later {z : Bz} {M : MS} {H H' : Hp} (A : Amb z M H) (x : Ext z H H') (b : BagOk z H') : Amb z M H' := ⟨b, fun a h => by
  by_cases hb : resB z a
  · exact b.alive hb
  · obtain ⟨o, e, n⟩ := A.alive a h
    exact ⟨o, x a o e fun q => hb q.res, n⟩, A.res⟩
end L2.DL
namespace L2.DL
open PySem PySem.Spec PyProof.Rows
end L2.DL
namespace L2.DL
open PySem PySem.Spec PyProof.Rows
end L2.DL
namespace L2.DL
open PySem PySem.Spec PyProof.Rows
end L2.DL
namespace L2.DL
open PySem PySem.Spec PyProof.Rows
theorem bnil {K : PySem.W.Frag} {fd : FuncData} {ps : List Str} (h : ∃ dsv, Vals [] dsv ∧ Binds K fd ps dsv) : Binds K fd ps [] := by
  obtain ⟨dsv, v, b⟩ := h
  cases v
  exact b
theorem FnW.mono {P : Program} {w : World} {K : PySem.W.Frag} {mg : Str → Option Value} {base : Heap} {CX : CXT} {j k : Nat} {f : Addr} {fd : FuncData} {ps : List Str} {sp : SpW} (F : FnW P w K mg base CX j f fd ps sp) (h : j ≤ k) : FnW P w K mg base CX k f fd ps sp :=
  ⟨F.len, fun A outer s H args us vs Q E p cls d hz hfl hr => F.run A outer s H args us vs Q E p cls d hz hfl (hr.mono h)⟩
end L2.DL
namespace L2.DL
open PySem PySem.Spec PyProof.Rows
end L2.DL
namespace L2.DL
open PySem PySem.Spec PyProof.Rows
def splitL (c : Nat) : List Nat → List Nat → List (List Nat)
  | acc, [] => [acc]
  | acc, x :: r => if x = c then acc :: splitL c [] r else splitL c (acc ++ [x]) r
theorem pre_one (c x : Nat) (r : List Nat) : TL.pre [c] (x :: r) = decide (x = c) := by
  unfold TL.pre
  by_cases h : x = c
  · subst h; simp
  · simp [h]
theorem spl_one (c : Nat) : ∀ l acc : List Nat, TL.spl [c] 0 acc l = splitL c acc l
  | [], acc => by
    unfold TL.spl splitL
    rfl
  | x :: r, acc => by
    unfold TL.spl splitL
    rw [pre_one]
    by_cases h : x = c
    · rw [if_pos (by simpa using h), if_pos h]
      exact congrArg (acc :: ·) (spl_one c r [])
    · rw [if_neg (by simpa using h), if_neg h]
      exact spl_one c r _
theorem splitL_len (c : Nat) : ∀ l acc : List Nat, (splitL c acc l).length = l.count c + 1
  | [], acc => rfl
  | x :: r, acc => by
    unfold splitL
    by_cases h : x = c
    · rw [if_pos h, h, List.length_cons, splitL_len c r [], List.count_cons_self]
    · rw [if_neg h, splitL_len c r _, List.count_cons_of_ne h]
theorem txt_split {s : List Nat} {c : Nat} (hc : c < 256) : Txt.split (S2 s) (S2 [c]) = (splitL c [] s).map S2 := by
  have h := SX.split_S (a := s) (b := [c]) (by simp) (by simpa using hc)
  rw [spl_one] at h
  exact h
theorem txt_count (s : List Nat) (c : Nat) : Txt.count (S2 s) (S2 [c]) = (s.count c : Nat) := by
  have hy : TL.tl (S2 [c]) ≠ [] := by
    intro h
    cases h
  obtain ⟨f, g, hn⟩ := StrLaws.occ_tight (S2 s) (S2 [c]) (TL.len1 hy)
  have key := TL.parts_spl hy _ 0 f (Nat.zero_le _) g hn
  have key := congrArg List.length key
  rw [List.drop_zero, List.length_map] at key
  have e1 : TL.spl (TL.tl (S2 [c])) 0 [] (TL.tl (S2 s)) = splitL c [] s := spl_one c s []
  rw [e1, splitL_len] at key
  have pf : ∀ (x : Str) (w : Nat) (cuts : List Nat) (a : Nat), (StrLaws.partsFrom x w a cuts).length = cuts.length + 1 := by
    intro x w cuts
    induction cuts with
    | nil => intro a; rfl
    | cons b r ih => intro a; show (StrLaws.partsFrom x w (b + w) r).length + 1 = _; rw [ih]; rfl
  rw [pf] at key
  unfold Txt.count
  exact congrArg (fun n : Nat => (n : Int)) (Nat.succ.inj key)
section
variable {X : Cx} {o e : Expr} {to te : TE} {ta tb : TDE} {pos apos : Pos}
def rCountD : List Nat → D → (D → Prop) → Prop := fun s y Q => ∃ c, y = .str [c] ∧ Q (.int (s.count c : Nat))
def rSplitD : List Nat → D → (D → Prop) → Prop := fun s y Q => ∃ c, y = .str [c] ∧ c < 256 ∧ s.length + 2 ≤ sizeLine ∧ Q (.lst ((splitL c [] s).map D.str))
def dM1 (R : List Nat → D → (D → Prop) → Prop) (to te : TDE) : TDE := fun S Q => to S fun x => ∃ a, x = .str a ∧ te S fun y => R a y Q
theorem de_count (ho : PE X o (lP ta)) (he : PE X e (lP tb)) (hs : starEach [e] X.env = [(false, eval e X.env)] := by rfl) (hbase : attributeBase o "count" X.env (eval o X.env) = eval o X.env := by rfl) (hline : (apos.endLine == pos.line) = true := by rfl) :
    PE X (.Call (.Attribute o "count" apos) [e] [] pos) (lE (dM1 rCountD ta tb)) := PE.imp (pe_m1 F.slot_str_count F.type_str_count mt_count ho he hs hbase hline) fun σ H Q ⟨g, Qd, s, w, k⟩ =>
  ⟨g, _, s, w, fun d v H1 w1 x1 s1 r1 => by
    obtain ⟨a, rfl, w1⟩ := w1
    cases r1.str
    refine ⟨⟨_, rfl⟩, g, _, s1, w1, fun d2 v2 H2 w2 x2 s2 r2 => ?_⟩
    obtain ⟨c, rfl, w2⟩ := w2
    cases r2.str
    refine ⟨_, _, rfl, rfl, ?_⟩
    rw [txt_count]
    exact k _ _ H2 w2 (x1.trans x2) s2 (.int _)⟩
theorem df_split (ho : PE X o (lP ta)) (he : PE X e (lP tb)) (hs : starEach [e] X.env = [(false, eval e X.env)] := by rfl) (hbase : attributeBase o "split" X.env (eval o X.env) = eval o X.env := by rfl) (hline : (apos.endLine == pos.line) = true := by rfl) :
    PE X (.Call (.Attribute o "split" apos) [e] [] pos) (lF (dM1 rSplitD ta tb)) := PE.imp (pe_split ho he hs hbase hline) fun σ H Q ⟨g, Qd, s, w, k⟩ =>
  ⟨g, _, s, w, fun d v H1 w1 x1 s1 r1 => by
    obtain ⟨a, rfl, w1⟩ := w1
    cases r1.str
    refine ⟨⟨_, rfl⟩, g, _, s1, w1, fun d2 v2 H2 w2 x2 s2 r2 => ?_⟩
    obtain ⟨c, rfl, hc, hl, w2⟩ := w2
    cases r2.str
    refine ⟨_, _, rfl, rfl, rfl, by rw [S2_length]; exact hl, fun p hp => ?_⟩
    rw [txt_split hc]
    have hn : H p = none := (x1.trans x2).none_of hp fun q => s2.fresh hp (res_M q.res)
    exact k _ p _ w2 ((x1.trans x2).trans (.new hp)) (s2.alloc hp) hn (s2.fresh hp) (.lst upd_same (RpL.of_strs _))⟩
end
section
variable {X : Cx} {es : List Expr} {is : List Nat} {pos : Pos}
def dgLst (n : Nat) (t : TDGs) : TDG := fun d S Q => ∃ ds, d = .lst ds ∧ ds.length = n ∧ t ds S Q
theorem dg_lst {k n : Nat} {t : TDGs} (h : PGs X es (lGs is t)) (hc : X.calm = true := by rfl) (hn : (assignEach es X.env).length = n := by rfl) (hst : (assignEach es X.env).findIdx? (·.1) = none := by rfl) : PG X (.Tuple es k pos) (lG is (dgLst n t)) :=
  PG.imp (pg_lst hc h hn hst) fun v σ H Q ⟨g, d, Qd, s, r, w, k⟩ => by
    obtain ⟨ds, rfl, hl, w⟩ := w
    cases r with
    | lst h n l => exact ⟨_, _, rfl, .of h, by rw [l.length]; exact hl, g, ds, Qd, s, l, w, k⟩
end
end L2.DL
namespace L2.DL
open PySem PySem.Spec PyProof.Rows
end L2.DL
namespace L2.DL
open PySem PySem.Spec PyProof.Rows
end L2.DL
namespace L2.DL
open PySem PySem.Spec PyProof.Rows
end L2.DL
namespace L2.DL
open PySem PySem.Spec PyProof.Rows
end L2.DL
namespace L2.DL
open PySem PySem.Spec PyProof.Rows
section
variable {X : Cx} {o e : Expr} {ta : TDE} {ts : TDA} {apos cp : Pos}
def dIndex (ta : TDE) (ts : TDA) : TDE := fun S Q => ta S fun d => ∃ ds, d = .lst ds ∧ ts S fun as => ∃ e, as = [e] ∧ okD (.lst ds) = true ∧ okD e = true ∧ ∃ (j : Nat) (z : D), ds[j]? = some z ∧ deqv z e = true ∧ (∀ m z', m < j → ds[m]? = some z' → deqv z' e = false) ∧ Q (.int j)
end
end L2.DL
namespace L2.DL
open PySem PySem.Spec PyProof.Rows
theorem txt_starts (s c : List Nat) : Txt.startswith (S2 s) (S2 c) = decide (s.take c.length = c) := by
  unfold Txt.startswith
  have e1 : (S2 c).length = c.length := S2_length c
  have e2 : (S2 s).length = s.length := S2_length s
  rw [StrLaws.subAt_eq, e1, e2]
  show (decide (0 + c.length ≤ s.length) && ((s.drop 0).take c.length == c)) = _
  rw [List.drop_zero, Nat.zero_add]
  by_cases h : s.take c.length = c
  · have hl := congrArg List.length h
    rw [List.length_take] at hl
    rw [decide_eq_true h, decide_eq_true (by omega), Bool.true_and]
    exact beq_iff_eq.mpr h
  · rw [decide_eq_false h, beq_eq_false_iff_ne.mpr h, Bool.and_false]
section
variable {X : Cx} {o e a b : Expr} {ta tb : TDE} {pos apos : Pos}
def rStartsD : List Nat → D → (D → Prop) → Prop := fun s y Q => ∃ c, y = .str c ∧ Q (.bl (decide (s.take c.length = c)))
theorem de_starts (ho : PE X o (lP ta)) (he : PE X e (lP tb)) (hs : starEach [e] X.env = [(false, eval e X.env)] := by rfl) (hbase : attributeBase o "startswith" X.env (eval o X.env) = eval o X.env := by rfl) (hline : (apos.endLine == pos.line) = true := by rfl) :
    PE X (.Call (.Attribute o "startswith" apos) [e] [] pos) (lE (dM1 rStartsD ta tb)) := PE.imp (pe_m1 F.slot_str_startswith F.type_str_startswith mt_startswith ho he hs hbase hline) fun σ H Q ⟨g, Qd, s, w, k⟩ =>
  ⟨g, _, s, w, fun d v H1 w1 x1 s1 r1 => by
    obtain ⟨a, rfl, w1⟩ := w1
    cases r1.str
    refine ⟨⟨_, rfl⟩, g, _, s1, w1, fun d2 v2 H2 w2 x2 s2 r2 => ?_⟩
    obtain ⟨c, rfl, w2⟩ := w2
    cases r2.str
    refine ⟨_, _, rfl, rfl, ?_⟩
    rw [txt_starts]
    exact k _ _ H2 w2 (x1.trans x2) s2 (.bl _)⟩
end
end L2.DL
namespace L2.DL
open PySem PySem.Spec PyProof.Rows
section
variable {X : Cx} {e o a b : Expr} {es : List Expr} {te to : TDE} {ts : TDA} {C f : Addr} {x m : Str} {pos p apos : Pos} {n k : Nat} {fd : FuncData} {ps : List Str} {tf : TDF} {dvs : List V} {dds : List D}
theorem df_meth0 (ho : PE X o (lE to)) (hc : Cls X.K C) (hm : Meth X.K C m f) (F : FnOk X.prog X.w X.K X.mg X.base CX0 k f fd ps (spF n tf)) (hr : Room k X.A) (hb : ∃ dsv, Vals dvs dsv ∧ Binds X.K fd ps dsv) (hdd : ∀ z M H, RpL z M H dvs dds) (hn : ∀ ds Q, tf ds Q → ds.length = n) {pl : Sem Bool}
    (hev : eval (.Call (.Attribute o m apos) [] [] pos) X.env = (do let ov ← eval o X.env; standAt apos.atName; let fs ← holding [ov] (getMethod ov m pl); callWith pos fs.1 fs.2 (backTo pos (starEach [] X.env)) (backToKw pos (keywordEach [] X.env))) := by rfl) :
    PE X (.Call (.Attribute o m apos) [] [] pos) (lF (dMeth C m tf dds to daNil)) := by
  obtain ⟨dsv, hd, hb⟩ := hb
  exact PE.imp (pe_meth0 ho hc hm F hr hb hd pass0 hev) fun σ H Q ⟨g, Qd, s, w, kk⟩ =>
    ⟨g, _, s, w, fun d v H1 w1 x1 s1 r1 => by
      obtain ⟨ns, vs, rfl, hmn, w2⟩ := w1
      obtain ⟨a, dx, fs, rfl, h, _, hno⟩ := Pk.ins (.inl r1)
      have r3 : RpL g.z g.M H1 (.ref a :: ([] ++ dvs)) (.ins C ns vs :: ([] ++ dds)) := .cons r1 (hdd g.z g.M H1)
      exact ⟨a, dx, fs, rfl, h, hno m hmn, by rw [r3.length]; exact hn _ _ w2, g.z, g.M, _, Qd, s1.amb, r3, w2, fun d a H' q x b hn nm o => kk d a H' q (x1.trans x) (s1.ext x b) (x1.none_of hn fun h => nm (res_M h.res)) nm o⟩⟩
variable {tk tv : TDE} {v : Expr}
end
end L2.DL
namespace L2.DL
open PySem PySem.Spec PyProof.Rows
end L2.DL
namespace L2.DL
open PySem PySem.Spec PyProof.Rows
end L2.DL
namespace L2.DL
open PySem PySem.Spec PyProof.Rows
end L2.DL
namespace L2.DL
open PySem PySem.Spec PyProof.Rows
end L2.DL
namespace L2.DL
open PySem PySem.Spec PyProof.Rows
def hdK : D → Nat
  | .non => 0
  | .bl _ => 1
  | .int _ => 2
  | .str _ => 3
  | .lst _ => 4
  | .tup _ => 5
  | _ => 9
theorem Rp.hd {z : Bz} {M : MS} {H : Hp} {v : V} {d : D} (h : Rp z M H v d) (hk : hdK d ≠ 9) : (hdK d = 0 ∧ v = .non) ∨ (hdK d = 1 ∧ ∃ b, v = .bl b) ∨ (hdK d = 2 ∧ ∃ i, v = .int i) ∨ (hdK d = 3 ∧ ∃ x, v = .str x) ∨ (hdK d = 4 ∧ ∃ a xs, v = .ref a ∧ H a = some (.lst xs)) ∨ (hdK d = 5 ∧ ∃ a xs, v = .ref a ∧ H a = some (.tup xs)) := by
  cases h with
  | non => exact .inl ⟨rfl, rfl⟩
  | bl b => exact .inr (.inl ⟨rfl, _, rfl⟩)
  | int b => exact .inr (.inr (.inl ⟨rfl, _, rfl⟩))
  | str b => exact .inr (.inr (.inr (.inl ⟨rfl, _, rfl⟩)))
  | lst r _ _ => exact .inr (.inr (.inr (.inr (.inl ⟨rfl, _, _, rfl, r⟩))))
  | tup r _ _ => exact .inr (.inr (.inr (.inr (.inr ⟨rfl, _, _, rfl, r⟩))))
  | _ => exact absurd rfl hk
theorem LkD.ne {lk : Bool} {H : Hp} {a b : Addr} {u : HO} {xs : List V} (h : LkD lk H a u) (hb : H b = some (.lst xs)) (hu : isDic u = true) : a ≠ b := by
  rintro rfl
  cases lk
  · have : H a = some u := h
    rw [hb] at this
    cases this
    cases hu
  · obtain ⟨o, e⟩ := h
    rw [hb] at e
    cases e
def Pm (g : Gh) (i : Nat) (H : Hp) (v : V) (d : D) : Prop := Rp g.z g.M H v d ∨ ∃ a, v = .ref a ∧ g.ow i = some a ∧ g.S[i]? = some (.own d) ∧ Ow g.z g.M H a d
inductive PmL (g : Gh) (i : Nat) (H : Hp) : List V → List D → Prop
  | nil : PmL g i H [] []
  | cons {v : V} {vs : List V} {d : D} {ds : List D} : Pm g i H v d → PmL g i H vs ds → PmL g i H (v :: vs) (d :: ds)
theorem Stt.pm {g : Gh} {σ : St} {H H' : Hp} {i : Nat} {v : V} {d : D} (h : Pm g i H v d) (x : Ext g.z H H') (s : Stt g σ H') : Pm g i H' v d := by
  rcases h with h | ⟨a, e, m, w, o⟩
  · exact .inl (h.ext x)
  · obtain ⟨a', _, e2, o2⟩ := s.own i d w
    rw [m] at e2
    cases e2
    exact .inr ⟨a, e, m, w, o2⟩
theorem PmL.ext {g : Gh} {σ : St} {i : Nat} {H H' : Hp} (x : Ext g.z H H') (s : Stt g σ H') : ∀ {vs : List V} {ds : List D}, PmL g i H vs ds → PmL g i H' vs ds
  | _, _, .nil => .nil
  | _, _, .cons r l => .cons (Stt.pm r x s) (l.ext x s)
end L2.DL
namespace L2.DL
open PySem PySem.Spec PyProof.Rows
end L2.DL
namespace L2.DL
open PySem PySem.Spec PyProof.Rows
section
variable {X : Cx} {i : Nat} {x : Str} {pos pos' ip : Pos} {c a b : Expr} {tt : TDT} {ta tb te to : TDE}
def dsAppF (to te : TDE) : TDS := fun De S => to S fun d => ∃ ds, d = .lst ds ∧ te S fun _ => ds.length < sizeLine ∧ De.nx S
theorem ds_appF {o e : Expr} {ap cp : Pos} (ho : PE X o (lF to)) (he : PE X e (lE te))
    (hbase : attributeBase o "append" X.env (eval o X.env) = eval o X.env := by rfl)
    (hfew : ((backTo cp (starEach [e] X.env)).all (fun x => !x.1) && (backToKw cp (keywordEach [] X.env)).all (fun x => x.1.isSome)
      && decide ([e].length + ([] : List Keyword).length + (if ([] : List Keyword).isEmpty then 0 else 1) < 30)) = true := by rfl)
    (hline : (ap.endLine == cp.line) = true := by rfl) (hs : starEach [e] X.env = (false, eval e X.env) :: starEach [] X.env := by rfl)
    (hsw : swapsWith (.Call (.Attribute o "append" ap) [e] [] cp) none pos.line X.env = pure false := by rfl) :
    PS X (.Expr (.Call (.Attribute o "append" ap) [e] [] cp) pos) (lS (dsAppF to te)) :=
  PS.imp (ps_expr (pe_bm PySem.F.plainAttrs_list PySem.F.slot_list_append PySem.F.type_list_append mt_append ho (pa_cons he pa_nil hs) hbase hfew hline hs (by rfl)) hsw) fun D σ H ⟨g, De, s, w, l⟩ => by
    refine ⟨g, _, s, w, fun d a H1 w1 x1 s1 hn nm o => ?_⟩
    obtain ⟨ds, rfl, w1⟩ := w1
    obtain ⟨xs, h1, l1⟩ : ∃ xs, H1 a = some (.lst xs) ∧ RpL g.z (fun b => g.M b ∨ b = a) H1 xs ds := by
      cases o with
      | lst h1 l1 => exact ⟨_, h1, l1⟩
    · have nb : ¬ isB g.z a := fun h => nm (res_M h.res)
      refine ⟨.inl ⟨rfl, _, .of h1⟩, g, _, s1, w1, fun d v H2 w2 x2 s2 r2 => ?_⟩
      have h2 := x2 a _ h1 nb
      refine ⟨a, _, v, rfl, rfl, h2, by rw [l1.length]; exact w2.1, ?_⟩
      have hx : Ext g.z H (upd H2 a (.lst (xs ++ [v]))) := fun b o e n => by
        rw [upd_ne (ne_of_none e hn)]
        exact x2 b o (x1 b o e n) n
      have hb : BagOk g.z (upd H2 a (.lst (xs ++ [v]))) := s2.bag.mut (fun h => nm (res_M h)) fun c q e => by rw [h2] at e; cases e
      exact l.nx g.ow _ σ _ (s.ext hx hb) w2.2
end
section
variable {X : Cx} {CX : CXT} {k n N i j : Nat} {C f : Addr} {fd : FuncData} {ps ks : List Str} {sp : Sp} {E : XK} {o e : Expr} {es : List Expr} {kws : List Keyword} {m : Str} {apos pos : Pos} {ta : TE} {t tka : TA} {pl : Sem Bool} {to : TDE} {ts tk : TDA} {tf : TDF} {tx : TDX} {av : List Value → List Value → List Value} {ad : List V → List V → List V} {dd : List D → List D → List D} {dvs : List V} {dds : List D}
def dMethKF (C : Addr) (m : Str) (n q : Nat) (dd : List D → List D → List D) (tf : TDF) (to : TDE) (ts tk : TDA) : TDE := fun S Q => to S fun d => ∃ ns vs, d = .ins C ns vs ∧ m ∉ ns ∧ ts S fun ds => tk S fun es => ds.length = n ∧ es.length = q ∧ tf (dd (d :: ds) es) Q
end
end L2.DL
namespace PySem.W
open PySem PySem.Calls PyProof.Rows Builtin
open PySem.Sem (wp)
end PySem.W
namespace L2.DL
open PySem PySem.Spec PyProof.Rows
end L2.DL
namespace L2.DL
open PySem PySem.Spec PyProof.Rows
section
variable {X : Cx} {k i : Nat} {f C : Addr} {fd : FuncData} {x f1 f2 : Str} {p0 p1 p2 k1 k2 : Str} {p pos q1 q2 : Pos} {e h : Expr} {te : TDE}
def dMakeCp (i : Nat) (C : Addr) (f1 f2 : Str) (te : TDE) : TDE := fun S Q => te S fun d => ∃ dl, S[i]? = some (.own (.lst dl)) ∧ Q (.ins C [f1, f2] [.lst dl, d])
end
end L2.DL
namespace L2.DL
open PySem PySem.Spec PyProof.Rows
end L2.DL
namespace L2.DL
open PySem PySem.Spec PyProof.Rows
end L2.DL
namespace L2
open PySem PySem.Spec PyProof.Rows
mutual
def onlyN : NestedKey → Bool
  | .num _ => true
  | .tup ks => onlyNs ks
  | .none => false
  | .text _ => false
def onlyNs : List NestedKey → Bool
  | [] => true
  | k :: ks => onlyN k && onlyNs ks
end
abbrev NKV := NestedKey × Addr × V
abbrev KN : List NKV → List (NestedKey × Addr × Value) → Prop := Paired fun p q => p.1 = q.1 ∧ p.2.1 = q.2.1 ∧ RelV p.2.2 q.2.2
def valN (kvs : List NKV) (k : NestedKey) : Option V := (kvs.find? fun kv => decide (kv.1 = k)).map (·.2.2)
theorem KN.val {kvs : List NKV} {xs : List (NestedKey × Addr × Value)} (r : KN kvs xs) (k : NestedKey) : RelO (valN kvs k) ((atKey xs k).map (·.2)) := by
  induction r with
  | nil => exact True.intro
  | @cons p q ps qs h t ih =>
    obtain ⟨h1, _, h2⟩ := h
    by_cases e : p.1 = k
    · have e' : q.1 = k := h1.symm.trans e
      have a : valN (p :: ps) k = some p.2.2 := by simp [valN, List.find?_cons, e]
      have b : atKey (q :: qs) k = some q.2 := by simp [atKey, List.find?_cons, e']
      rw [a, b]; exact h2
    · have e' : ¬ q.1 = k := fun z => e (h1.trans z)
      have a : valN (p :: ps) k = valN ps k := by simp [valN, List.find?_cons, e]
      have b : atKey (q :: qs) k = atKey qs k := by simp [atKey, List.find?_cons, e']
      rw [a, b]; exact ih
theorem KN.only {kvs : List NKV} {xs : List (NestedKey × Addr × Value)} (r : KN kvs xs) (h : ∀ p ∈ kvs, onlyN p.1 = true) : ∀ x ∈ xs, onlyN x.1 = true := by
  induction r with
  | nil => intro x hx; exact nomatch hx
  | @cons p q ps qs e t ih =>
    intro x hx
    rcases List.mem_cons.mp hx with z | hx
    · subst z; rw [← e.1]; exact h p List.mem_cons_self
    · exact ih (fun p hp => h p (List.mem_cons_of_mem _ hp)) x hx
/-- the tracked value v is the key k -/
inductive IsN (H : Hp) : NestedKey → V → Prop
  | num (i : Int) : IsN H (.num i) (.int i)
  | nil {a : Addr} : H a = some (.tup []) → IsN H (.tup []) (.ref a)
  | tup {a : Addr} {ks : List NestedKey} {vs : List V} : H a = some (.tup vs) → ks.length = vs.length → (∀ (i : Nat) k v, ks[i]? = some k → vs[i]? = some v → IsN H k v) → IsN H (.tup ks) (.ref a)
theorem IsN.ext {H H' : Hp} (ht : ∀ b ys, H b = some (.tup ys) → H' b = some (.tup ys)) {k : NestedKey} {v : V} (x : IsN H k v) : IsN H' k v := by
  induction x with
  | num i => exact .num i
  | nil e => exact .nil (ht _ _ e)
  | tup e l _ ih => exact .tup (ht _ _ e) l ih
theorem nestedAll_of {h : Heap} : ∀ {ks : List NestedKey} {us : List Value}, ks.length = us.length → (∀ (i : Nat) k u, ks[i]? = some k → us[i]? = some u → NestedIs h k u) → NestedAll h ks us
  | [], [], _, _ => .nil
  | k :: ks, u :: us, l, f => .cons (f 0 k u rfl rfl) (nestedAll_of (by simpa using l) fun i k u a b => f (i + 1) k u a b)
theorem vals_get : ∀ {xs : List V} {us : List Value}, Vals xs us → xs.length = us.length ∧ ∀ (i : Nat) v u, xs[i]? = some v → us[i]? = some u → RelV v u
  | [], _, .nil => ⟨rfl, fun i v u a => by simp at a⟩
  | x :: xs, _, .cons r t => by
    obtain ⟨l, f⟩ := vals_get t
    refine ⟨by simp [l], fun i v u a b => ?_⟩
    cases i with
    | zero => simp at a b; subst a b; exact r
    | succ i => exact f i v u (by simpa using a) (by simpa using b)
section
variable {P : Program} {w : World} {H : Hp} {h : Heap} {a : Addr}
theorem IsN.is (ok : HOk P w H h) {k : NestedKey} {v : V} (x : IsN H k v) : ∀ u, RelV v u → NestedIs h k u := by
  induction x with
  | num i =>
    intro u r
    obtain ⟨t, e⟩ := (show ∃ t, u = Value.int i t from r)
    subst e
    exact .int i t
  | @nil a e =>
    intro u r
    cases (show u = Value.ref a from r)
    obtain ⟨_, its, r, o, h1, h2, n, h3⟩ := (show ObjOk P w H h a (.tup []) from ok a _ e)
    cases r
    exact .tup h1 h2 h3 (by simpa using NestedAll.nil)
  | @tup a ks vs e l hk ih =>
    intro u r
    cases (show u = Value.ref a from r)
    obtain ⟨_, its, r, o, h1, h2, n, h3⟩ := (show ObjOk P w H h a (.tup vs) from ok a _ e)
    refine .tup h1 h2 h3 ?_
    obtain ⟨l2, f⟩ := vals_get r
    refine nestedAll_of (by simpa using l.trans l2) fun i k u hk' hu' => ?_
    have hu'' : its[i]? = some u := by simpa using hu'
    have lt : i < vs.length := by
      have := (List.getElem?_eq_some_iff.mp hu'').1
      omega
    exact ih i k _ hk' (List.getElem?_eq_getElem lt) u (f i _ u (List.getElem?_eq_getElem lt) hu'')
/-- a key of its own right: a tuple, at most 8 deep, of whole numbers alone -/
structure KeyN (H : Hp) (k : NestedKey) (b : Addr) : Prop where
  is : IsN H k (.ref b)
  only : onlyN k = true
  deep : k.depth ≤ 8
theorem KeyN.ext {H H' : Hp} (ht : ∀ b ys, H b = some (.tup ys) → H' b = some (.tup ys)) {k : NestedKey} {b : Addr} (x : KeyN H k b) : KeyN H' k b := ⟨x.is.ext ht, x.only, x.deep⟩
end
end L2
namespace L2.DL
open PySem PySem.Spec PyProof.Rows
inductive K3 where
  | kept (d : D)
  | own (d : D)
  | res (r : Nat) (a : Addr) (as : List Addr) (φ : Bz → (Addr → Prop) → Hp → Prop)
inductive K3L (z : Bz) (M : MS) (H : Hp) : List V → List K3 → Prop
  | nil : K3L z M H [] []
  | kept {v : V} {vs : List V} {d : D} {ks : List K3} : Rp z M H v d → K3L z M H vs ks → K3L z M H (v :: vs) (.kept d :: ks)
  | own {a : Addr} {vs : List V} {d : D} {ks : List K3} : Ow z M H a d → K3L z M H vs ks → K3L z M H (.ref a :: vs) (.own d :: ks)
  | res {r : Nat} {a : Addr} {as : List Addr} {φ : Bz → (Addr → Prop) → Hp → Prop} {vs : List V} {ks : List K3} : RsOk (a :: as) φ → φ z M H → K3L z M H vs ks → K3L z M H (.ref a :: vs) (.res r a as φ :: ks)
def new3 : List V → List K3 → List Addr
  | _ :: vs, .kept _ :: ks => new3 vs ks
  | .ref a :: vs, .own _ :: ks => a :: new3 vs ks
  | _ :: vs, .res _ a as _ :: ks => (a :: as) ++ new3 vs ks
  | _, _ => []
theorem new3_kept (v : V) (vs : List V) (d : D) (ks : List K3) : new3 (v :: vs) (.kept d :: ks) = new3 vs ks := by cases v <;> rfl
theorem new3_res (v : V) (vs : List V) {r a as φ} (ks : List K3) : new3 (v :: vs) (.res r a as φ :: ks) = (a :: as) ++ new3 vs ks := by cases v <;> rfl
theorem K3L.tr {z : Bz} {M M' : MS} {H H' : Hp} (t : Tr M H M' H') : ∀ {vs : List V} {ks : List K3}, K3L z M H vs ks → (∀ a ∈ new3 vs ks, ∀ o, H a = some o → H' a = some o) → K3L z M' H' vs ks
  | _, _, .nil, _ => .nil
  | _, _, .kept r l, h => .kept (r.tr t) (l.tr t (by rw [new3_kept] at h; exact h))
  | _, _, .own o l, h => .own (o.tr t (h _ (by simp [new3]))) (l.tr t fun a ha => h a (by simp [new3, ha]))
  | _, _, .res k q l, h => .res k (k _ _ _ _ _ q t fun a ha => h a (by rw [new3_res]; exact List.mem_append_left _ ha)) (l.tr t fun a ha => h a (by rw [new3_res]; exact List.mem_append_right _ ha))
abbrev TD3 := SS → (List K3 → Prop) → Prop
def l3 (t : TD3) : TA := fun σ H Q => ∃ (g : Gh) (Qd : List K3 → Prop), Stt g σ H ∧ t g.S Qd ∧ ∀ ks vs H', Qd ks → Ext g.z H H' → Stt (apD g (new3 vs ks)) σ H' → (new3 vs ks).Nodup → (∀ a ∈ new3 vs ks, H a = none) → K3L g.z (apD g (new3 vs ks)).M H' vs ks → Q vs H'
theorem K3L.length {z : Bz} {M : MS} {H : Hp} : ∀ {vs : List V} {ks : List K3}, K3L z M H vs ks → vs.length = ks.length
  | _, _, .nil => rfl
  | _, _, .kept _ l => by simp [l.length]
  | _, _, .own _ l => by simp [l.length]
  | _, _, .res _ _ l => by simp [l.length]
end L2.DL
namespace L2.DL
open PySem PySem.Spec PyProof.Rows
end L2.DL
namespace L2.DL
open PySem PySem.Spec PyProof.Rows
end L2.DL
namespace L2.DL
open PySem PySem.Spec PyProof.Rows
end L2.DL
namespace L2.DL
open PySem PySem.Spec PyProof.Rows
theorem rpl_frg {z : Bz} {M : MS} {H : Hp} : ∀ {as : List Addr} {ds : List D}, as.length = ds.length → (∀ (i : Nat) (a : Addr) (d : D), as[i]? = some a → ds[i]? = some d → Rp z M H (.ref a) d) → RpL z M H (as.map .ref) ds
  | [], [], _, _ => .nil
  | a :: as, d :: ds, hl, h => .cons (h 0 a d rfl rfl) (rpl_frg (by simpa using hl) fun i a' d' h1 h2 => h (i + 1) a' d' (by simpa using h1) (by simpa using h2))
theorem FrG.rp {z : Bz} {M : MS} {H0 H : Hp} {p : Addr} {as : List Addr} {ds : List D} (f : FrG z M H0 H p as ds) : Rp z M H (.ref p) (.tup ds) :=
  .tup f.at_ (f.fr p (by simp)).2 (rpl_frg f.len fun i a d h1 h2 => (f.ow i a d h1 h2).rp (Tr.of fun b u n e => ⟨e, fun h => n (.inl h)⟩) (f.fr a (List.mem_cons_of_mem _ (List.mem_of_getElem? h1))).2)
end L2.DL
namespace L2.DL
open PySem PySem.Spec PyProof.Rows
end L2.DL
namespace L2.DL
open PySem PySem.Spec PyProof.Rows
end L2.DL
namespace L2.DL
open PySem PySem.Spec PyProof.Rows
end L2.DL
namespace L2.DL
open PySem PySem.Spec PyProof.Rows
end L2.DL
namespace L2.DL
open PySem PySem.Spec PyProof.Rows
end L2.DL
namespace L2.DL
open PySem PySem.Spec PyProof.Rows
section
variable {P : Program} {w : World} {A : Around} {E : Value → Shared → Prop} {s : Shared}
theorem wp_ret {M : Model} {α β : Type} {u : α} {f : α → Sem β} {Q : β → Shared → Prop} (q : wpAny M A (f u) Q E s) : wpAny M A (pure u >>= f) Q E s := wpAny_bind (wpAny_pure q)
/-- the c-th step of the way of a hash -/
abbrev stp (m : Nat) (g : Int) (c : Nat) : SetTable.Probe := nth m (runAt m (SetTable.bits g % (m + 1)) (SetTable.bits g)) c
theorem nth_dum (m : Nat) : ∀ (c : Nat) (p : SetTable.Probe), p.dummy = none → (nth m p c).dummy = none
  | 0, _, e => e
  | c + 1, p, e => nth_dum m c (adv m p) (by unfold adv; split <;> exact e)
/-- the set at a holds the tuples of L, in a table that has room -/
structure TAny (P : Program) (w : World) (g : Heap) (a : Addr) (L : List (Addr × List Int)) (es : Array (Int × Value)) (ep : Nat) (t : SetTable) : Prop where
  obj : ∃ o, g.get? a = some o ∧ o.ExactSet ∧ o.data = .set es ep t
  ent : es.toList = rowsOf P w L
  tb : TabOk t (L.map fun p => thash P w p.2)
  dif : (L.map fun p => p.2).Nodup
  each : ∀ p ∈ L, IsT P w g p.2 p.1
  cal : t.plain = true
  ld : w.params.followText "set-order" = true ∨ t.led = true
  gap : L.length ≤ t.mask
variable {a : Addr} {L : List (Addr × List Int)} {es : Array (Int × Value)} {ep : Nat} {t : SetTable} {g : Heap}
theorem rows_len {es : Array (Int × Value)} (e : es.toList = rowsOf P w L) : es.size = L.length := by
  have l := congrArg List.length e
  simpa [rowsOf] using l
theorem TAny.len (R : TAny P w g a L es ep t) : es.size = L.length := rows_len R.ent
theorem fits_of (d : t.dummies = #[]) (z : t.place.size = es.size) (l : es.size ≤ t.mask) : t.fits es.size = true := by
  simp only [SetTable.fits, SetTable.fill, d, Bool.and_eq_true, beq_iff_eq, decide_eq_true_eq]
  exact ⟨z, by show t.place.size + 0 ≤ t.mask; omega⟩
theorem TAny.places (R : TAny P w g a L es ep t) : t.place.size = L.length := by
  have l := R.tb.sz
  rwa [List.length_map] at l
theorem TAny.fit (R : TAny P w g a L es ep t) : t.fits es.size = true := by
  have l := R.len
  have z := R.places
  have q := R.gap
  exact fits_of R.tb.dm (by omega) (by omega)
theorem TAny.row (R : TAny P w g a L es ep t) {i : Nat} {p : Addr × List Int} (e : L[i]? = some p) : es[i]? = some (thash P w p.2, Value.ref p.1) := by
  rw [← Array.getElem?_toList, R.ent]
  simp [rowsOf, e]
theorem TAny.wp_state {Q : Array (Int × Value) × Nat × SetTable → Shared → Prop} (R : TAny P w s.heap a L es ep t) (q : Q (es, ep, t) s) : wpAny (model P w) A (setState a) Q E s := by
  obtain ⟨o, ho, _, hd⟩ := R.obj
  exact wpAny_setState_of ho hd R.fit q
theorem TAny.odd (R : TAny P w g a L es ep t) : ¬ t.gaveWay = true := by
  unfold SetTable.gaveWay
  rw [mask_odd R.tb.mok]
  decide
/-- who sits at a place has a number -/
theorem TAny.sits (R : TAny P w g a L es ep t) {i j : Nat} (e : t.place.toList[i]? = some j) : ∃ p, L[i]? = some p ∧ p ∈ L := by
  have l : i < L.length := by
    have := (List.getElem?_eq_some_iff.mp e).1
    rw [Array.length_toList, R.places] at this
    exact this
  exact ⟨L[i], List.getElem?_eq_getElem l, List.getElem_mem l⟩
theorem TAny.alone (R : TAny P w g a L es ep t) {i i' j : Nat} (e : t.place.toList[i]? = some j) (e' : t.place.toList[i']? = some j) : i = i' := by
  have q := (slot_live R.tb.ris e).symm.trans (slot_live R.tb.ris e')
  injection q
/-- one question to the table, at the c-th step of the way of k -/
theorem TAny.probe (R : TAny P w g a L es ep t) {k : List Int} {K c : Nat} (bK : K < 10 * SetTable.turns t.mask) (eK : way t.mask (thash P w k) K ∉ t.place.toList) (fK : ∀ r, r < K → way t.mask (thash P w k) r ∈ t.place.toList) (hc : c ≤ K) :
    (∃ (r i : Nat) (p : Addr × List Int), c ≤ r ∧ r < K ∧ L[i]? = some p ∧ p ∈ L ∧ t.place.toList[i]? = some (way t.mask (thash P w k) r) ∧ (∀ (r' i' : Nat) (p' : Addr × List Int), c ≤ r' → r' < r → t.place.toList[i']? = some (way t.mask (thash P w k) r') → L[i']? = some p' → p'.2 ≠ k) ∧
      t.probe (fun i => (es[i]?.map (·.1)).getD 0) (thash P w k) (stp t.mask (thash P w k) c) = some (.candidate (way t.mask (thash P w k) r) i (stp t.mask (thash P w k) (r + 1)))) ∨
    ((∀ (r' i' : Nat) (p' : Addr × List Int), c ≤ r' → r' < K → t.place.toList[i']? = some (way t.mask (thash P w k) r') → L[i']? = some p' → p'.2 ≠ k) ∧
      t.probe (fun i => (es[i]?.map (·.1)).getD 0) (thash P w k) (stp t.mask (thash P w k) c) = some (.empty (way t.mask (thash P w k) K) none)) := by
  have mv : ∀ r : Nat, nth t.mask (stp t.mask (thash P w k) c) r = stp t.mask (thash P w k) (c + r) := fun r => (nth_add t.mask c _ r).symm
  have hs : ∀ (i : Nat) (p : Addr × List Int), L[i]? = some p → (es[i]?.map (·.1)).getD 0 = thash P w p.2 := fun i p e => by rw [R.row e]; rfl
  have keys : ∀ {i' : Nat} {p' : Addr × List Int}, L[i']? = some p' → (es[i']?.map (·.1)).getD 0 ≠ thash P w k → p'.2 ≠ k := fun e ne z => ne (by rw [hs _ _ e, z])
  rcases go_spec t R.tb.ris R.tb.dm (fun i => (es[i]?.map (·.1)).getD 0) (thash P w k) (10 * SetTable.turns t.mask) (K - c) (stp t.mask (thash P w k) c) (nth_dum _ _ _ rfl) (by omega) (fun r hr => by rw [mv]; exact fK _ (by omega))
    (by rw [mv, Nat.add_sub_cancel' hc]; exact eK) with ⟨q, i, hq, hi, _, no, e⟩ | ⟨no, e⟩
  · rw [mv] at hi
    obtain ⟨p, hp, pm⟩ := R.sits hi
    refine .inl ⟨c + q, i, p, Nat.le_add_right _ _, by omega, hp, pm, hi, fun r' i' p' h1 h2 h3 h4 => keys h4 (no (r' - c) i' (by omega) ?_), ?_⟩
    · rw [mv, Nat.add_sub_cancel' h1]
      exact h3
    · refine e.trans ?_
      rw [mv, mv]
      rfl
  · refine .inr ⟨fun r' i' p' h1 h2 h3 h4 => keys h4 (no (r' - c) i' (by omega) ?_), ?_⟩
    · rw [mv, Nat.add_sub_cancel' h1]
      exact h3
    · refine e.trans ?_
      rw [mv, Nat.add_sub_cancel' hc]
/-- the look for k, from the c-th step of its way on -/
theorem TAny.look (R : TAny P w s.heap a L es ep t) {x : Addr} {k : List Int} (kx : IsT P w s.heap k x) (hu : A.units < cLine) {K : Nat} (bK : K < 10 * SetTable.turns t.mask) (eK : way t.mask (thash P w k) K ∉ t.place.toList)
    (fK : ∀ r, r < K → way t.mask (thash P w k) r ∈ t.place.toList) {Q : SetFound → Shared → Prop} (yes : k ∈ L.map (fun p => p.2) → Q (.there none) s) (no : k ∉ L.map (fun p => p.2) → Q (.free (way t.mask (thash P w k) K) false) s) :
    ∀ (n c : Nat) (o : Option SetTable.Probe), o.getD (t.probeStart (thash P w k)) = stp t.mask (thash P w k) c → c ≤ K → K - c < n →
      (∀ (r i : Nat) (p : Addr × List Int), r < c → t.place.toList[i]? = some (way t.mask (thash P w k) r) → L[i]? = some p → p.2 ≠ k) → wpAny (model P w) A (setSearchFrom a (.ref x) (thash P w k) true n o) Q E s := by
  intro n
  induction n with
  | zero => intro c o _ _ z; omega
  | succ n ih =>
    intro c o eo hc hn past
    rw [setSearchFrom_succ]
    refine wpAny_bind (R.wp_state ?_)
    refine wp_if_neg R.odd ?_
    try refine wp_ret ?_
    rw [eo]
    rcases R.probe bK eK fK hc with ⟨r, i, p, hr, hK, hp, pm, hi, late, e⟩ | ⟨late, e⟩
    · rw [e]
      have tail : wpAny (model P w) A (searchRest a (.ref x) (thash P w k) true n es t (way t.mask (thash P w k) r) i (stp t.mask (thash P w k) (r + 1))) Q E s := by
        unfold searchRest
        rw [R.row hp]
        refine wpAny_bind (wpAny_holding (wpAny_eqBool_tuple hu (R.each p pm) kx (wpAny_bind (R.wp_state ?_))))
        dsimp only
        by_cases same : p.2 = k
        · exact wp_if_pos (by simp [same]) (wpAny_pure (yes (List.mem_map.mpr ⟨p, pm, same⟩)))
        · refine wp_if_neg (by simp [same]) ?_
          try refine wp_ret ?_
          rw [sameMem]
          simp only [if_true, slot_live R.tb.ris hi, R.row hp]
          refine wpAny_bind (wpAny_isSame_ref_self (wp_ret ?_))
          simp only [if_true]
          refine wp_if_neg (by simp [same]) (ih (r + 1) _ rfl (by omega) (by omega) fun r' i' p' h1 h2 h3 => ?_)
          by_cases f1 : r' < c
          · exact past r' i' p' f1 h2 h3
          · by_cases f2 : r' < r
            · exact late r' i' p' (by omega) f2 h2 h3
            · obtain rfl : r' = r := by omega
              obtain rfl := R.alone h2 hi
              obtain rfl : p' = p := Option.some.inj (h3.symm.trans hp)
              exact same
      dsimp only
      by_cases l : t.led = true
      · refine wp_if_neg (by simp [l]) ?_
        try refine wp_ret ?_
        exact tail
      · refine wp_if_pos (by simp [l]) ?_
        refine wpAny_bind (seen_tup kx (fun y hy => ?_) ?_)
        · obtain ⟨u, hu', rfl⟩ := List.mem_map.mp hy
          have um : u ∈ es.toList := by simp at hu'; simpa using hu'.1
          rw [R.ent] at um
          obtain ⟨p, pm, rfl⟩ := List.mem_map.mp um
          exact ⟨p.2, p.1, rfl, R.each p pm⟩
        · refine wp_if_neg (by decide) ?_
          try refine wp_ret ?_
          exact tail
    · rw [e]
      refine wpAny_pure (no fun m => ?_)
      obtain ⟨p, pm, pk⟩ := List.mem_map.mp m
      obtain ⟨i, li, rfl⟩ := List.getElem_of_mem pm
      have lj : i < t.place.toList.length := by rw [Array.length_toList, R.places]; exact li
      have hp := List.getElem?_eq_getElem li
      have hh : (L.map fun p => thash P w p.2)[i]? = some (thash P w k) := by rw [List.getElem?_map, hp, ← pk]; rfl
      have hj := List.getElem?_eq_getElem lj
      obtain ⟨r, hr, er⟩ := R.tb.before eK hh hj
      rw [← er] at hj
      by_cases f : r < c
      · exact past r i _ f hj hp pk
      · exact late r i _ (by omega) hr hj hp pk
theorem TAny.seek (R : TAny P w s.heap a L es ep t) {x : Addr} {k : List Int} (kx : IsT P w s.heap k x) (hu : A.units < cLine) {Q : SetFound → Shared → Prop} (yes : k ∈ L.map (fun p => p.2) → Q (.there none) s)
    (no : ∀ K, k ∉ L.map (fun p => p.2) → way t.mask (thash P w k) K ∉ t.place.toList → (∀ r, r < K → way t.mask (thash P w k) r ∈ t.place.toList) → Q (.free (way t.mask (thash P w k) K) false) s) :
    wpAny (model P w) A (setSearch a (.ref x) (thash P w k) true) Q E s := by
  have gp := R.gap
  obtain ⟨K, bK, eK, fK⟩ := R.tb.first (by rw [List.length_map]; omega) (thash P w k)
  have few : K < 100000 := by
    have : SetTable.turns t.mask ≤ 142 := by
      unfold SetTable.turns
      rcases R.tb.mok with m | m | m <;> rw [m] <;> decide
    omega
  exact R.look kx hu bK eK fK yes (fun z => no K z eK fK) 100000 0 none rfl (Nat.zero_le K) (by omega) fun r _ _ h _ _ => absurd h (Nat.not_lt_zero r)
/-- a table that is not yet to be laid anew -/
structure TSet (P : Program) (w : World) (g : Heap) (a : Addr) (L : List (Addr × List Int)) (es : Array (Int × Value)) (ep : Nat) (t : SetTable) : Prop where
  any : TAny P w g a L es ep t
  thin : L.length * 5 < t.mask * 3
theorem wp_store {o : Obj} {es' : Array (Int × Value)} {t' : SetTable} {Q : Unit → Shared → Prop} (ho : s.heap.get? a = some o) (hx : o.ExactSet) (hd : o.data = .set es ep t) (z : es'.size ≤ 1000)
    (q : ∀ g' : Heap, Heap.SameBut a s.heap g' → (∃ o', g'.get? a = some o' ∧ o'.ExactSet ∧ o'.data = .set es' (ep + 1) t') → Q () { s with heap := g' }) : wpAny (model P w) A (storeSet a es' t') Q E s :=
  wpAny_storeSet_of ho hd (q _ (Heap.SameBut.update ..) ⟨_, store_at ho hd, ⟨hx.1, hx.2.1, hx.2.2⟩, rfl⟩) (by rw [sizeLine_eq]; omega)
theorem TAny.kept {g' : Heap} (R : TAny P w g a L es ep t) (b : Heap.SameBut a g g') : ∀ {k : List Int} {x : Addr}, IsT P w g k x → IsT P w g' k x := fun kx =>
  let ⟨_, ho, _, hd⟩ := R.obj
  isT_same kx ho hd b
theorem TAny.relay (R : TAny P w s.heap a L es ep t) {m M : Nat} (e : SetTable.sizeAbove m - 1 = M) (ok : MaskOk M) (top : SetTable.sizeAbove m ≤ 128) (thin : L.length * 5 < M * 3) {Q : Unit → Shared → Prop}
    (q : ∀ g' L' es' ep' t', Heap.SameBut a s.heap g' → TSet P w g' a L' es' ep' t' → L'.Perm L → Q () { s with heap := g' }) : wpAny (model P w) A (setRelay a m) Q E s := by
  have M127 : M ≤ 127 := by omega
  have len := R.len
  obtain ⟨t', ord, e1, e2, e3, e4, e5, e6, _⟩ := relaid_ok t (hs := es.map (·.1)) e ok (by rw [Array.size_map]; omega)
  rw [Array.size_map, len] at e2
  obtain ⟨L', r1, r2, r3⟩ := order_rows L es ord R.ent e2
  rw [← r3] at e3
  have len' : (ord.filterMap (es[·]?)).size = es.size := by rw [rows_len r1, r2.length_eq, len]
  rw [setRelay_eq]
  refine wpAny_bind (R.wp_state ?_)
  refine wp_if_neg (show ¬ SetTable.sizeAbove m > sizeLine by rw [sizeLine_eq]; omega) ?_
  try refine wp_ret ?_
  rw [e1]
  refine wpAny_bind ?_
  refine wp_if_neg (show ¬ ((ord.filterMap (es[·]?)).size != es.size) = true by simp [len']) ?_
  try refine wp_ret ?_
  refine wpAny_pure ?_
  obtain ⟨o, ho, hx, hd⟩ := R.obj
  refine wp_store ho hx hd (by rw [len']; omega) fun g' sb ob => q g' L' _ _ t' sb ⟨⟨ob, r1, e3, (r2.map fun p => p.2).nodup_iff.mpr R.dif, fun p pm => R.kept sb (R.each p (r2.mem_iff.mp pm)), e6.trans R.cal, R.ld.imp id (e5.trans ·), ?_⟩, ?_⟩ r2
  · rw [r2.length_eq, e4]; omega
  · rw [r2.length_eq, e4]; exact thin
theorem grow5 {n : Nat} (h : n = 5) : SetTable.sizeAbove (SetTable.grown n) - 1 = 31 ∧ SetTable.sizeAbove (SetTable.grown n) ≤ 128 := by subst h; rw [size_20]; decide
theorem grow19 {n : Nat} (h : n = 19) : SetTable.sizeAbove (SetTable.grown n) - 1 = 127 ∧ SetTable.sizeAbove (SetTable.grown n) ≤ 128 := by subst h; rw [size_76]; decide
/-- one more -/
theorem TSet.more (R : TSet P w s.heap a L es ep t) {x : Addr} {k : List Int} (kx : IsT P w s.heap k x) (hu : A.units < cLine) (top : L.length < 76) {Q : Bool → Shared → Prop}
    (q : ∀ b g' L' es' ep' t', Heap.SameBut a s.heap g' → TSet P w g' a L' es' ep' t' → (k ∈ L.map (fun p => p.2) → L' = L) → (k ∉ L.map (fun p => p.2) → L'.Perm ((x, k) :: L)) → Q b { s with heap := g' }) :
    wpAny (model P w) A (setAddHashed a (.ref x) (thash P w k)) Q E s := by
  have len := R.any.len
  have thin := R.thin
  unfold setAddHashed
  refine wpAny_holding ?_
  rw [show (100000 : Nat) = 99999 + 1 from rfl, setAddHashedIn_succ]
  refine wpAny_bind (R.any.wp_state ?_)
  refine wp_if_neg (show ¬ byScan (Value.ref x) es = true by simp [byScan, Value.scannable]) ?_
  try refine wp_ret ?_
  refine wpAny_bind (R.any.seek kx hu (fun m => ?_) fun K new eK fK => ?_)
  · exact wpAny_pure (q false s.heap L es ep t (.refl a s.heap) R (fun _ => rfl) fun n => absurd m n)
  · refine wpAny_bind (R.any.wp_state ?_)
    obtain ⟨p1, p2, p3, p4, p5, p6, _, _, p9⟩ := R.any.tb.put eK fK
    dsimp only
    revert p1 p2 p3 p4 p5 p6 p9
    generalize t.put (way t.mask (thash P w k) K) = pr
    generalize SetTable.below t.place (way t.mask (thash P w k) K) = at_
    obtain ⟨t1, n1⟩ := pr
    intro p1 p2 p3 p4 p5 p6 p9
    dsimp only at p1 p3 p4 p5 p6 p9 ⊢
    subst p1
    have rows : (SetTable.insertAt es n1 (thash P w k, Value.ref x)).toList = rowsOf P w (L.take n1 ++ (x, k) :: L.drop n1) := by rw [SetTable.toList_insertAt, R.any.ent, rows_put]
    have pm := put_perm L n1 (x, k)
    rw [show (L.map fun p => thash P w p.2).take n1 ++ thash P w k :: (L.map fun p => thash P w p.2).drop n1 = (L.take n1 ++ (x, k) :: L.drop n1).map fun p => thash P w p.2 by simp] at p3
    revert rows pm p3
    generalize SetTable.insertAt es n1 (thash P w k, Value.ref x) = es1
    generalize L.take n1 ++ (x, k) :: L.drop n1 = L1
    intro p3 rows pm
    have l1 : L1.length = L.length + 1 := pm.length_eq
    have e1 : es1.size = L.length + 1 := (rows_len rows).trans l1
    have store : ∀ Q : Unit → Shared → Prop, (∀ g', Heap.SameBut a s.heap g' → TAny P w g' a L1 es1 (ep + 1) t1 → Q () { s with heap := g' }) → wpAny (model P w) A (storeSet a es1 t1) Q E s := fun Q q => by
      obtain ⟨o, ho, hx, hd⟩ := R.any.obj
      refine wp_store ho hx hd (by omega) fun g' sb ob => q g' sb ⟨ob, rows, p3, (pm.map fun p => p.2).nodup_iff.mpr (List.nodup_cons.mpr ⟨new, R.any.dif⟩), fun p hp => ?_, p6.trans R.any.cal, R.any.ld.imp id (p5.trans ·), by rw [p4]; omega⟩
      rcases List.mem_cons.mp (pm.mem_iff.mp hp) with rfl | hp
      · exact R.any.kept sb kx
      · exact R.any.kept sb (R.any.each p hp)
    have pl : t1.plain = true := p6.trans R.any.cal
    have full : t1.tooFull = decide ((L.length + 1) * 5 ≥ t.mask * 3) := by
      unfold SetTable.tooFull
      rw [p9, p4, List.length_map]
    first
      | (refine wpAny_bind ?_; refine wp_if_pos pl (hashBy_tup kx ?_))
      | refine wp_if_pos pl (wpAny_bind (hashBy_tup kx ?_))
    simp only [if_true]
    refine wpAny_bind (store _ fun g' sb R1 => ?_)
    have done : ∀ {g2 L2 es2 ep2 t2}, Heap.SameBut a g' g2 → TSet P w g2 a L2 es2 ep2 t2 → L2.Perm L1 → Q true { s with heap := g2 } := fun b r m => q true _ _ _ _ _ (sb.trans b) r (fun z => absurd z new) fun _ => m.trans pm
    by_cases f : (L.length + 1) * 5 ≥ t.mask * 3
    · have two : (L.length + 1 = 5 ∧ t.mask = 7) ∨ (L.length + 1 = 19 ∧ t.mask = 31) := by
        rcases R.any.tb.mok with e | e | e <;> omega
      have go : wpAny (model P w) A (setRelay a (SetTable.grown (L.length + 1))) (fun _ s' => Q true s') E { s with heap := g' } := by
        rcases two with ⟨e, _⟩ | ⟨e, _⟩
        · exact R1.relay (s := { s with heap := g' }) (grow5 e).1 (.inr (.inl rfl)) (grow5 e).2 (by omega) fun _ _ _ _ _ b r m => done b r m
        · exact R1.relay (s := { s with heap := g' }) (grow19 e).1 (.inr (.inr rfl)) (grow19 e).2 (by omega) fun _ _ _ _ _ b r m => done b r m
      rw [len]
      refine wp_if_pos (by simp [full, f]) ?_
      exact wpAny_bind (wpAny_mono go (fun _ _ z => wpAny_pure z) fun _ _ z => z)
    · refine wp_if_neg (by simp [full]; omega) ?_
      try refine wp_ret ?_
      exact wpAny_pure (done (.refl a g') ⟨R1, by rw [l1, p4]; omega⟩ (.refl _))
end
end L2.DL
namespace L2.DL
open PySem PySem.Spec PyProof.Rows
section
variable {P : Program} {w : World} {A : Around} {E : Value → Shared → Prop} {s : Shared} {a : Addr} {L : List (Addr × List Int)} {es : Array (Int × Value)} {ep : Nat} {t : SetTable} {g : Heap}
/-- what the set holds behind the first i things -/
structure Part (ks : List (Addr × List Int)) (i : Nat) (L : List (Addr × List Int)) : Prop where
  sub : ∀ p ∈ L, p ∈ ks
  all : ∀ p ∈ ks.take i, p.2 ∈ L.map fun p => p.2
  few : L.length ≤ i
theorem TSet.of (R : SetTR P w g a L es ep t) : TSet P w g a L es ep t :=
  ⟨⟨R.ob, R.rows, R.tab, R.nd, R.tup, R.plain, R.led, by have := R.room; omega⟩, R.room⟩
/-- the set at b, its tuples left aside -/
def TSet0 (P : Program) (w : World) (g : Heap) (b : Addr) (L : List (Addr × List Int)) : Prop := ∃ (es : Array (Int × Value)) (ep : Nat) (t : SetTable), (∃ o, g.get? b = some o ∧ o.ExactSet ∧ o.data = .set es ep t) ∧ es.toList = rowsOf P w L ∧
  TabOk t (L.map fun p => thash P w p.2) ∧ (L.map fun p => p.2).Nodup ∧ t.plain = true ∧ (w.params.followText "set-order" = true ∨ t.led = true) ∧ L.length * 5 < t.mask * 3
theorem TSet0.full (R : TSet0 P w g a L) (ht : ∀ p ∈ L, IsT P w g p.2 p.1) : ∃ es ep t, TSet P w g a L es ep t := by
  obtain ⟨es, ep, t, h1, h2, h3, h4, h5, h6, h7⟩ := R
  exact ⟨es, ep, t, ⟨h1, h2, h3, h4, ht, h5, h6, by omega⟩, h7⟩
end
end L2.DL
namespace L2.DL
open PySem PySem.Spec PyProof.Rows
end L2.DL
namespace L2.DL
open PySem PySem.Spec PyProof.Rows
end L2.DL
namespace L2
open PySem PySem.Spec PyProof.Rows
end L2
namespace L2.DL
open PySem PySem.Spec PyProof.Rows
end L2.DL
namespace L2.DL
open PySem PySem.Spec PyProof.Rows
end L2.DL
namespace L2.DL
open PySem PySem.Spec PyProof.Rows
end L2.DL
namespace L2.DL
open PySem PySem.Spec PyProof.Rows
end L2.DL
namespace L2.DL
open PySem PySem.Spec PyProof.Rows
end L2.DL
namespace L2.DL
open PySem PySem.Spec PyProof.Rows
section
variable {X : Cx} {e o : Expr} {es : List Expr} {te to : TDE} {ts : TDA} {C f : Addr} {x m : Str} {pos p apos : Pos} {n k kf j r : Nat} {fd : FuncData} {ps : List Str} {tf : TDF} {dvs : List V} {dds : List D}
def endR (a : Addr) : Bz → (Addr → Prop) → Hp → Prop := fun _ _ H => ∃ vs, H a = some (.lst vs)
end
end L2.DL
namespace L2.DL
open PySem PySem.Spec PyProof.Rows
structure SupScope (N P : List Str) (sc : Scope) : Prop where
  kind : sc.kind = .function
  co : sc.isCoroutine = false
  gen : sc.isGenerator = false
  nd : N.Nodup
  pre : N.take P.length = P
  par : ∀ x ∈ P, sc.names.lookup x = some .local
  noc : ∀ y ∈ sc.names, y.2 ≠ .cell
  fre : ∀ y ∈ sc.names, y.2 = .free → y.1 = "__class__"
  cl : sc.names.lookup ("__class__" : Str) = some .free
  su : sc.names.lookup ("super" : Str) = some .globalImplicit
/-- such a def: its class D stands in the cell cc -/
structure FunS (K : PySem.W.Frag) (P : Program) (x qual : Str) (params : Arguments) (body : List Stmt) (scope : Scope) (f : Addr) (fd : FuncData) (D cc cda : Addr) : Prop where
  ex : ∃ (oc : Value) (od : Option Addr) (kV doc pm : Value) (an : Option Addr) (ct : Value) (osl : Array (Option Value)) (ccl : Value) (cdd : Option Addr) (vs : Array Value) (ccs : Array (Option Value)) (file : Str) (tf : Tok),
    fd = PySem.W.ksFn x qual params body scope .none kV doc pm an (.ref cda) ct cc ∧ K.lookup f = some ⟨oc, od, .func fd, osl⟩ ∧ PySem.W.codeIn K (.ref cda) qual = true ∧
    K.lookup cda = some ⟨ccl, cdd, .fields vs, ccs⟩ ∧ vs[2]? = some (.str file tf) ∧ ((P.main.file : Str) == file) = true
  cell : ∃ (cl : Value) (cld : Option Addr) (csl : Array (Option Value)), K.lookup cc = some ⟨cl, cld, .cell (some (.ref D)), csl⟩
  cls : ∃ cdD, PySem.W.clsIn K D = some cdD
  top : (P.main.scope.names.lookup ("super" : Str)).isSome = false
/-- what super().m is for an instance of the class C -/
structure SupTo (K : PySem.W.Frag) (C D : Addr) (m : Str) (g : Addr) : Prop where
  sub : PySem.W.mroIn K C (.ref D) = some true
  at_ : PySem.W.ks_superIn K C D m = some (some (.ref g))
  ty : PySem.W.typeIn K (.ref g) = some (.type "function")
  any : PySem.W.nsIn K cStatics "thirdparty.any" = some none
  fi : PySem.W.fnIn K g = true
  nc : (m == ("__class__" : Str)) = false
theorem FunS.bindsN {K : PySem.W.Frag} {P : Program} {x qual : Str} {params : Arguments} {body : List Stmt} {scope : Scope} {f D cc cda : Addr} {fd : FuncData} {ps : List Str} (F : FunS K P x qual params body scope f fd D cc cda)
    (h : ∀ (kV doc pm : Value) (an : Option Addr) (ct : Value) (us : List Value), us.length = ps.length → bindArgs (PySem.W.ksFn x qual params body scope .none kV doc pm an (.ref cda) ct cc) ⟨us, []⟩ = pure (ps.zip us)) : Binds K fd ps [] := by
  obtain ⟨_, _, kV, doc, pm, an, ct, _, _, _, _, _, _, _, rfl, _⟩ := F.ex
  exact .all (h kV doc pm an ct)
abbrev envS (qual : Str) (scope : Scope) (L f cda cc : Addr) : Env := PySem.W.ksEnv qual scope L f (.ref cda) cc
def cxS (CX : CXT) (P : Program) (w : World) (K : PySem.W.Frag) (mg : Str → Option Value) (base : Heap) (N : List Str) (qual : Str) (scope : Scope) (f cda cc : Addr) (A : Around) (outer : List Env) (s : Shared) (H : Hp) (E : XK) : Cx where
  prog := P
  w := w
  K := K
  mg := mg
  base := base
  A := A.deeper (envS qual scope s.heap.objs.size f cda cc)
  N := N
  s_0 := s
  H_0 := H
  env := envS qual scope s.heap.objs.size f cda cc
  outer := outer
  stack := envS qual scope s.heap.objs.size f cda cc :: outer
  ex := []
  calm := true
  fn := fun x => decide (x ≠ "__class__")
  pn := []
  xe := fun e s' => wpAny (model P w) (A.deeper (envS qual scope s.heap.objs.size f cda cc)) (leaving (envS qual scope s.heap.objs.size f cda cc) e) (fun _ s'' => CX outer H s E e s'') (fun e' s'' => CX outer H s E e' s'') s'
theorem cc_look {cc c : Addr} {y : Str} (h : ([(("__class__" : Str), cc)] : List (Str × Addr)).lookup y = some c) : y = "__class__" ∧ c = cc := by
  rw [List.lookup_cons] at h
  by_cases e : y = "__class__"
  · subst e
    rw [show ((("__class__" : Str)) == ("__class__" : Str)) = true by decide] at h
    cases h
    exact ⟨rfl, rfl⟩
  · rw [show (y == ("__class__" : Str)) = false by simpa using e] at h
    cases h
theorem zip_fst_sub : ∀ (ps : List Str) (us : List Value), ((ps.zip us).map (·.1)).Sublist ps
  | [], _ => by simp
  | p :: ps, [] => by simp
  | p :: ps, u :: us => by
    rw [List.zip_cons_cons, List.map_cons]
    exact (zip_fst_sub ps us).cons_cons p
theorem zip_rev {y : Str} {v : Value} {ps : List Str} {us : List Value} {i : Nat} (nd : ps.Nodup) (h1 : ps[i]? = some y) (h2 : us[i]? = some v) : (ps.zip us).reverse.lookup y = some v := by
  have key : ∀ {l : List (Str × Value)} {y : Str} {v : Value}, (l.map (·.1)).Nodup → (y, v) ∈ l → l.lookup y = some v := by
    intro l
    induction l with
    | nil => intro y v _ h; cases h
    | cons a l ih =>
      intro y v nd h
      obtain ⟨a1, a2⟩ := a
      rw [List.map_cons, List.nodup_cons] at nd
      rw [List.lookup_cons]
      rcases List.mem_cons.mp h with e | e
      · cases e
        rw [show (y == y) = true by simp]
      · have : y ≠ a1 := fun q => nd.1 (by rw [← q]; exact List.mem_map.mpr ⟨_, e, rfl⟩)
        rw [show (y == a1) = false by simpa using this]
        exact ih nd.2 e
  refine key ?_ ?_
  · rw [List.map_reverse]
    refine List.pairwise_reverse.mpr (List.Pairwise.imp (fun h => Ne.symm h) (List.Pairwise.sublist (zip_fst_sub ps us) nd))
  · rw [List.mem_reverse]
    refine List.mem_of_getElem? (i := i) ?_
    rw [List.getElem?_zip_eq_some]
    exact ⟨h1, h2⟩
section
variable {CX : CXT} {P : Program} {w : World} {K : PySem.W.Frag} {mg : Str → Option Value} {base : Heap} {N ps : List Str} {x qual : Str} {params : Arguments} {body : List Stmt} {scope : Scope} {f D cc cda : Addr} {fd : FuncData} {A : Around} {outer : List Env} {s : Shared} {H : Hp} {E : XK} {us : List Value} {vs : List V}
theorem inv_startS (S : SupScope N ps scope) (F : FunS K P x qual params body scope f fd D cc cda) (hd : A.handled = none) (e0 : Env0 P w K mg base A outer s H) (hl : vs.length = ps.length) (r : Vals vs us) {h₁ : Heap} {tk : Nat} (hns : h₁.Ns s.heap.objs.size fun y => (ps.zip us).reverse.lookup y)
    (kp : ∀ b o, s.heap.get? b = some o → h₁.get? b = some o) : Inv (cxS CX P w K mg base N qual scope f cda cc A outer s H E) [] (start N vs) H { s with heap := h₁, toks := tk } := by
  obtain ⟨cl, cld, csl, hc⟩ := F.cell
  have hb := e0.mod.kin _ _ hc
  obtain ⟨hs, hH⟩ := e0.bs _ _ hb
  have hpl : ps.length ≤ N.length := by have := congrArg List.length S.pre; rw [List.length_take] at this; omega
  have ndP : ps.Nodup := by rw [← S.pre]; exact S.nd.sublist (List.take_sublist _ _)
  refine ⟨⟨e0.mod, S.kind, rfl, rfl, Nat.le_refl _, fun y z c h1 h2 => ?_, fun y hy => ?_, fun y c h1 h2 => ?_, fun _ => hd, Around.frames_deeper e0.frames, .inr ⟨rfl, rfl⟩, fun b z => (nomatch z), e0.bs, e0.bsz, fun b _ _ z => (nomatch z), fun b z => (nomatch z), e0.funs, e0.frf⟩,
    rfl, e0.bare, Un.kept kp, ⟨_, hns, fun i y v h1 h2 h3 => ?_⟩, fun y c h => ?_, e0.hok.fresh (Nat.le_refl _), fun y c h => ?_, fun p hp => absurd (show p ∈ ([] : List (Addr × Obj)) from hp) (by simp), e0.hok.kept kp, ?_⟩
  · rw [(cc_look h1).1, (cc_look h2).1]
  · have hy : scope.names.lookup y = some .cell ∨ scope.names.lookup y = some .free := hy
    rcases hy with hy | hy
    · exact absurd rfl (S.noc _ (PySem.mem_of_lookup hy))
    · obtain rfl : y = "__class__" := S.fre _ (PySem.mem_of_lookup hy) rfl
      exact ⟨cc, rfl⟩
  · rw [(cc_look h2).1] at h1
    exact absurd h1 (by show ¬ decide (("__class__" : Str) ≠ "__class__") = true; simp)
  · have hi : i < vs.length := by
      unfold start at h2
      by_cases hi : i < vs.length
      · exact hi
      · rw [List.getElem?_append_right (by simpa using hi), List.getElem?_replicate] at h2
        split at h2 <;> cases h2
    have ha : vs[i]? = some v := by
      unfold start at h2
      rw [List.getElem?_append_left (by simpa using hi), List.getElem?_map] at h2
      cases e : vs[i]? with
      | none => rw [e] at h2; cases h2
      | some a => rw [e] at h2; cases h2; rfl
    obtain ⟨u, hu, rv⟩ := r.get ha
    have hp : ps[i]? = some y := by
      rw [← S.pre, List.getElem?_take_of_lt (by omega)]; exact h1
    exact ⟨u, rv, .inl ⟨S.par y (List.mem_of_getElem? hp), zip_rev ndP hp hu⟩⟩
  · rw [(cc_look h).2]
    exact ⟨_, _, kp _ _ hs, rfl⟩
  · rw [(cc_look h).2]
    exact hH
  · unfold start
    show _ = N.length
    rw [List.length_append, List.length_map, List.length_replicate]
    omega
end
section
variable {CX : CXT} {P : Program} {w : World} {K : PySem.W.Frag} {mg : Str → Option Value} {base : Heap} {N ps : List Str} {x qual : Str} {params : Arguments} {body : List Stmt} {scope : Scope} {f D C g cc cda : Addr} {fd : FuncData} {A : Around} {outer : List Env} {s0 s : Shared} {H0 H : Hp} {E : XK} {pins : List (Addr × Obj)} {σ : St}
theorem super_step {p0 p1 : Pos} {m p : Str} {whole : Sem Value} {a dx : Addr} {fs : List (Str × V)} {bd : List Stmt} {EE : Value → Shared → Prop} (S : SupScope N (p :: ps) scope) (F : FunS K P x qual params body scope f fd D cc cda) (hp : ∀ kV doc pm an ct, ((PySem.W.ksFn x qual params body scope .none kV doc pm an (.ref cda) ct cc).params.posonlyargs ++ (PySem.W.ksFn x qual params body scope .none kV doc pm an (.ref cda) ct cc).params.args).head?.map (·.arg) = some p) (T : SupTo K C D m g)
    (hm : mg "super" = none) (I : Inv (cxS CX P w K mg base N qual scope f cda cc A outer s0 H0 E) pins σ H s) (h0 : σ[0]? = some (some (.ref a))) (e : H a = some (.ins C dx fs)) :
    _root_.PySem.wpAt (model P w) (cxS CX P w K mg base N qual scope f cda cc A outer s0 H0 E).A (.func bd (envS qual scope s0.heap.objs.size f cda cc)) (attributeBase (.Call (.Name "super" p0) [] [] p1) m (envS qual scope s0.heap.objs.size f cda cc) whole)
      (fun v s' => ∃ so, v = .ref so ∧ Inv (cxS CX P w K mg base N qual scope f cda cc A outer s0 H0 E) ((so, PySem.W.ks_superObj D a C) :: pins) σ H s') EE s := by
  obtain ⟨oc, od, kV, doc, pm, an, ct, osl, ccl, cdd, vs, ccs, file, tf, rfl, lk, hcd, lc, hv, hfile⟩ := F.ex
  obtain ⟨cl, cld, csl, hcell⟩ := F.cell
  obtain ⟨cdD, hD⟩ := F.cls
  have hp := hp kV doc pm an ct
  obtain ⟨ar, har, harg⟩ := Option.map_eq_some_iff.mp hp
  have X : K.In s.heap := I.kIn
  obtain ⟨oD, hD1, hD2⟩ : ∃ oD, s.heap.get? D = some oD ∧ oD.data = .cls cdD := by
    unfold PySem.W.clsIn at hD
    split at hD
    · rename_i c d cd' sl ho
      cases hD
      exact ⟨_, X _ _ ho, rfl⟩
    · cases hD
  have hN0 : N[0]? = some p := by
    have := S.pre
    cases N with
    | nil => simp at this
    | cons n N => simp at this; rw [this.1]; rfl
  have hlp := S.par p List.mem_cons_self
  obtain ⟨mm, hns, hloc⟩ := I.loc
  obtain ⟨u, ru, hu⟩ := hloc 0 p _ hN0 h0 (.inl hlp)
  obtain rfl : u = Value.ref a := ru
  have hma : mm p = some (.ref a) := by
    rcases hu with ⟨_, q⟩ | ⟨q, _⟩
    · exact q
    · have q : scope.names.lookup p = some .cell ∨ scope.names.lookup p = some .free := q
      rw [hlp] at q
      rcases q with q | q <;> cases q
  obtain ⟨mA, O, _, _, _, _⟩ := ins_get I.hok e
  obtain ⟨od', J, _⟩ := O.look
  obtain ⟨mb, hb1, hb2⟩ := I.mod.blt
  refine PySem.ks_wpAt_super_base (env := envS qual scope s0.heap.objs.size f cda cc) S.su S.cl T.nc rfl (X _ _ lk) rfl har rfl (X _ _ lc) rfl hv hfile F.top ?_
  refine PySem.W.ks_loadName_global S.kind S.su (Calls.loadGlobal_builtin (I.mod.glob.keeps I.bk) hm (hb1.keeps I.bk) ((hb2 _ (by decide)).trans (by decide +kernel : bootBuiltins "super" = some (.type "super"))) ⟨rfl, ?_⟩)
  refine wpAny_loadName_free S.kind S.cl rfl ⟨_, X _ _ hcell, rfl⟩ ?_
  rw [harg]
  refine wpAny_loadName_local S.kind hlp hns hma ?_
  refine PySem.ks_wpAny_isType_cls hD1 hD2 ⟨rfl, ?_⟩
  obtain ⟨hh, gg, d, t, os⟩ := s
  refine PySem.ks_wpAny_call_super hD1 hD2 J.at_ J.cls (fun c z => ?_) (PySem.W.looks_mroIn X T.sub) (fun h' e' k => ?_)
  · have := J.no
    unfold PySem.W.notCls at this
    rw [z] at this
    exact Bool.noConfusion this
  · exact ⟨_, rfl, ClX.pin_new (t' := t) I k (Nat.le_refl _) e' (fun v z => nomatch z)⟩
end
theorem unpin2 {X : Cx} {pins : List (Addr × Obj)} {σ : St} {H : Hp} {s : Shared} {p : Addr × Obj} (I : Inv X (p :: pins) σ H s) : Inv X pins σ H s := ClX.unpin I
def dCon (C : Addr) (fl : Str) (d0 : D) (te : TDE) : TDE := fun S Q => te S fun d => ∃ ns vs, d = .ins C ns vs ∧ fl ∉ ns ∧ Q d0
section
variable {X : Cx} {e : Expr} {te : TDE} {C : Addr} {fl : Str} {pos : Pos} {v0 : V} {d0 : D}
theorem de_con (he : PE X e (lP te)) (hc : Cls X.K C) (k : ∃ u, Con X.K C fl v0 u) (hd : ∀ z M H, Rp z M H v0 d0) (hb : attributeBase e fl X.env (eval e X.env) = eval e X.env := by rfl) : PE X (.Attribute e fl pos) (lE (dCon C fl d0 te)) := by
  obtain ⟨u, k⟩ := k
  exact PE.imp (pe_con he hb) fun σ H Q ⟨g, Qd, s, w, kk⟩ => ⟨g, _, s, w, fun d v H1 w1 x1 s1 r1 => by
    obtain ⟨ns, vs, rfl, hn, q⟩ := w1
    obtain ⟨a, dx, fs, rfl, h, _, hno⟩ := Pk.ins r1
    exact ⟨a, C, dx, fs, v0, u, rfl, h, hc, k, hno fl hn, kk d0 v0 H1 q x1 s1 (hd _ _ _)⟩⟩
end
end L2.DL
namespace L2.DL
open PySem PySem.Spec PyProof.Rows
/-- the body's statements, read at the def's own code -/
def PSq (X : Cx) (bd body : List Stmt) (t : TS) : Prop := ∀ (pins : List (Addr × Obj)) (s : Shared) (σ : St) (H : Hp) (D : Ends), Inv X pins σ H s → t D σ H → _root_.PySem.wpAt (model X.prog X.w) X.A (.func bd X.env) (execs body X.env) (SP X pins D) X.xe s
section
variable {X : Cx} {bd rest body : List Stmt} {st : Stmt} {t u : TDS}
theorem PSq.imp {t t' : TS} (h : PSq X bd body t) (k : ∀ D σ H, t' D σ H → t D σ H) : PSq X bd body t' := fun pins s σ H D I w => h pins s σ H D I (k _ _ _ w)
theorem psq_of {t : TS} (h : PSs X body t) : PSq X bd body t := fun pins s σ H D I w => PySem.wpAt_of_wpAny (h.run pins s σ H D I w)
theorem psq_seq {t u : TS} (h1 : ∀ (pins : List (Addr × Obj)) (s : Shared) (σ : St) (H : Hp) (D : Ends), Inv X pins σ H s → t D σ H → _root_.PySem.wpAt (model X.prog X.w) X.A (.func bd X.env) (exec st X.env) (SP X pins D) X.xe s) (h2 : PSq X bd rest u) : PSq X bd (st :: rest) (tSeq t u) := fun pins s σ H D I h => by
  refine PySem.ks_wpAt_execs_cons (PySem.ks_wpAt_mono (h1 pins s σ H { D with nx := u D } I h) (fun f s1 q => ?_) fun _ _ z => z)
  cases f with
  | next =>
    obtain ⟨σ', H', I', q⟩ := q
    exact h2 pins s1 σ' H' D I' q
  | ret v => exact q
  | brk => exact q
  | cont => exact q
theorem dq_of (h : PSs X body (lS t)) : PSq X bd body (lS t) := psq_of h
theorem dq_cons (h1 : PS X st (lS t)) (h2 : PSq X bd rest (lS u)) : PSq X bd (st :: rest) (lS (dsSeq t u)) := PSq.imp (psq_seq (t := lS t) (u := lS u) (fun pins s σ H D I w => PySem.wpAt_of_wpAny (h1.run pins s σ H D I w)) h2) fun D σ H ⟨g, De, s, w, l⟩ =>
  ⟨g, { De with nx := u De }, s, w, ⟨fun ow S σ' H' s' q => ⟨{ g with ow := ow, S := S }, De, s', q, l.back⟩, l.bk, l.ct, l.rt, l.rf, l.rg⟩⟩
end
theorem BagOk.del {z : Bz} {H : Hp} {a : Addr} (b : BagOk z H) (h : ¬ resB z a) (hc : ∀ c q, H a ≠ some (CodeO c q)) : BagOk z (fun b => if b = a then none else H b) where
  bg := fun p l e => by
    obtain ⟨ne, ns, at_, big, seed, cnt, e1, e2, r⟩ := b.bg p l e
    have n1 : p ≠ a := by rintro rfl; exact h (.inl ⟨p, l, e, .inl rfl⟩)
    have n2 : l ≠ a := by rintro rfl; exact h (.inl ⟨p, l, e, .inr rfl⟩)
    exact ⟨ne, ns, at_, big, seed, cnt, by rw [if_neg n1]; exact e1, by rw [if_neg n2]; exact e2, r⟩
  tb := fun P e => by
    obtain ⟨ps, h1, h2, h3⟩ := b.tb P e
    have n1 : P ≠ a := by rintro rfl; exact h (.inr e)
    refine ⟨ps, by show (if P = a then none else H P) = _; rw [if_neg n1]; exact h1, h2, fun pos cv hcv => ?_⟩
    obtain ⟨c, e1, e2⟩ := h3 pos cv hcv
    exact ⟨c, e1, by show (if c = a then none else H c) = _; rw [if_neg (show c ≠ a by rintro rfl; exact hc _ _ e2)]; exact e2⟩
  ap := b.ap
/-- the promise of an __init__ that is called by super(): the instance has fields already -/
def spI2 (n : Nat) (tf : TDF) : Sp := fun vs H Q _ => ∃ (H1 : Hp) (x C dx : Addr) (fs : List (Str × V)) (us : List V) (vd ds : List D) (z : Bz) (M : MS) (Qd : D → Prop), vs = .ref x :: us ∧ us.length = n ∧ H = upd H1 x (.ins C dx fs) ∧ H1 x = none ∧ Amb z M H1 ∧ RpL z M H1 us ds ∧ RpL z M H1 (fs.map fun p => p.2) vd ∧ tf (.ins C (fs.map fun p => p.1) vd :: ds) Qd ∧
  ∀ ns vs H', Qd (.ins C ns vs) → Ext z H1 H' → BagOk z H' → OwF z M H' x (.ins C ns vs) → Q .non H'
theorem ok_I2 {P : Program} {w : World} {K : PySem.W.Frag} {mg : Str → Option Value} {base : Heap} {x qual : Str} {st : Stmt} {f : Addr} {fd : FuncData} {N ps : List Str} {k n : Nat} {tf : TDF} {dfv : List V} {kwv : List (Str × V)} (F : FunD K x qual (defArgs st) (defBody st) (defScope st) dfv kwv f fd) (S : FnScope N ps (defScope st)) (hn : ps.length = n + 1 := by rfl)
    (hb : ∀ (cdv : Value) (A : Around) (outer : List Env) (s : Shared) (H : Hp) (E : XK), Room k (A.deeper (envOfC qual (defScope st) s.heap.objs.size f cdv)) → ∃ t : TDS, PSs (cxOf CX0 P w K mg base N qual (defScope st) f cdv A outer s H E).nox (defBody st) (lS t) ∧
      ∀ C ns vd ds Qd y, ds.length = n → tf (.ins C ns vd :: ds) Qd → t { nx := fun S => ∃ ns vs, S[0]? = some (.own (.ins C ("" :: ns) (.raw (.ref y) :: vs))) ∧ ("" : Str) ∉ ns ∧ Qd (.ins C ns vs), rt := fun _ => False, rf := fun _ => False } (.own (.ins C ("" :: ns) (.raw (.ref y) :: vd)) :: (ds.map .val ++ List.replicate (N.length - (n + 1)) .no))) : FnOk P w K mg base CX0 (k + 1) f fd ps (spI2 n tf) := by
  refine F.ok S (fun vs H Q E h => ?_) (fun cdv A outer s H vs Q E hr h => ?_)
  · obtain ⟨H1, x, C, dx, fs, us, vd, ds, z, M, Qd, rfl, hl, _⟩ := h
    rw [hn]; simp [hl]
  · obtain ⟨H1, y, C, dx, fs, us, vd, ds, z, M, Qd, rfl, hl, rfl, hy, Am, r, rv, t, k⟩ := h
    obtain ⟨tt, hp, hw⟩ := hb cdv A outer s _ E hr
    have hM : Mo M z (fun _ => none) = M := mo_none Am.res
    have hd : ds.length = n := by rw [← r.length]; exact hl
    subst hd
    have s0 : Stt (gh0 z M H1 N (.non :: ds)) (start N (.non :: us)) H1 := stt0 Am (.cons .non r)
    have hgM : (gh0 z M H1 N (.non :: ds)).M = M := hM
    have nM : ¬ M y := fun h => (Am.alive y h).ne hy
    have x1 : Ext z H1 (upd H1 y (.ins C dx fs)) := fun b o e _ => by rw [upd_ne (ne_of_none e hy)]; exact e
    have b1 : BagOk z (upd H1 y (.ins C dx fs)) := Am.bag.grow fun b o e => by rw [upd_ne (ne_of_none e hy)]; exact e
    have rv1 : RpL z (fun b => M b ∨ b = y) (upd H1 y (.ins C dx fs)) (fs.map fun p => p.2) vd := rv.tr (Tr.of fun b u nb e => ⟨by rw [upd_ne (ne_of_none e hy)]; exact e, fun q => q.elim nb fun q => ne_of_none e hy q⟩)
    have ofw : OwF z M (upd H1 y (.ins C dx fs)) y (.ins C ("" :: fs.map fun p => p.1) (.raw (.ref y) :: vd)) := .slf upd_same rv1
    have s1 := s0.setOwn (i := 0) (a := y) x1 b1 hy (by rw [hgM]; exact nM) (by rw [hgM]; exact ofw)
    refine ⟨_, PSs.nox hp, _, _, s1, hw C _ vd ds Qd y rfl t, ?_⟩
    refine ⟨fun ow S σ H' s' q => ?_, fun _ _ _ _ _ q => q.elim, fun _ _ _ _ _ q => q.elim, fun d v H' q => q.elim, fun d a H' q => q.elim, fun _ _ _ _ q => q.elim⟩
    obtain ⟨ns, vs, e1, nn, q⟩ := q
    obtain ⟨a, ea, eo, o1⟩ := s'.own 0 _ e1
    obtain ⟨dx', fs', rfl, h1, rfl, l1⟩ := ow_slf o1
    refine k _ _ H' q s'.keep s'.bag (.ins h1 nn (l1.tr (Tr.of fun b u nb e => ⟨e, fun h => ?_⟩)))
    rcases h with h | h
    · exact nb (.inl h)
    · exact nb (.inr (.inr ⟨.inl 0, by rw [h]; exact eo⟩))
/-- super().__init__(..): what it does to self -/
def dsSup (K : PySem.W.Frag) (Dc : Addr) (m : Str) (g : Addr) (tf : TDF) (ts : TDA) : TDS := fun De S => ∃ C ns vs a, S[0]? = some (.own (.ins C ("" :: ns) (.raw (.ref a) :: vs))) ∧ SupTo K C Dc m g ∧ ts S fun ds => tf (.ins C ns vs :: ds) fun d => ∃ ns' vs', d = .ins C ns' vs' ∧ ("" : Str) ∉ ns' ∧ De.nx (S.set 0 (.own (.ins C ("" :: ns') (.raw (.ref a) :: vs'))))
section
variable {P : Program} {w : World} {K : PySem.W.Frag} {mg : Str → Option Value} {base : Heap} {N ps ps2 : List Str} {x qual p m : Str} {params : Arguments} {scope : Scope} {f D g cc cda : Addr} {fd fd2 : FuncData} {k n : Nat} {tf : TDF} {ts : TDA} {u : TDS} {e : Expr} {es : List Expr} {p0 p1 ap pos epos : Pos} {pl : Sem Bool} {A : Around} {outer : List Env} {s0 : Shared} {H0 : Hp} {E : XK} {bd body rest : List Stmt}
theorem dq_sup (F : FunS K P x qual params bd scope f fd D cc cda) (S : SupScope N (p :: ps) scope) (hr : Room k (A.deeper (envS qual scope s0.heap.objs.size f cda cc)))
    (hp : ∀ kV doc pm an ct, ((PySem.W.ksFn x qual params bd scope .none kV doc pm an (.ref cda) ct cc).params.posonlyargs ++ (PySem.W.ksFn x qual params bd scope .none kV doc pm an (.ref cda) ct cc).params.args).head?.map (·.arg) = some p)
    (hm : mg "super" = none) (F2 : FnOk P w K mg base CX0 k g fd2 ps2 (spI2 n tf)) (hb2 : Binds K fd2 ps2 []) (hn : ∀ d ds Q, tf (d :: ds) Q → ds.length = n)
    (ha : PA (cxS CX0 P w K mg base N qual scope f cda cc A outer s0 H0 E).nox (e :: es) (lA ts))
    (h2 : PSq (cxS CX0 P w K mg base N qual scope f cda cc A outer s0 H0 E).nox bd rest (lS u))
    (hst : ∀ env : Env, starEach (e :: es) env = (false, eval e env) :: starEach es env := by intro; rfl) (hpl : ∀ env : Env, (backTo pos (starEach es env)).any (·.1) = false := by intro; rfl)
    (hs : ∀ L, swapsWith (.Call (.Attribute (.Call (.Name "super" p0) [] [] p1) m ap) (e :: es) [] pos) none epos.line (envS qual scope L f cda cc) = pure false := by intro; rfl)
    (ht : ∀ env : Env, eval (.Call (.Attribute (.Call (.Name "super" p0) [] [] p1) m ap) (e :: es) [] pos) env = (do
      let ov ← attributeBase (.Call (.Name "super" p0) [] [] p1) m env (eval (.Call (.Name "super" p0) [] [] p1) env)
      standAt ap.atName
      let (f, first) ← holding [ov] (getMethod ov m pl)
      callWith pos f first (backTo pos (starEach (e :: es) env)) (backToKw pos (keywordEach [] env))) := by intro; rfl) :
    PSq (cxS CX0 P w K mg base N qual scope f cda cc A outer s0 H0 E).nox bd (.Expr (.Call (.Attribute (.Call (.Name "super" p0) [] [] p1) m ap) (e :: es) [] pos) epos :: rest) (lS (dsSeq (dsSup K D m g tf ts) u)) := by
  refine PSq.imp (psq_seq (t := lS (dsSup K D m g tf ts)) (u := lS u) ?_ h2) fun D σ H ⟨g, De, s, w, l⟩ => ⟨g, { De with nx := u De }, s, w, ⟨fun ow S σ' H' s' q => ⟨{ g with ow := ow, S := S }, De, s', q, l.back⟩, l.bk, l.ct, l.rt, l.rf, l.rg⟩⟩
  intro pins s σ H De0 I ⟨gh, De, st, ⟨C, ns, vs, a, e0, T, wq⟩, l⟩
  have I : Inv (cxS CX0 P w K mg base N qual scope f cda cc A outer s0 H0 E) pins σ H s := Inv.unwish I
  obtain ⟨a', ea', eo, ow0⟩ := st.own 0 _ e0
  obtain ⟨dx, fs, rfl, ea, rfl, l0⟩ := ow_slf ow0
  show PySem.wpAt (model P w) (A.deeper (envS qual scope s0.heap.objs.size f cda cc)) (.func _ (envS qual scope s0.heap.objs.size f cda cc)) (exec _ (envS qual scope s0.heap.objs.size f cda cc)) _ _ _
  rw [PySem.exec_Expr _ _ epos (show interactive (envS qual scope s0.heap.objs.size f cda cc) = false from I.quiet) (hs _)]
  refine PySem.wpAt_bind (PySem.wpAt_of_wpAny (wpAny_standAt ?_))
  refine PySem.wpAt_bind ?_
  rw [ht]
  refine PySem.wpAt_bind (PySem.ks_wpAt_mono (super_step S F hp T hm I ea' ea) (fun v s1 ⟨so, ev, I1⟩ => ?_) fun _ _ z => z)
  subst ev
  refine PySem.wpAt_of_wpAny (wpAny_bind (wpAny_standAt (wpAny_bind (wpAny_holding ?_))))
  obtain ⟨h1, g1, d1, t1, os1⟩ := s1
  have X1 : K.In h1 := I1.kIn
  obtain ⟨mA, O, _, _, _, _⟩ := ins_get I1.hok ea
  obtain ⟨od', J, _⟩ := O.look
  have hso := ClX.pin_at I1
  have hm2 := T.at_
  cases hcl : PySem.W.clsIn K C with
  | none => unfold PySem.W.ks_superIn at hm2; rw [hcl] at hm2; cases hm2
  | some cd =>
    unfold PySem.W.ks_superIn at hm2
    rw [hcl] at hm2
    obtain ⟨og, hog, hogc⟩ : ∃ og, h1.get? g = some og ∧ og.cls = .type "function" := by
      have ht' : (K.lookup g).map (·.cls) = some (.type "function") := T.ty
      cases z : K.lookup g with
      | none => rw [z] at ht'; cases ht'
      | some og => rw [z] at ht'; exact ⟨og, X1 _ _ z, Option.some.inj ht'⟩
    refine PySem.ks_wpAny_getMethod_super hso (PySem.W.looks_opaque X1 T.any) (l₀ := cd.mro) (fun A Q E s k q => wpAny_bind ((PySem.W.looks_clsIn X1 hcl) A _ E s k (wpAny_pure q))) rfl X1 hm2 hog hogc (PySem.W.ks_ne X1 J hcl) T.nc ?_
    have I2 : Inv (cxS CX0 P w K mg base N qual scope f cda cc A outer s0 H0 E) ((h1.objs.size, PySem.W.methodObj (.ref g) (.ref a)) :: (so, PySem.W.ks_superObj D a C) :: pins) σ H ⟨h1.push (PySem.W.methodObj (.ref g) (.ref a)), g1, d1, t1 + 1, os1⟩ := ClX.met_new I1
    have Fr2 : FnR P w K mg base CX0 k g (fun vs H Q E => spI2 n tf (vs ++ []) H Q E) := F2.raw hb2 .nil
    have I2' : Inv (cxS CX0 P w K mg base N qual scope f cda cc A outer s0 H0 E).nox ((h1.objs.size, PySem.W.methodObj (.ref g) (.ref a)) :: (so, PySem.W.ks_superObj D a C) :: pins) σ H ⟨h1.push (PySem.W.methodObj (.ref g) (.ref a)), g1, d1, t1 + 1, os1⟩ := I2.wish _
    refine ClX.callwith_cm I2 (ClX.base_none I1 (Nat.le_refl _)) T.fi (thn (ha.run pos _ _ σ H (fun ws H2 => spI2 n tf (.ref a :: ws) H2 (fun _ H'' => De0.nx σ H'') E) I2' ⟨gh, _, st, wq, fun ds ws H2 w2 x2 st2 r2 => ?_⟩) fun us2 s3 ⟨ws, H2, I3, rv, q2⟩ => ⟨⟨ClX.pin_at I3, I3.kIn⟩, ?_⟩) (hst _) (hpl _)
    · obtain ⟨a2, ea2, eo2, ow2⟩ := st2.own 0 _ e0
      obtain ⟨dx2, fs2, rfl, ha2, hfs, l2⟩ := ow_slf ow2
      have nr : ¬ resB gh.z a := (st2.new _ a eo).2.2
      have trM : Tr gh.M H2 (fun b => gh.M b ∧ b ≠ a) (fun b => if b = a then none else H2 b) := Tr.of fun b o nb eb => ⟨by
        rw [if_neg (fun q => nb (by rw [q]; exact .inr (.inr ⟨_, eo⟩)))]; exact eb, fun q => nb q.1⟩
      refine ⟨fun b => if b = a then none else H2 b, a, C, dx2, fs2, ws, vs, ds, gh.z, fun b => gh.M b ∧ b ≠ a, fun d => ∃ ns' vs', d = .ins C ns' vs' ∧ ("" : Str) ∉ ns' ∧ De.nx (gh.S.set 0 (.own (.ins C ("" :: ns') (.raw (.ref a) :: vs')))), rfl, by rw [r2.length]; exact hn _ _ _ w2, ?_, by simp, ⟨?_, ?_, ?_⟩, r2.tr trM, l2.tr trM, ?_, ?_⟩
      · funext b
        by_cases hb : b = a
        · subst hb; rw [upd_same]; exact ha2
        · rw [upd_ne hb, if_neg hb]
      · exact st2.bag.del nr (Ow.code ow2)
      · intro b hb
        obtain ⟨o, eo', no⟩ := st2.alive b hb.1
        exact ⟨o, by show (if b = a then none else H2 b) = _; rw [if_neg hb.2]; exact eo', no⟩
      · intro b hb
        exact ⟨res_M hb, fun q => nr (by rw [← q]; exact hb)⟩
      · rw [← hfs]; exact w2
      · intro ns' vs' H' ⟨n2, v2, ed, nn, q⟩ x b o
        cases ed
        have hc := Ow.code o
        obtain ⟨dx3, fs3, e3, en, l3⟩ : ∃ dx3 fs3, H' a = some (.ins C dx3 fs3) ∧ ns' = (fs3.map fun p => p.1) ∧ RpL gh.z (fun c => (gh.M c ∧ c ≠ a) ∨ c = a) H' (fs3.map fun p => p.2) vs' := by
          have o : Ow gh.z (fun c => (gh.M c ∧ c ≠ a) ∨ c = a) H' a (.ins C ns' vs') := o
          generalize hd : DL.D.ins C ns' vs' = d at o
          cases o with
          | lst => cases hd
          | dicK => cases hd
          | dicT => cases hd
          | ins e q l => cases hd; exact ⟨_, _, e, rfl, l⟩
          | slf e l => cases hd; exact absurd List.mem_cons_self nn
        have x2' : Ext gh.z H2 (upd H' a (.ins C dx2 fs2)) := fun c u ec nc => by
          by_cases h : c = a
          · subst h; rw [upd_same, ← ha2]; exact ec
          · rw [upd_ne h]; exact x c u (by show (if c = a then none else H2 c) = _; rw [if_neg h]; exact ec) nc
        have st3 := st2.ext x2' (b.mut nr hc)
        have eH : upd (upd H' a (.ins C dx2 fs2)) a (.ins C dx3 fs3) = H' := by
          funext c
          by_cases h : c = a
          · subst h; rw [upd_same]; exact e3.symm
          · rw [upd_ne h, upd_ne h]
        have l4 : RpL gh.z gh.M H' (fs3.map fun p => p.2) vs' := l3.tr (Tr.of fun c u nc ec => ⟨ec, fun q => nc (by
          by_cases h : c = a
          · exact .inr h
          · exact .inl ⟨q, h⟩)⟩)
        have ow4 : Ow gh.z gh.M (upd (upd H' a (.ins C dx2 fs2)) a (.ins C dx3 fs3)) a (.ins C ("" :: ns') (.raw (.ref a) :: vs')) := by
          rw [eH, en]
          exact .slf e3 l4
        have st4 := st3.mutate e0 ea' (.inr rfl) ow4
        rw [eH] at st4
        exact l.nx gh.ow _ σ H' st4 q
    · refine wpAny_mono (ClX.run_cm (X := (cxS CX0 P w K mg base N qual scope f cda cc A outer s0 H0 E).nox) (E := E) (Q := fun _ H'' => De0.nx σ H'') Fr2 hr pass0 I3 rv (by show spI2 n tf ((.ref a :: ws) ++ []) H2 _ E; rw [List.append_nil]; exact q2)) (fun v s4 ⟨v0, H4, I4, _, q4⟩ => ?_) fun _ _ z => z
      refine PySem.wpAt_of_wpAny (wpAny_dropValue ?_)
      exact ⟨σ, H4, unpin2 I4, q4⟩
end
end L2.DL
namespace L2.DL
open PySem PySem.Spec PyProof.Rows
theorem PSq.nox {X : Cx} {bd body : List Stmt} {t : TS} (h : PSq X.nox bd body t) : PSq X bd body t := fun pins s σ H D I hw => PySem.ks_wpAt_mono (h pins s σ H D (I.wish _) hw) (fun _ _ q => q.unwish) fun _ _ z => False.elim z
section
variable {CX : CXT} {P : Program} {w : World} {K : PySem.W.Frag} {mg : Str → Option Value} {base : Heap} {N ps : List Str} {x qual pv : Str} {params : Arguments} {body : List Stmt} {scope : Scope} {f C D cc cda : Addr} {fd : FuncData} {k n : Nat} {sp : Sp} {tf : TDF}
theorem FunS.ok (F : FunS K P x qual params body scope f fd D cc cda) (S : SupScope N ps scope) (len : ∀ vs H Q E, sp vs H Q E → vs.length = ps.length)
    (hb : ∀ (A : Around) (outer : List Env) (s : Shared) (H : Hp) (vs : List V) (Q : VK) (E : XK), Room k (A.deeper (envS qual scope s.heap.objs.size f cda cc)) → sp vs H Q E → ∃ t, PSq (cxS CX P w K mg base N qual scope f cda cc A outer s H E) body body t ∧ t { nx := fun _ H' => Q .non H', rt := Q } (start N vs) H) :
    FnOk P w K mg base CX (k + 1) f fd ps sp := by
  have F' := F
  obtain ⟨oc, od, kV, doc, pm, an, ct, osl, ccl, cdd, vs0, ccs, file, tf, rfl, lk, hcd, lc, hv, hfile⟩ := F.ex
  refine ⟨len, fun A outer s H args us vs Q E hr e0 hbt r h => ?_⟩
  have hl := len _ _ _ _ h
  have KX : K.In s.heap := e0.mod.kin.keeps fun b o e => (e0.bs b o e).1
  have lim : s.heap.NoLimit := e0.mod.nolimit.keeps fun b o e => (e0.bs b o e).1
  refine PySem.ks_codeAny_call_defAt hr.depth (KX _ _ lk) rfl lim (PySem.W.codeRec_of KX hcd) rfl hbt S.noc (fun y hy => S.par y.1 (List.of_mem_zip hy).1) (fun h₁ hns kp => ?_) S.co S.gen S.kind
  have I := inv_startS (CX := CX) (E := E) (tk := s.toks + (ps.zip us).length) S F' hr.hd e0 hl r hns kp
  obtain ⟨t, ht, hq⟩ := hb A outer s H vs Q E (hr.deeper _) h
  refine PySem.ks_wpAt_mono (ht [] _ _ _ _ I hq) (fun fl s' hs => ?_) fun e s' hs => hs
  have fin : ∀ {σ' : L2.St} {H' : Hp} {v' : V} {u' : Value}, Inv (cxS CX P w K mg base N qual scope f cda cc A outer s H E) [] σ' H' s' → RelV v' u' → Q v' H' → CE outer P w H s Q u' s' :=
    fun {σ' H' v' u'} J rv' q => ⟨v', H', J.os, J.bare, J.base, J.hok, rv', q⟩
  cases fl with
  | ret u' =>
    obtain ⟨v', σ', H', J, rv', q⟩ := hs
    exact fin J rv' q
  | next =>
    obtain ⟨σ', H', J, q⟩ := hs
    exact fin (v' := V.non) (u' := Value.none) J rfl q
  | brk =>
    obtain ⟨_, _, _, q⟩ := hs
    exact False.elim q
  | cont =>
    obtain ⟨_, _, _, q⟩ := hs
    exact False.elim q
/-- def f(a, .., *v), with such a cell -/
theorem fn_starS (F : FunS K P x qual params body scope f fd D cc cda) (S : SupScope N (ps ++ [pv]) scope) (hCX : StX.CXUp CX)
    (hbi : ∀ (kV doc pm : Value) (an : Option Addr) (ct : Value) (us rest : List Value), us.length = ps.length → bindArgs (PySem.W.ksFn x qual params body scope .none kV doc pm an (.ref cda) ct cc) ⟨us ++ rest, []⟩ = (newTuple rest >>= fun t => pure (ps.zip us ++ [(pv, t)])))
    (hb : ∀ (A : Around) (outer : List Env) (s : Shared) (H : Hp) (vs : List V) (Q : VK) (E : XK), Room k (A.deeper (envS qual scope s.heap.objs.size f cda cc)) → sp vs H Q E → ∃ t, PSq (cxS CX P w K mg base N qual scope f cda cc A outer s H E) body body t ∧ t { nx := fun _ H' => Q .non H', rt := Q } (start N vs) H) :
    FnR P w K mg base CX (k + 1) f (fun vs H Q E => ∃ ws rest, vs = ws ++ rest ∧ ws.length = ps.length ∧ rest.length ≤ sizeLine ∧ ∀ p, H p = Option.none → sp (ws ++ [V.ref p]) (upd H p (.tup rest)) Q E) := by
  have F' := F
  obtain ⟨oc, od, kV, doc, pm, an, ct, osl, ccl, cdd, vs0, ccs, file, tf, rfl, lk, hcd, lc, hv, hfile⟩ := F.ex
  intro A outer s H us vs Q E hr e0 r hsp
  obtain ⟨ws, rest, ev, hl, hz, hq⟩ := hsp
  subst ev
  obtain ⟨u1, u2, eu, r1, r2⟩ := StX.vals_split r
  subst eu
  have hn : H s.heap.objs.size = Option.none := e0.hok.fresh (Nat.le_refl _)
  have hl1 : u1.length = ps.length := by rw [← r1.length]; exact hl
  have hl2 : u2.length ≤ sizeLine := by rw [← r2.length]; exact hz
  have KX : K.In s.heap := e0.mod.kin.keeps fun b o e => (e0.bs b o e).1
  have lim : s.heap.NoLimit := e0.mod.nolimit.keeps fun b o e => (e0.bs b o e).1
  refine codeAny_call_function hr.depth (KX _ _ lk) rfl S.co S.gen rfl (PySem.W.codeRec_of KX hcd) ?_
  rw [hbi kV doc pm an ct u1 u2 hl1]
  refine wpAny_bind (wpAny_newTuple (wpAny_pure ?_) hl2)
  have new : ObjOk P w (upd H s.heap.objs.size (.tup rest)) (s.heap.push ({ cls := .type "tuple", data := .seq u2.toArray } : Obj)) s.heap.objs.size (.tup rest) := ⟨hz, u2, r2, ⟨_, Heap.get?_push_size _ rfl, rfl, _, rfl⟩⟩
  have un := StX.un_laid (fs := frs outer) (s := s) (o := ({ cls := .type "tuple", data := .seq u2.toArray } : Obj)) (u := .tup rest) hn
  have e2 := StX.env0_laid e0 new
  have hx : ∀ e s', CX outer (upd H s.heap.objs.size (.tup rest)) { s with heap := s.heap.push ({ cls := .type "tuple", data := .seq u2.toArray } : Obj) } E e s' → CX outer H s E e s' := fun e s' => hCX outer s H _ _ E e s' un (fun b o q => Heap.get?_push_of_some _ q) rfl
  have kp0 : ∀ b o, s.heap.get? b = some o → (s.heap.push ({ cls := .type "tuple", data := .seq u2.toArray } : Obj)).get? b = some o := fun b o q => Heap.get?_push_of_some _ q
  have ez : ps.zip u1 ++ [(pv, Value.ref s.heap.objs.size)] = (ps ++ [pv]).zip (u1 ++ [Value.ref s.heap.objs.size]) := by rw [List.zip_append hl1.symm]; rfl
  rw [ez]
  refine wpAny_newFunctionEnv S.noc (fun y hy => S.par y.1 (List.of_mem_zip hy).1) (fun h₀ hns₀ hsb₀ => ⟨(lim.keeps kp0).fresh _ hsb₀, PySem.ks_codeAny_funcAt ?_⟩) S.kind
  have kp : ∀ b o, (s.heap.push ({ cls := .type "tuple", data := .seq u2.toArray } : Obj)).get? b = some o → h₀.get? b = some o := fun b o e => hsb₀.extBut b o (Nat.ne_of_lt (Heap.lt_size e)) (Heap.get?_push_of_some _ e)
  have I := inv_startS (CX := CX) (E := E) (vs := ws ++ [V.ref s.heap.objs.size]) (tk := s.toks + ((ps ++ [pv]).zip (u1 ++ [Value.ref s.heap.objs.size])).length) S F' hr.hd e2 (by rw [List.length_append, List.length_append, hl]; rfl) (r1.append (.cons rfl .nil)) hns₀ kp
  obtain ⟨t, ht, hqq⟩ := hb A outer { s with heap := s.heap.push ({ cls := .type "tuple", data := .seq u2.toArray } : Obj) } _ _ Q E (hr.deeper _) (hq _ hn)
  refine PySem.ks_wpAt_mono (ht [] _ _ _ _ I hqq) (fun fl s' hs => ?_) fun e s' hs => wpAny_mono hs (fun _ s'' z => hx e s'' z) fun e' s'' z => hx e' s'' z
  have fin : ∀ {σ' : L2.St} {H' : Hp} {v' : V} {u' : Value}, Inv (cxS CX P w K mg base N qual scope f cda cc A outer { s with heap := s.heap.push ({ cls := .type "tuple", data := .seq u2.toArray } : Obj) } (upd H s.heap.objs.size (.tup rest)) E) [] σ' H' s' → RelV v' u' → Q v' H' → CE outer P w H s Q u' s' :=
    fun {σ' H' v' u'} J rv' q => ⟨v', H', J.os, J.bare, un.trans J.base, J.hok, rv', q⟩
  cases fl with
  | ret u' =>
    obtain ⟨v', σ', H', J, rv', q⟩ := hs
    exact fin J rv' q
  | next =>
    obtain ⟨σ', H', J, q⟩ := hs
    exact fin (v' := V.non) (u' := Value.none) J rfl q
  | brk =>
    obtain ⟨_, _, _, q⟩ := hs
    exact False.elim q
  | cont =>
    obtain ⟨_, _, _, q⟩ := hs
    exact False.elim q
end
end L2.DL
namespace L2.DL
open PySem PySem.Spec PyProof.Rows
section
variable {P : Program} {w : World} {K : PySem.W.Frag} {mg : Str → Option Value} {base : Heap} {N ps : List Str} {x qual a0 pv : Str} {st : Stmt} {f C Dc cc cda : Addr} {fd : FuncData} {k n : Nat} {tf : TDF}
def BodyS (P : Program) (w : World) (K : PySem.W.Frag) (mg : Str → Option Value) (base : Heap) (N : List Str) (qual : Str) (st : Stmt) (f cda cc C : Addr) (k n : Nat) (tf : TDF) : Prop := ∀ (A : Around) (outer : List Env) (s : Shared) (H : Hp) (E : XK), Room k (A.deeper (envS qual (defScope st) s.heap.objs.size f cda cc)) → ∃ t : TDS, PSq (cxS CX0 P w K mg base N qual (defScope st) f cda cc A outer s H E).nox (defBody st) (defBody st) (lS t) ∧
  ∀ ds Qd y, ds.length = n → tf ds Qd → t { nx := fun S => ∃ ns vs, S[0]? = some (.own (.ins C ("" :: ns) (.raw (.ref y) :: vs))) ∧ ("" : Str) ∉ ns ∧ Qd (.ins C ns vs), rt := fun _ => False, rf := fun _ => False } (.own (.ins C [""] [.raw (.ref y)]) :: (ds.map .val ++ List.replicate (N.length - (n + 1)) .no))
theorem bodyS_run (hb : BodyS P w K mg base N qual st f cda cc C k n tf) : ∀ (A : Around) (outer : List Env) (s : Shared) (H : Hp) (vs : List V) (Q : VK) (E : XK), Room k (A.deeper (envS qual (defScope st) s.heap.objs.size f cda cc)) → spI C n tf vs H Q E →
    ∃ t, PSq (cxS CX0 P w K mg base N qual (defScope st) f cda cc A outer s H E) (defBody st) (defBody st) t ∧ t { nx := fun _ H' => Q .non H', rt := Q } (start N vs) H := by
  intro A outer s H vs Q E hr h
  obtain ⟨H1, y, dx, us, ds, z, M, Qd, rfl, hl, rfl, hy, hdx, ne, Am, r, t, kq⟩ := h
  have hb2 := hb A outer s (upd (upd H1 dx (.own y)) y (.ins C dx [])) E hr
  clear hb
  obtain ⟨tt, hp, hw⟩ := hb2
  have hM : Mo M z (fun _ => none) = M := mo_none Am.res
  have hd : ds.length = n := by rw [← r.length]; exact hl
  subst hd
  have s0 : Stt (gh0 z M H1 N (.non :: ds)) (start N (.non :: us)) H1 := stt0 Am (.cons .non r)
  have hgM : (gh0 z M H1 N (.non :: ds)).M = M := hM
  have nM : ¬ M y := fun h => (Am.alive y h).ne hy
  have x1 : Ext z H1 (upd (upd H1 dx (.own y)) y (.ins C dx [])) := fun b o e _ => by rw [upd_ne (ne_of_none e hy), upd_ne (ne_of_none e hdx)]; exact e
  have b1 : BagOk z (upd (upd H1 dx (.own y)) y (.ins C dx [])) := Am.bag.grow fun b o e => by rw [upd_ne (ne_of_none e hy), upd_ne (ne_of_none e hdx)]; exact e
  have s1 := s0.setOwn (i := 0) (d := .ins C [""] [.raw (.ref y)]) (a := y) x1 b1 hy (by rw [hgM]; exact nM) (.slf upd_same .nil)
  refine ⟨_, PSq.nox hp, _, _, s1, hw ds Qd y rfl t, ?_⟩
  refine ⟨fun ow S σ H' s' q => ?_, fun _ _ _ _ _ q => q.elim, fun _ _ _ _ _ q => q.elim, fun d v H' q => q.elim, fun d a H' q => q.elim, fun _ _ _ _ q => q.elim⟩
  obtain ⟨ns, vs, e1, nn, q⟩ := q
  obtain ⟨a, ea, eo, o1⟩ := s'.own 0 _ e1
  obtain ⟨dx', fs, rfl, h1, rfl, l1⟩ := ow_slf o1
  refine kq _ _ H' q s'.keep s'.bag (.ins h1 nn (l1.tr (Tr.of fun b u nb e => ⟨e, fun h => ?_⟩)))
  rcases h with h | h
  · exact nb (.inl h)
  · exact nb (.inr (.inr ⟨.inl 0, by rw [h]; exact eo⟩))
theorem ok_IS (F : FunS K P x qual (defArgs st) (defBody st) (defScope st) f fd Dc cc cda) (S : SupScope N ps (defScope st)) (hn : ps.length = n + 1) (hb : BodyS P w K mg base N qual st f cda cc C k n tf) : FnOk P w K mg base CX0 (k + 1) f fd ps (spI C n tf) :=
  F.ok S (fun vs H Q E h => by
    obtain ⟨H1, x, dx, us, ds, z, M, Qd, rfl, hl, _⟩ := h
    rw [hn]; simp [hl]) fun A outer s H vs Q E hr h => bodyS_run hb A outer s H vs Q E hr h
/-- the promise of __init__(self, *args) -/
def spIV (C : Addr) (tf : TDF) : Sp := fun vs H Q _ => ∃ (H1 : Hp) (x dx : Addr) (us : List V) (ds : List D) (z : Bz) (M : MS) (Qd : D → Prop), vs = .ref x :: us ∧ us.length ≤ sizeLine ∧ H = upd (upd H1 dx (.own x)) x (.ins C dx []) ∧ H1 x = none ∧ H1 dx = none ∧ dx ≠ x ∧ Amb z M H1 ∧ RpL z M H1 us ds ∧ tf ds Qd ∧ ∀ ns vs H', Qd (.ins C ns vs) → Ext z H1 H' → BagOk z H' → OwF z M H' x (.ins C ns vs) → Q .non H'
theorem ok_ISV (F : FunS K P x qual (defArgs st) (defBody st) (defScope st) f fd Dc cc cda) (S : SupScope N [a0, pv] (defScope st))
    (hbi : ∀ (kV doc pm : Value) (an : Option Addr) (ct : Value) (us rest : List Value), us.length = [a0].length → bindArgs (PySem.W.ksFn x qual (defArgs st) (defBody st) (defScope st) .none kV doc pm an (.ref cda) ct cc) ⟨us ++ rest, []⟩ = (newTuple rest >>= fun t => pure ([a0].zip us ++ [(pv, t)])))
    (hb : BodyS P w K mg base N qual st f cda cc C k 1 fun ds Q => ∃ es, ds = [.tup es] ∧ tf es Q) : FnR P w K mg base CX0 (k + 1) f (spIV C tf) := by
  refine FnR.imp (fn_starS (ps := [a0]) (sp := spI C 1 fun ds Q => ∃ es, ds = [.tup es] ∧ tf es Q) F S StX.cxUp_none hbi fun A outer s H vs Q E hr h => bodyS_run hb A outer s H vs Q E hr h) fun vs H Q E h => ?_
  obtain ⟨H1, y, dx, us, ds, z, M, Qd, rfl, hl, rfl, hy, hdx, ne, Am, r, t, k⟩ := h
  refine ⟨[.ref y], us, rfl, rfl, hl, fun p hp => ?_⟩
  have py : p ≠ y := by rintro rfl; rw [upd_same] at hp; cases hp
  have pd : p ≠ dx := by rintro rfl; rw [upd_ne py, upd_same] at hp; cases hp
  have h1p : H1 p = none := by rw [upd_ne py, upd_ne pd] at hp; exact hp
  have nM : ¬ M p := fun h => (Am.alive p h).ne h1p
  have x1 : Ext z H1 (upd H1 p (.tup us)) := fun b o e _ => by rw [upd_ne (ne_of_none e h1p)]; exact e
  refine ⟨upd H1 p (.tup us), y, dx, [.ref p], [.tup ds], z, M, Qd, rfl, rfl, ?_, by rw [upd_ne (Ne.symm py)]; exact hy, by rw [upd_ne (Ne.symm pd)]; exact hdx, ne, ⟨Am.bag.new h1p, fun b hb => ?_, Am.res⟩, ?_, ⟨ds, rfl, t⟩, fun ns vs H' q x b o => k ns vs H' q (x1.trans x) b o⟩
  · funext b
    by_cases hb1 : b = p
    · subst hb1
      rw [upd_same, upd_ne py, upd_ne pd, upd_same]
    · rw [upd_ne hb1]
      by_cases hb2 : b = y
      · subst hb2; rw [upd_same, upd_same]
      · rw [upd_ne hb2, upd_ne hb2]
        by_cases hb3 : b = dx
        · subst hb3; rw [upd_same, upd_same]
        · rw [upd_ne hb3, upd_ne hb3, upd_ne hb1]
  · obtain ⟨o, e, n⟩ := Am.alive b hb
    exact ⟨o, by rw [upd_ne (ne_of_none e h1p)]; exact e, n⟩
  · exact .cons (.tup upd_same nM (r.tr (Tr.of fun b o n e => ⟨by rw [upd_ne (ne_of_none e h1p)]; exact e, n⟩))) .nil
end
section
variable {X : Cx} {CX : CXT} {C f : Addr} {k : Nat} {x : Str} {p pos sp_ : Pos} {e : Expr} {es : List Expr} {te : TDE} {ts : TDA} {tf : TDF} {sp : Sp} {E : XK} {tE : TE}
theorem pe_makeS1 (M : Mk X.K C f) (F : FnR X.prog X.w X.K X.mg X.base CX k f sp) (hr : Room (k + 1) X.A) (hg : Gl X x) (hm : X.mg x = some (.ref C)) (hx : Passes CX X E) (he : PE X e tE) (hd : (x == ("__debug__" : Str)) = false := by decide)
    (hst : starEach [.Starred e sp_] X.env = [(true, eval e X.env)] := by rfl) :
    PE X (.Call (.Name x p) [.Starred e sp_] [] pos) (fun σ H Q => tE σ H fun y H1 => ∃ a xs, y = V.ref a ∧ (SqT X.K H1 a xs ∨ SqL X.K H1 a xs) ∧ ∀ x dx, H1 x = Option.none → H1 dx = Option.none → dx ≠ x →
      sp (V.ref x :: xs) (upd (upd H1 dx (.own x)) x (.ins C dx [])) (fun v H2 => v = .non ∧ Q (.ref x) H2) E) := by
  refine ⟨fun pins s σ H Q I h => ?_⟩
  refine wpAny_Call_Name_kw (ld_glob I hg hm ?_ hd)
  refine PySem.W.callWith_S (h₀ := X.base) I.ok.mod.kin M.kp (thn (he.run pins s σ H _ I h) fun v s1 ⟨y, H1, I1, ry, a, xs, ey, hxs, q⟩ => ?_) hst
  subst ey
  obtain rfl : v = Value.ref a := ry
  exact StX.star_any I1 hxs fun us s2 I2 rv => ⟨I2.kIn, StX.run_makeR M F hr hx I2 rv q⟩
def dMkV (tf : TDF) (ts : TDA) : TDE := fun S Q => ts S fun ds => ds.length ≤ sizeLine ∧ tf ds Q
def dMkS (tf : TDF) (te : TDE) : TDE := fun S Q => te S fun d => ∃ ds, (d = .lst ds ∨ d = .tup ds) ∧ ds.length ≤ sizeLine ∧ tf ds Q
theorem df_makeV (M : Mk X.K C f) (F : FnR X.prog X.w X.K X.mg X.base CX0 k f (spIV C tf)) (hr : Room (k + 1) X.A) (hm : X.mg x = some (.ref C)) (ha : PA X (e :: es) (lA ts)) (hg : Gl X x := by rfl) (hdb : (x == ("__debug__" : Str)) = false := by decide)
    (he : starEach (e :: es) X.env = (false, eval e X.env) :: starEach es X.env := by rfl) (hpl : (backTo pos (starEach es X.env)).any (·.1) = false := by rfl) : PE X (.Call (.Name x p) (e :: es) [] pos) (lF (dMkV tf ts)) :=
  PE.imp (StX.pe_makeR M F hr hg hm pass0 ha hdb he hpl) fun σ H Q ⟨g, Qd, s, w, kk⟩ =>
    ⟨g, _, s, w, fun ds vs H1 w1 x1 s1 r1 y dx hy hdx ne =>
      ⟨H1, y, dx, vs, ds, g.z, g.M, Qd, rfl, by rw [r1.length]; exact w1.1, rfl, hy, hdx, ne, s1.amb, r1, w1.2, fun ns us H' q x b o => ⟨rfl, kk (.ins C ns us) y H' q (x1.trans x) (s1.ext x b) (x1.none_of hy fun h => s1.fresh hy (res_M h.res)) (s1.fresh hy) o⟩⟩⟩
theorem df_makeVS (M : Mk X.K C f) (F : FnR X.prog X.w X.K X.mg X.base CX0 k f (spIV C tf)) (hr : Room (k + 1) X.A) (hm : X.mg x = some (.ref C)) (he : PE X e (lE te)) (hg : Gl X x := by rfl) (hdb : (x == ("__debug__" : Str)) = false := by decide)
    (hst : starEach [.Starred e sp_] X.env = [(true, eval e X.env)] := by rfl) : PE X (.Call (.Name x p) [.Starred e sp_] [] pos) (lF (dMkS tf te)) :=
  PE.imp (pe_makeS1 M F hr hg hm pass0 he hdb hst) fun σ H Q ⟨g, Qd, s, w, kk⟩ =>
    ⟨g, _, s, w, fun d v H1 w1 x1 s1 r1 => by
      obtain ⟨ds, hd, hl, w1⟩ := w1
      have go : ∀ (a : Addr) (xs : List V), RpL g.z g.M H1 xs ds → ∀ y dx, H1 y = Option.none → H1 dx = Option.none → dx ≠ y → spIV C tf (V.ref y :: xs) (upd (upd H1 dx (.own y)) y (.ins C dx [])) (fun v H2 => v = .non ∧ Q (.ref y) H2) (fun _ _ _ => False) := fun a xs r2 y dx hy hdx ne =>
        ⟨H1, y, dx, xs, ds, g.z, g.M, Qd, rfl, by rw [r2.length]; exact hl, rfl, hy, hdx, ne, s1.amb, r2, w1, fun ns us H' q x b o => ⟨rfl, kk (.ins C ns us) y H' q (x1.trans x) (s1.ext x b) (x1.none_of hy fun h => s1.fresh hy (res_M h.res)) (s1.fresh hy) o⟩⟩
      rcases hd with rfl | rfl
      · cases r1 with
        | @lst a xs _ h n l => exact ⟨a, xs, rfl, .inr (.of h), fun y dx hy hdx ne => go a xs l y dx hy hdx ne⟩
      · cases r1 with
        | @tup a xs _ h n l => exact ⟨a, xs, rfl, .inl (.of h), fun y dx hy hdx ne => go a xs l y dx hy hdx ne⟩⟩
end
end L2.DL
namespace L2.DL
open PySem PySem.Spec PyProof.Rows
def parL (c : Nat) : List Nat → List Nat → Option (List Nat × List Nat)
  | _, [] => none
  | acc, x :: r => if x = c then some (acc, r) else parL c (acc ++ [x]) r
theorem par_one (c : Nat) : ∀ l acc : List Nat, TL.par [c] acc l = parL c acc l
  | [], acc => by
    unfold TL.par parL
    rfl
  | x :: r, acc => by
    unfold TL.par parL
    rw [pre_one]
    by_cases h : x = c
    · rw [if_pos (by simpa using h), if_pos h]; rfl
    · rw [if_neg (by simpa using h), if_neg h]
      exact par_one c r _
theorem parL_app (c : Nat) : ∀ l acc m : List Nat, c ∉ l → parL c acc (l ++ c :: m) = some (acc ++ l, m)
  | [], acc, m, _ => by simp [parL]
  | x :: r, acc, m, h => by
    rw [List.mem_cons, not_or] at h
    rw [List.cons_append]
    unfold parL
    rw [if_neg (fun q => h.1 q.symm), parL_app c r _ m h.2]
    simp
def prtL (c : Nat) (s : List Nat) : List Nat × List Nat × List Nat := match parL c [] s with
  | some (p, q) => (p, [c], q)
  | none => (s, [], [])
theorem txt_part (s : List Nat) (c : Nat) : Txt.partition (S2 s) (S2 [c]) = (S2 (prtL c s).1, S2 (prtL c s).2.1, S2 (prtL c s).2.2) := by
  unfold prtL
  cases h : parL c [] s with
  | none => exact SX.partition_none (by simp) (by rw [par_one]; exact h)
  | some pq => exact SX.partition_some (by simp) (by rw [par_one]; exact h)
def rPartD : List Nat → D → (D → Prop) → Prop := fun s y Q => ∃ c, y = .str [c] ∧ s.length ≤ sizeLine ∧ Q (.tup [.str (prtL c s).1, .str (prtL c s).2.1, .str (prtL c s).2.2])
section
variable {X : Cx} {o e : Expr} {ta tb : TDE} {pos apos : Pos}
theorem de_part (ho : PE X o (lP ta)) (he : PE X e (lP tb)) (hs : starEach [e] X.env = [(false, eval e X.env)] := by rfl) (hbase : attributeBase o "partition" X.env (eval o X.env) = eval o X.env := by rfl) (hline : (apos.endLine == pos.line) = true := by rfl) :
    PE X (.Call (.Attribute o "partition" apos) [e] [] pos) (lE (dM1 rPartD ta tb)) := PE.imp (pe_partition ho he hs hbase hline) fun σ H Q ⟨g, Qd, s, w, k⟩ =>
  ⟨g, _, s, w, fun d v H1 w1 x1 s1 r1 => by
    obtain ⟨a, rfl, w1⟩ := w1
    cases r1.str
    refine ⟨⟨_, rfl⟩, g, _, s1, w1, fun d2 v2 H2 w2 x2 s2 r2 => ?_⟩
    obtain ⟨c, rfl, hl, w2⟩ := w2
    cases r2.str
    refine ⟨_, _, rfl, rfl, rfl, by rw [S2_length]; exact hl, fun p hp => ?_⟩
    rw [txt_part]
    exact k _ _ _ w2 ((x1.trans x2).trans (.new hp)) (s2.alloc hp) (.tup upd_same (s2.fresh hp) (.cons (.str _) (.cons (.str _) (.cons (.str _) .nil))))⟩
end
def dFldA (K : PySem.W.Frag) (f : Str) (te : TDE) : TDE := fun S Q => te S fun d => ∃ C ns vs v, d = .ins C ns vs ∧ Cls K C ∧ NoAttr K C f ∧ getF ns vs f = some v ∧ Q v
def dsFldA (K : PySem.W.Frag) (i : Nat) (fl : Str) (te : TDE) : TDS := fun De S => ∃ C ns vs a, S[i]? = some (.own (.ins C ("" :: ns) (.raw (.ref a) :: vs))) ∧ Cls K C ∧ NoAttr K C fl ∧ te S fun d => ns.length < 1000 ∧ De.nx (S.set i (.own (.ins C ("" :: putN fl ns) (.raw (.ref a) :: putV fl d ns vs))))
def dMethA (K : PySem.W.Frag) (m : Str) (f : Addr) (tf : TDF) (dds : List D) (to : TDE) (ts : TDA) : TDE := fun S Q => ∃ C, Cls K C ∧ Meth K C m f ∧ dMeth C m tf dds to ts S Q
section
variable {X : Cx} {e o : Expr} {es : List Expr} {te to : TDE} {ts : TDA} {f : Addr} {m : Str} {fl : Str} {pos p apos pos' : Pos} {i n k : Nat} {fd : FuncData} {ps : List Str} {tf : TDF} {dvs : List V} {dds : List D}
theorem de_fldA {K : PySem.W.Frag} (he : PE X e (lP te)) (hK : X.K = K := by rfl) (hf : fl ≠ ("" : Str) := by decide) (hb : attributeBase e fl X.env (eval e X.env) = eval e X.env := by rfl) : PE X (.Attribute e fl pos) (lE (dFldA K fl te)) := by
  subst hK
  exact PE.imp (pe_fld he hb) fun σ H Q ⟨g, Qd, s, w, k⟩ =>
  ⟨g, _, s, w, fun d v H1 w1 x1 s1 r1 => by
    obtain ⟨C, ns, vs, d1, rfl, hc, hn, e1, q⟩ := w1
    obtain ⟨a, dx, fs, rfl, h, hg, _⟩ := Pk.ins r1
    obtain ⟨u, e2, r2⟩ := hg _ _ hf e1
    exact ⟨a, C, dx, fs, u, rfl, h, hc, hn, e2, k d1 u H1 q x1 s1 r2⟩⟩
theorem ds_fldA {K : PySem.W.Frag} (ho : PE X o (tVar i)) (he : PE X e (lE te)) (hK : X.K = K := by rfl) (hs : swapsWith e (some (.Attribute o fl pos')) pos.line X.env = pure false := by rfl) : PS X (.Assign [.Attribute o fl pos'] e pos) (lS (dsFldA K i fl te)) := by
  subst hK
  exact PS.imp (ps_fld ho he hs) fun D σ H ⟨g, De, s, ⟨C, ns, vs, b, e1, hc, hn, w⟩, l⟩ => ⟨g, _, s, w, fun d v H1 w1 x1 s1 r1 => by
    obtain ⟨a, ea, eo, o1⟩ := s1.own i _ e1
    obtain ⟨dx, fs, rfl, h1, rfl, l1⟩ := ow_slf o1
    refine ⟨.ref b, ea, b, C, dx, fs, rfl, h1, hc, hn, by have := w1.1; rwa [List.length_map] at this, ?_⟩
    have tr : Tr g.M H1 g.M (upd H1 b (HO.ins C dx (putF fl v fs))) := tr_mut (.inr (.inr ⟨i, eo⟩)) _
    refine l.nx g.ow _ σ _ (s1.mutate e1 ea (.inr rfl) ?_) w1.2
    have := Ow.slf (z := g.z) (M := g.M) (H := upd H1 b (.ins C dx (putF fl v fs))) (a := b) (C := C) (dx := dx) (fs := putF fl v fs) upd_same ((putF_vals r1 l1).tr tr)
    rw [putF_names] at this
    exact this⟩
theorem de_methA0 {K : PySem.W.Frag} (ho : PE X o (lE to)) (F : FnOk X.prog X.w X.K X.mg X.base CX0 k f fd ps (spE n tf)) (hr : Room k X.A) (hb : ∃ dsv, Vals dvs dsv ∧ Binds X.K fd ps dsv) (hdd : ∀ z M H, RpL z M H dvs dds) (hn : ∀ ds Q, tf ds Q → ds.length = n) (hK : X.K = K := by rfl) {pl : Sem Bool}
    (hev : eval (.Call (.Attribute o m apos) [] [] pos) X.env = (do let ov ← eval o X.env; standAt apos.atName; let fs ← holding [ov] (getMethod ov m pl); callWith pos fs.1 fs.2 (backTo pos (starEach [] X.env)) (backToKw pos (keywordEach [] X.env))) := by rfl) :
    PE X (.Call (.Attribute o m apos) [] [] pos) (lE (dMethA K m f tf dds to daNil)) := by
  subst hK
  exact ⟨fun pins s σ H Q I ⟨g, Qd, st, ⟨C, hc, hm, w⟩, kk⟩ => (de_meth0 ho hc hm F hr hb hdd hn (pl := pl) hev).run pins s σ H Q I ⟨g, Qd, st, w, kk⟩⟩
theorem df_methA0 {K : PySem.W.Frag} (ho : PE X o (lE to)) (F : FnOk X.prog X.w X.K X.mg X.base CX0 k f fd ps (spF n tf)) (hr : Room k X.A) (hb : ∃ dsv, Vals dvs dsv ∧ Binds X.K fd ps dsv) (hdd : ∀ z M H, RpL z M H dvs dds) (hn : ∀ ds Q, tf ds Q → ds.length = n) (hK : X.K = K := by rfl) {pl : Sem Bool}
    (hev : eval (.Call (.Attribute o m apos) [] [] pos) X.env = (do let ov ← eval o X.env; standAt apos.atName; let fs ← holding [ov] (getMethod ov m pl); callWith pos fs.1 fs.2 (backTo pos (starEach [] X.env)) (backToKw pos (keywordEach [] X.env))) := by rfl) :
    PE X (.Call (.Attribute o m apos) [] [] pos) (lF (dMethA K m f tf dds to daNil)) := by
  subst hK
  exact ⟨fun pins s σ H Q I ⟨g, Qd, st, ⟨C, hc, hm, w⟩, kk⟩ => (df_meth0 ho hc hm F hr hb hdd hn (pl := pl) hev).run pins s σ H Q I ⟨g, Qd, st, w, kk⟩⟩
end
end L2.DL
namespace L2.DL
open PySem PySem.Spec PyProof.Rows
section
variable {prog : Program} {w : World} {A : Around} {E : Value → Shared → Prop} {s : Shared}
theorem setM_of_tuple {l : Addr} {items : Array Value} {ks : List Key} {Q : Value → Shared → Prop} (calm : A.handled = none) (isl : s.heap.IsTuple l items) (hk : ∀ (i : Nat) (v : Value), items[i]? = some v → ∃ k, ks[i]? = some k ∧ keyIs k v = true) (hn : ks.length = items.size) (room : items.size + 1 < scanBound)
    (out : ∀ (h2 : Heap) (tk : Nat), SetM w h2 s.heap.objs.size (dedup [] ks) → (∀ c o, c < s.heap.objs.size → s.heap.get? c = some o → h2.get? c = some o) → Q (.ref s.heap.objs.size) { s with heap := h2, toks := tk }) :
    wpAny (model prog w) A (call (.type "set") [.ref l]) Q E s := by
  obtain ⟨cc, tl, hmro⟩ := PySem.F.called_set.mro
  have hmade := PySem.F.called_set.made
  have hsub := PySem.F.called_set.sub
  apply wpAny_call
  apply codeAny_of_tree
  change wpAny _ _ (callAny (.type "set") _) _ _ _
  refine wpAny_pure ⟨Code.quiet_builtin _ (by decide +kernel), ?_⟩
  apply codeAny_builtin PySem.F.entry_type_call
  rw [Around.under_plain (weight_type_call_type "set" [.ref l] []) rfl]
  have a1 := PySem.F.called_set.notType
  have a2 := PySem.F.called_set.canCreate
  have a3 := PySem.F.typeCall_set_1 (.ref l)
  repeat (any_goals first | assumption | wp_step)
  refine codeAny_mono (new_set1 (x := .ref l) (E := E) (Q := fun y t => y = .ref s.heap.objs.size ∧ t = { s with heap := s.heap.push (obS w) }) ⟨rfl, rfl⟩) fun r t hr => ?_
  cases r with
  | error e => exact hr
  | ok fl =>
    cases fl with
    | next => exact hr.elim
    | brk => exact hr.elim
    | cont => exact hr.elim
    | ret y =>
      obtain ⟨rfl, rfl⟩ := hr
      have gS : (s.heap.push (obS w)).get? s.heap.objs.size = some (obS w) := Heap.get?_push_size _ rfl
      have gT : Shared.TypeIs { s with heap := s.heap.push (obS w) } (.ref s.heap.objs.size) "set" := ⟨_, gS, rfl⟩
      have b1 := PySem.F.called_set.init.lookup
      have b2 := PySem.F.called_set.init.bind (.ref s.heap.objs.size)
      repeat (any_goals first | assumption | wp_step)
      refine codeAny_mono (codeAny_call_builtin (R := wants (fun r u => r = .none ∧ ∃ h2 tk, u = { s with heap := h2, toks := tk } ∧ SetM w h2 s.heap.objs.size (dedup [] ks) ∧ (∀ c o, c < s.heap.objs.size → s.heap.get? c = some o → h2.get? c = some o)) E) PySem.F.called_set.init.plain PySem.F.entry_set_init (check_set_init_1 gT ?_)) fun r2 u hr2 => ?_
      · obtain ⟨ol, gl, cl, nl, dl⟩ := isl
        obtain ⟨k1, k2, k3, k4⟩ := ol
        simp only at cl dl
        subst cl
        subst dl
        have gl2 : (s.heap.push (obS w)).get? l = some { cls := .type "tuple", dict := k2, data := .seq items nl, slots := k4 } := Heap.get?_push_of_some _ gl
        have c1 := PySem.F.sub_tuple_set
        have c2 := PySem.F.sub_tuple_frozenset
        have c3 : (Value.type "tuple" == Value.type "dict") = false := by decide
        have il : (s.heap.push (obS w)).IsTuple l items := ⟨_, gl2, rfl, nl, rfl⟩
        unfold Builtin.«set.__init__» noKeywords Builtin.Frozenset.updateFrom
        generalize hZ : pyIter = Z
        wp_walk
        subst hZ
        apply wpAny_pyIter_tuple il
        apply wpAny_bind
        apply wpAny_runValue
        have ll : l < s.heap.objs.size := Heap.lt_size gl
        have h3 : A.in1.in1.in1.handled = none := by simp [calm]
        have n1 : l ≠ (s.heap.push (obS w)).objs.size := by
          rw [Heap.size_push]
          exact Nat.ne_of_lt (Nat.lt_succ_of_lt ll)
        have n2 : s.heap.objs.size ∉ [(s.heap.push (obS w)).objs.size, l] := by
          rw [Heap.size_push]
          intro hh
          rcases List.mem_cons.mp hh with hh | hh
          · exact Nat.ne_of_lt (Nat.lt_succ_self _) hh
          · exact Nat.ne_of_gt ll (List.mem_singleton.mp hh)
        refine setM_loop ((Walks.tuple h3 _ l n1 items).toS) s.heap.objs.size n2 ks hn hk room (items.size - 0) 0 _ (by omega) (Nat.zero_le _) ⟨⟨_, Heap.get?_push_size _ rfl, rfl, rfl⟩, il.push _⟩ ?z1 ?z2
        case z1 =>
          have gg : ((s.heap.push (obS w)).push { cls := .type "tuple_iterator", data := .fields #[.ref l, .int 0 0] }).get? s.heap.objs.size = some (obS w) := Heap.get?_push_of_some _ gS
          refine ⟨_, #[], 0, _, gg, ⟨rfl, rfl, rfl⟩, rfl, (fun e he => by simp at he), ?_, ?_, (by decide), (by rfl), List.Pairwise.nil, ?_⟩
          · simp [dedup]
          · simp [dedup]
          · show _ ∨ (!w.params.followText "set-order") = true
            cases w.params.followText "set-order"
            · exact .inr rfl
            · exact .inl rfl
        case z2 =>
          intro t mv so
          obtain ⟨h2, g2, d2, t2, o2⟩ := t
          have q1 : g2 = s.gens := mv.gens
          have q2 : d2 = s.drawn := mv.drawn
          have q3 : o2 = s.os := mv.os
          subst q1 q2 q3
          change wpAny _ _ _ _ _ _
          apply wpAny_pure
          change wpAny _ _ (ret Value.none) _ _ _
          refine wpAny_pure ⟨rfl, h2, t2, rfl, so, fun c o hc e => ?_⟩
          refine mv.heap c o (fun hh => ?_) (Heap.get?_push_of_some _ (Heap.get?_push_of_some _ e))
          rcases List.mem_cons.mp hh with hh | hh
          · exact Nat.ne_of_lt hc hh
          · have hh := List.mem_singleton.mp hh
            rw [Heap.size_push] at hh
            exact Nat.ne_of_lt (Nat.lt_succ_of_lt hc) hh
      · cases r2 with
        | error e => exact hr2
        | ok f2 =>
          cases f2 with
          | next => exact hr2.elim
          | brk => exact hr2.elim
          | cont => exact hr2.elim
          | ret y =>
            obtain ⟨rfl, h2, tk, rfl, so, kp⟩ := hr2
            repeat (any_goals first | assumption | wp_step)
            exact out _ _ so kp
end
def rSSTp : D → (D → Prop) → Prop
  | .tup ds, Q => ds.length + 1 < 4096 ∧ ∃ ys, strsQ ds = some ys ∧ ∀ ws : List (List Nat), ws.Pairwise (· < ·) → (∀ x, x ∈ ws ↔ x ∈ ys) → Q (.lst (ws.map .str))
  | _, _ => False
def dSSTp (ta : TDE) : TDE := fun S Q => ta S fun d => rSSTp d Q
def tSSTp (ta : TE) : TE := fun σ H Q => ta σ H fun x H1 => ∃ l xs, x = .ref l ∧ H1 l = some (.tup xs) ∧ xs.length + 1 < 4096 ∧
   ∃ ys : List (List Nat), xs = (ys.map S2).map V.str ∧ ∀ (ws : List (List Nat)) p, ws.Pairwise (· < ·) → (∀ x, x ∈ ws ↔ x ∈ ys) → H1 p = none → Q (.ref p) (upd H1 p (.lst ((ws.map S2).map V.str)))
section
variable {X : Cx} {a : Expr} {ta : TDE} {pos p p2 q : Pos}
theorem pe_ssT {ta : TE} (hu : X.A.units + 65 < cLine) (hm : X.mg "sorted" = none) (hm2 : X.mg "set" = none) (ha : PE X a ta) (hc : X.calm = true := by rfl) (hg : Gl X "sorted" := by rfl) (hg2 : Gl X "set" := by rfl) (na : starEach [a] X.env = (false, eval a X.env) :: starEach [] X.env := by rfl) :
    PE X (.Call (.Name "sorted" p) [.Call (.Name "set" p2) [a] [] q] [] pos) (tSSTp ta) := by
  constructor
  intro pins s σ H Q I h
  refine Call_ (ld_blt I hg hm (show bootBuiltins "sorted" = some (.builtin "sorted") by decide +kernel) (callWith_builtin1 (args_cons (Call_ (ld_blt I hg2 hm2 boot_set ?_)) rfl) rfl rfl))
  refine callWith_type1 (args_cons (thn (ha.run pins s σ H _ I h) fun v s1 ⟨x, H1, I1, r1, q1⟩ => args_nil ?_) na) na rfl
  obtain ⟨l, xs, rfl, hq, hlen, ys, rfl, q1⟩ := q1
  cases r1
  obtain ⟨its, r, pl, hz⟩ := I1.tuple (.of hq)
  have hsz : its.toArray.size = ((ys.map S2).map V.str).length := by rw [List.size_toArray, ← r.length]
  have fin : ∀ (s2 : Shared) (p : Addr) (os : List Value) (c : Nat) (zs : List V) (h2 : Heap) (tk : Nat), (∀ c o, c < s1.heap.objs.size → s1.heap.get? c = some o → h2.get? c = some o) → s1.heap.objs.size ≤ h2.objs.size → (∀ b o, h2.get? b = some o → s2.heap.get? b = some o) → s2.gens = s1.gens → s2.os = s1.os → h2.objs.size ≤ p → s2.heap.get? p = some (seqObj "list" os.toArray c) → Vals zs os → zs.length ≤ sizeLine → (H1 p = none → Q (.ref p) (upd H1 p (.lst zs))) → EP X pins σ Q (.ref p) s2 := by
    intro s2 p os c zs h2 tk kp hle k2 g2 o2 hp hg hv hl hQ
    have k : ∀ b o, s1.heap.get? b = some o → s2.heap.get? b = some o := fun b o e => k2 b o (kp b o (Heap.lt_size e) e)
    have hp' : s1.heap.objs.size ≤ p := Nat.le_trans hle hp
    have hn : H1 p = none := I1.hok.fresh hp'
    have J : Inv X pins σ (upd H1 p (.lst zs)) { s1 with heap := s2.heap, gens := s2.gens, drawn := s2.drawn, toks := s2.toks } :=
      I1.call (ch := []) (Un.laid k hp' hn) (I1.hok.laid k hp' ⟨hl, os, c, hv, hg⟩) (by rw [g2]; exact I1.bare) (fun _ z => nomatch z)
    have e : s2 = { s1 with heap := s2.heap, gens := s2.gens, drawn := s2.drawn, toks := s2.toks } := by
      cases s2
      cases s1
      cases o2
      rfl
    rw [e]
    exact ⟨.ref p, _, J, rfl, hQ hn⟩
  have hcalm := I1.ok.hd hc
  have hrm : its.toArray.size + 1 < scanBound := by rw [hsz]; exact hlen
  have hnl : ys.length = its.toArray.size := by rw [hsz, List.length_map, List.length_map]
  refine setM_of_tuple hcalm pl (ks := ys.map fun i => (Sum.inr (S2 i) : Key)) (fun i u e => ?_) (by rw [List.length_map]; exact hnl) hrm fun h2 tk so kp => ?_
  · have e' : its[i]? = some u := by simpa using e
    have hi : i < its.length := (List.getElem?_eq_some_iff.mp e').1
    have hi' : i < ys.length := by rw [hnl]; simpa using hi
    obtain ⟨u', e2, ru⟩ := r.get (i := i) (x := .str (S2 ys[i])) (by rw [List.getElem?_map, List.getElem?_map, List.getElem?_eq_getElem hi']; rfl)
    rw [e'] at e2
    cases e2
    obtain ⟨t, rfl⟩ := ru
    exact ⟨.inr (S2 ys[i]), by rw [List.getElem?_map, List.getElem?_eq_getElem hi']; rfl, by simp [keyIs, Value.isStrOf]⟩
  · apply args_nil
    have hle2 := dedup_le (ys.map fun i => (Sum.inr (S2 i) : Key)) []
    simp only [List.length_nil, List.length_map, Nat.zero_add] at hle2
    have hlt : s1.heap.objs.size ≤ h2.objs.size := by
      obtain ⟨o, es, ep, t, ho, _⟩ := so
      exact Nat.le_of_lt (Heap.lt_size ho)
    refine sortedM (s := { s1 with heap := h2, toks := tk }) strOf .str (fun v i => ∃ t, v = Value.str i t) so hcalm (by omega) (by have : (16777216 : Nat) = sizeLine := rfl; rw [← this]; rw [List.length_map, List.length_map] at hlen; omega) (fun k v hk hv => ?_) (fun k v k' v' hk hk' hv hv' => rfl) (fun k v hk hv => ⟨(by intro z; cases z), fun xs z => by cases z⟩) fun s2 p os c vs k2 g2 o2 hp hgt eo pk gk => ?_
    · obtain ⟨i, _, rfl⟩ := keys_s.mp hk
      rcases keyIs_shape hv with ⟨j, t, e, rfl⟩ | ⟨x, t, e, rfl⟩
      · cases e
      · exact ⟨⟨t, rfl⟩, fun h => .str _ _, rfl⟩
    · have eh : PySem.W.dataLe false PyData.str = fun a b : Str => decide (a.cps.toList ≤ b.cps.toList) := PySem.W.dataLe_str (β := Str) fun i => i
      rw [eh] at eo
      have hv := each_strs eo
      have pr : ((vs.map strOf).mergeSort fun a b : Str => decide (a.cps.toList ≤ b.cps.toList)).Perm (vs.map strOf) := List.mergeSort_perm _ _
      have kk : ∀ v ∈ vs, keyM (0, v) = .inr (strOf v) := fun v hv => by
        have hm := pk.mem_iff.mp (List.mem_map.mpr ⟨v, hv, rfl⟩)
        obtain ⟨i, _, e⟩ := keys_s.mp hm
        rcases keyIs_shape (gk v hv) with ⟨j, t, e', rfl⟩ | ⟨x, t, e', rfl⟩
        · rw [e] at e'; cases e'
        · rfl
      have pk' : ((vs.map strOf).map (fun i => (Sum.inr i : Key))).Perm (dedup [] (ys.map fun i => (Sum.inr (S2 i) : Key))) := by
        rw [List.map_map]
        have : vs.map ((fun i => (Sum.inr i : Key)) ∘ strOf) = vs.map fun v => keyM (0, v) := List.map_congr_left fun v hv => (kk v hv).symm
        rw [this]; exact pk
      have nd : (vs.map strOf).Nodup := by
        have := pk'.nodup_iff.mpr (nodup_dedup _ _ List.nodup_nil)
        exact (List.pairwise_map.mp this).imp fun hne e => hne (by rw [e])
      have eS : ∀ l : List Str, (l.map fun x => x.cps.toList).map S2 = l := fun l => by
        rw [List.map_map]
        exact (List.map_congr_left fun x _ => S2_eta x).trans (List.map_id l)
      have ems := eS ((vs.map strOf).mergeSort fun a b : Str => decide (a.cps.toList ≤ b.cps.toList))
      rw [← ems] at hv
      have pw : (((vs.map strOf).mergeSort fun a b : Str => decide (a.cps.toList ≤ b.cps.toList)).map fun x => x.cps.toList).Pairwise (· < ·) := by
        rw [List.pairwise_map]
        refine pw_lt (le := fun a b : Str => decide (a.cps.toList ≤ b.cps.toList) = true) (fun a b h1 h2 => ?_) (List.pairwise_mergeSort (fun a b c h1 h2 => ?_) (fun a b => ?_) _) (pr.nodup_iff.mpr nd)
        · have h1 := of_decide_eq_true h1
          by_cases h : a.cps.toList < b.cps.toList
          · exact h
          · exact (h2 (by rw [← S2_eta a, ← S2_eta b, List.le_antisymm h1 (List.not_lt.mp h)])).elim
        · exact decide_eq_true (List.le_trans (of_decide_eq_true h1) (of_decide_eq_true h2))
        · rw [Bool.or_eq_true, decide_eq_true_eq, decide_eq_true_eq]; exact List.le_total _ _
      refine fin s2 p os c _ h2 tk kp hlt k2 g2 o2 hp hgt hv ?_ fun hn => q1 _ p pw (fun x => ?_) hn
      · rw [List.length_map, List.length_map, List.length_map, List.length_mergeSort]
        have := pk'.length_eq
        rw [List.length_map] at this
        rw [List.length_map, List.length_map] at hlen
        show _ ≤ 16777216
        omega
      · rw [List.mem_map]
        constructor
        · rintro ⟨y, hy, rfl⟩
          obtain ⟨i, hi, e⟩ := keys_s.mp (pk'.mem_iff.mp (List.mem_map.mpr ⟨y, pr.mem_iff.mp hy, rfl⟩))
          have e1 : y = S2 i := by cases e; rfl
          rw [e1]
          exact hi
        · intro hx
          obtain ⟨y, hy, e⟩ := List.mem_map.mp (pk'.mem_iff.mpr (keys_s.mpr ⟨x, hx, rfl⟩))
          have e1 : y = S2 x := by cases e; rfl
          exact ⟨y, pr.mem_iff.mpr hy, by rw [e1]⟩
theorem df_sortedSetTp (hu : X.A.units + 65 < cLine) (hm : X.mg "sorted" = none) (hm2 : X.mg "set" = none) (ha : PE X a (lP ta)) (hc : X.calm = true := by rfl) (hg : Gl X "sorted" := by rfl) (hg2 : Gl X "set" := by rfl) (na : starEach [a] X.env = (false, eval a X.env) :: starEach [] X.env := by rfl) :
    PE X (.Call (.Name "sorted" p) [.Call (.Name "set" p2) [a] [] q] [] pos) (lF (dSSTp ta)) := PE.imp (pe_ssT hu hm hm2 ha hc hg hg2 na) fun σ H Q ⟨g, Qd, s, w, kk⟩ =>
  ⟨g, _, s, w, fun d v H1 w1 x1 s1 r1 => by
    match d, w1, r1 with
    | .tup ds, w1, r1 =>
      obtain ⟨l1, w1⟩ := w1
      obtain ⟨a, xs, rfl, ha, rl⟩ := r1.tup
      obtain ⟨ys, e, w1⟩ := w1
      have e' := strsQ_eq e
      subst e'
      exact ⟨a, xs, rfl, ha, by rw [rl.length]; exact l1, ys, rl.strs, fun ms p h1 h2 hp => kk (.lst (ms.map .str)) p _ (w1 ms h1 h2) (x1.trans (.new hp)) (s1.alloc hp) (x1.none_of hp fun h => s1.fresh hp (res_M h.res)) (s1.fresh hp) (.lst upd_same (RpL.of_strs ms))⟩⟩
end
end L2.DL
namespace L2.DL
open PySem PySem.Spec PyProof.Rows
section
variable {X : Cx}
def rEqN (K : PySem.W.Frag) : R2 := fun x y H Q => ∃ a b xs, x = .ref a ∧ y = .ref b ∧ SqL K H a xs ∧ SqL K H b [] ∧ Q (.bl (decide (xs = []))) H
theorem op_eqN (hu : X.A.units + 64 < cLine) : OpR X (compareOp .Eq) (rEqN X.K) := by
  intro pins s σ H x y v u Q I rx ry h
  obtain ⟨a, b, xs, rfl, rfl, ha, hb, q⟩ := h
  obtain rfl : v = Value.ref a := rx
  obtain rfl : u = Value.ref b := ry
  obtain ⟨its, r1, p1, z1⟩ := I.list ha
  obtain ⟨its2, r2, p2, z2⟩ := I.list hb
  have e2 : its2 = [] := List.length_eq_zero_iff.mp r2.length.symm
  subst e2
  have hl := r1.length
  show wpAny _ _ (richCompare .Eq (.ref a) (.ref b)) _ _ s
  by_cases h0 : xs = []
  · subst h0
    have e1 : its = [] := List.length_eq_zero_iff.mp hl.symm
    subst e1
    exact SeqAt.RcAt.lists p1.isList p2.isList rfl (by omega) (e := fun _ => true) (fun j h1 _ => absurd h1 (Nat.not_lt_zero _)) _ _ _ _ ⟨.bl _, H, I, rfl, q⟩
  · have hn : its ≠ [] := by
      rintro rfl
      exact h0 (List.length_eq_zero_iff.mp hl)
    rw [decide_eq_false h0] at q
    refine SeqAt.RcAt.lists_lengths p1.isList p2.isList ?_ (by omega) _ _ _ _ ⟨.bl _, H, I, rfl, q⟩
    rw [List.size_toArray, List.size_toArray]
    cases its with
    | nil => exact absurd rfl hn
    | cons _ _ => rfl
def rEqNil : RD2 := fun d e Q => ∃ xs, d = .lst xs ∧ e = .lst [] ∧ Q (.bl (decide (xs = [])))
theorem real_eqN {K : PySem.W.Frag} : Real2 (rEqN K) rEqNil := by
  intro g σ H x y d e Qd Q s hx hy w k
  obtain ⟨xs, rfl, rfl, q⟩ := w
  obtain ⟨a, us, rfl, h1, l1⟩ := hx.lst
  obtain ⟨b, vs, rfl, h2, l2⟩ := hy.lst
  cases l2
  refine ⟨a, b, us, rfl, rfl, .of h1, .of h2, ?_⟩
  have e : decide (us = []) = decide (xs = []) := by
    cases l1 <;> rfl
  rw [e]
  exact k.here s q (.bl _)
variable {a b : Expr} {ta tb : TDE} {pos : Pos}
theorem dt_eqN (hu : X.A.units + 64 < cLine) (ha : PE X a (lP ta)) (hb : PE X b (lP tb)) : PT X (.Compare a [.Eq] [b] pos) (lT (dTestB (d2 rEqNil ta tb))) := dt_cmp1 (op_eqN hu) real_eqN ha hb
end
end L2.DL
namespace L2.DL
open PySem PySem.Spec PyProof.Rows
def dAlt (t u : TDE) : TDE := fun S Q => t S Q ∨ u S Q
theorem de_alt {X : Cx} {e : Expr} {t u : TDE} (h1 : PE X e (lE t)) (h2 : PE X e (lE u)) : PE X e (lE (dAlt t u)) :=
  ⟨fun pins s σ H Q I ⟨g, Qd, st, w, k⟩ => by
    rcases w with w | w
    · exact h1.run pins s σ H Q I ⟨g, Qd, st, w, k⟩
    · exact h2.run pins s σ H Q I ⟨g, Qd, st, w, k⟩⟩
def rIsiS (K : PySem.W.Frag) (C : Addr) : RDC
  | [.ins C' _ _, .raw (.ref C'')], Q => (C'' = C ∧ IsX K C' ∧ PySem.W.kitOne K (.ref C') (.ref C) = some true) ∧ Q (.bl true)
  | [d, .raw (.ref C'')], Q => (C'' = C ∧ (tyN d).isSome = true) ∧ Q (.bl false)
  | _, _ => False
theorem real_isiS {K : PySem.W.Frag} {C : Addr} (c : IsX K C) : RealC (rIsi K) (rIsiS K C) := by
  intro g σ H xs ds Qd Q s hx w k
  have hh : (∃ C' ns vs, ds = [.ins C' ns vs, .raw (.ref C)] ∧ IsX K C' ∧ PySem.W.kitOne K (.ref C') (.ref C) = some true ∧ Qd (.bl true)) ∨ ∃ d n, ds = [d, .raw (.ref C)] ∧ tyN d = some n ∧ Qd (.bl false) := by
    unfold rIsiS at w
    split at w
    · obtain ⟨⟨rfl, h1, h2⟩, q⟩ := w
      exact .inl ⟨_, _, _, rfl, h1, h2, q⟩
    · obtain ⟨⟨rfl, q⟩, q'⟩ := w
      obtain ⟨n, hn⟩ := Option.isSome_iff_exists.mp q
      exact .inr ⟨_, n, rfl, hn, q'⟩
    · exact w.elim
  rcases hh with ⟨C', ns, vs, rfl, h1, h2, q⟩ | ⟨d, n, rfl, hn, q⟩
  · obtain ⟨v, v', rfl, h, h'⟩ := hx.two
    obtain ⟨a, dx, fs, rfl, e, _⟩ := Pk.ins h
    obtain rfl := Pk.raw h'
    exact ⟨_, _, .ref C', .ref C, true, rfl, .own _, .base (.ins e h1.cls h1.at_ h1.sp h1.tk h1.mro), h2, k.here s q (.bl _)⟩
  · obtain ⟨v, v', rfl, h, h'⟩ := hx.two
    obtain rfl := Pk.raw h'
    exact ⟨_, _, .type n, .ref C, false, rfl, .own _, h.ty hn, c.kit (tyN_mem hn), k.here s q (.bl _)⟩
/-- a class below another one, by the table of classes -/
theorem kit_sub {K : PySem.W.Frag} {C C' : Addr} (c : IsX K C) (h : PySem.W.subIn K (.ref C') (.ref C) = some true) : PySem.W.kitOne K (.ref C') (.ref C) = some true := by
  unfold PySem.W.kitOne
  by_cases e : (Value.ref C' == Value.ref C) = true
  · rw [if_pos e]
  · rw [if_neg e]
    show (if ((PySem.W.clsIn K C).isSome && PySem.W.typeIn K (.ref C) == some (.type "type")) = true then PySem.W.subIn K (.ref C') (.ref C) else none) = some true
    rw [c.cs, c.ty, if_pos (by simp)]
    exact h
def okOtherA (K : PySem.W.Frag) (C : Addr) : D → Prop
  | .ins C' _ _ => IsX K C' ∧ PySem.W.notFirst K C (.ref C') = true
  | e => (tyN e).isSome = true
theorem other_tyA {K : PySem.W.Frag} {C : Addr} {g : Gh} {H : Hp} {v : V} {e : D} (c : IsX K C) (h : okOtherA K C e) (r : Pk g H v e) : ∃ tb, TyX K H v tb ∧ PySem.W.notFirst K C tb = true := by
  by_cases hi : ∃ C' ns vs, e = .ins C' ns vs
  · obtain ⟨C', ns, vs, rfl⟩ := hi
    obtain ⟨h1, h2⟩ : IsX K C' ∧ PySem.W.notFirst K C (.ref C') = true := h
    obtain ⟨a, dx, fs, rfl, e, _⟩ := Pk.ins r
    exact ⟨.ref C', .base (.ins e h1.cls h1.at_ h1.sp h1.tk h1.mro), h2⟩
  · have h' : (tyN e).isSome = true := by
      cases e <;> first | exact h | exact (hi ⟨_, _, _, rfl⟩).elim
    obtain ⟨n, hn⟩ := Option.isSome_iff_exists.mp h'
    refine ⟨.type n, r.ty hn, ?_⟩
    unfold PySem.W.notFirst
    rw [c.sub n (tyN_mem hn)]
    simp
section
variable {X : Cx} {f : Addr} {fd : FuncData} {ps : List Str} {tf : TDF} {k : Nat} {a b : Expr} {ta tb : TDE} {ts : TDA} {pos p : Pos} {C : Addr}
theorem de_isiS {K : PySem.W.Frag} (c : IsX K C) (hm : X.mg "isinstance" = none) (ha : PA X [a, b] (lAP ts)) (hK : X.K = K := by rfl) (hg : Gl X "isinstance" := by rfl) (he : starEach [a, b] X.env = (false, eval a X.env) :: starEach [b] X.env := by rfl) (hpl : (backTo pos (starEach [b] X.env)).any (·.1) = false := by rfl) : PE X (.Call (.Name "isinstance" p) [a, b] [] pos) (lE (dCall (rIsiS K C) ts)) := by
  subst hK
  exact de_callB call_isi (real_isiS c) hg hm (by decide +kernel) ha (he := he) (hpl := hpl)
def rEqA (X : Cx) (k : Nat) (f : Addr) (tf : TDF) : R2 := fun x y H Q => ∃ C a dx fs tb, EqX X.K C f ∧ x = .ref a ∧ H a = some (.ins C dx fs) ∧ TyX X.K H y tb ∧ PySem.W.notFirst X.K C tb = true ∧ spE 2 tf [x, y] H Q E0
theorem op_eqA (F : FnOk X.prog X.w X.K X.mg X.base CX0 k f fd ps (spE 2 tf)) (hr : Room k X.A) (hb : Binds X.K fd ps []) : OpR X (compareOp .Eq) (rEqA X k f tf) := fun pins s σ H x y v u Q I rx ry ⟨C, a, dx, fs, tb, o, h⟩ => op_eqX o F hr hb pins s σ H x y v u Q I rx ry ⟨a, dx, fs, tb, h⟩
theorem op_neA (F : FnOk X.prog X.w X.K X.mg X.base CX0 k f fd ps (spE 2 tf)) (hr : Room (k + 1) X.A) (hb : Binds X.K fd ps []) : OpR X (compareOp .NotEq) (fun x y H Q => ∃ C a dx fs tb, EqX X.K C f ∧ x = .ref a ∧ H a = some (.ins C dx fs) ∧ TyX X.K H y tb ∧ PySem.W.notFirst X.K C tb = true ∧ spE 2 tf [x, y] H (fun v H' => ∃ r, v = .bl r ∧ Q (.bl (!r)) H') E0) := fun pins s σ H x y v u Q I rx ry ⟨C, a, dx, fs, tb, o, h⟩ => op_neX o F hr hb pins s σ H x y v u Q I rx ry ⟨a, dx, fs, tb, h⟩
def dEqA (K : PySem.W.Frag) (f : Addr) (tf : TDF) (ta tb : TDE) : TDE := fun S Q => ta S fun d => tb S fun e => ∃ C, EqX K C f ∧ (∃ ns vs, d = .ins C ns vs) ∧ okOtherA K C e ∧ tf [d, e] Q
def dNeA (K : PySem.W.Frag) (f : Addr) (tf : TDF) (ta tb : TDE) : TDE := fun S Q => ta S fun d => tb S fun e => ∃ C, EqX K C f ∧ (∃ ns vs, d = .ins C ns vs) ∧ okOtherA K C e ∧ tf [d, e] fun r => ∃ b, r = .bl b ∧ Q (.bl (!b))
theorem de_eqA {K : PySem.W.Frag} (ha : PE X a (lE ta)) (hb : PE X b (lE tb)) (F : FnOk X.prog X.w X.K X.mg X.base CX0 k f fd ps (spE 2 tf)) (hr : Room k X.A) (hbn : ∃ dsv, Vals [] dsv ∧ Binds X.K fd ps dsv) (hK : X.K = K := by rfl) : PE X (.Compare a [.Eq] [b] pos) (lE (dEqA K f tf ta tb)) := by
  subst hK
  obtain ⟨dsv, hv, hbn⟩ := hbn
  cases hv
  exact PE.imp (pe_cmpR (op_eqA F hr hbn) ha hb (nomark _)) fun σ H Q ⟨g, Qd, s, w, kk⟩ =>
    ⟨g, _, s, w, fun d v H1 w1 x1 s1 r1 => ⟨g, _, s1, w1, fun e u H2 w2 x2 s2 r2 => by
      obtain ⟨C, o, ⟨ns, vs, rfl⟩, w2, w3⟩ := w2
      have r1' := r1.ext x2
      obtain ⟨a, dx, fs, rfl, h, _⟩ := Pk.ins (.inl r1')
      obtain ⟨tb, t1, t2⟩ := other_tyA o.isx w2 (.inl r2)
      exact ⟨C, a, dx, fs, tb, o, rfl, h, t1, t2, rfl, g.z, g.M, _, Qd, s2.amb, .cons r1' (.cons r2 .nil), w3, fun d v H' q x b rp => kk d v H' q ((x1.trans x2).trans x) (s2.ext x b) rp⟩⟩⟩
theorem dt_eqA {K : PySem.W.Frag} (ha : PE X a (lE ta)) (hb : PE X b (lE tb)) (F : FnOk X.prog X.w X.K X.mg X.base CX0 k f fd ps (spE 2 tf)) (hr : Room k X.A) (hbn : ∃ dsv, Vals [] dsv ∧ Binds X.K fd ps dsv) (hK : X.K = K := by rfl) : PT X (.Compare a [.Eq] [b] pos) (lT (dTestB (dEqA K f tf ta tb))) := by
  subst hK
  obtain ⟨dsv, hv, hbn⟩ := hbn
  cases hv
  exact PT.imp (pt_cmpR (op_eqA F hr hbn) ha hb (nomark _)) fun σ H Q ⟨g, Qd, s, w, kk⟩ =>
    ⟨g, _, s, w, fun d v H1 w1 x1 s1 r1 => ⟨g, _, s1, w1, fun e u H2 w2 x2 s2 r2 => by
      obtain ⟨C, o, ⟨ns, vs, rfl⟩, w2, w3⟩ := w2
      have r1' := r1.ext x2
      obtain ⟨a, dx, fs, rfl, h, _⟩ := Pk.ins (.inl r1')
      obtain ⟨tb, t1, t2⟩ := other_tyA o.isx w2 (.inl r2)
      exact ⟨C, a, dx, fs, tb, o, rfl, h, t1, t2, rfl, g.z, g.M, _, _, s2.amb, .cons r1' (.cons r2 .nil), w3, fun d v H' q x b rp => by
        obtain ⟨kq, rfl, q⟩ := q
        cases rp
        exact ⟨kq, rfl, kk kq H' q ((x1.trans x2).trans x) (s2.ext x b)⟩⟩⟩⟩
theorem dt_neA {K : PySem.W.Frag} (ha : PE X a (lE ta)) (hb : PE X b (lE tb)) (F : FnOk X.prog X.w X.K X.mg X.base CX0 k f fd ps (spE 2 tf)) (hr : Room (k + 1) X.A) (hbn : ∃ dsv, Vals [] dsv ∧ Binds X.K fd ps dsv) (hK : X.K = K := by rfl) : PT X (.Compare a [.NotEq] [b] pos) (lT (dTestB (dNeA K f tf ta tb))) := by
  subst hK
  obtain ⟨dsv, hv, hbn⟩ := hbn
  cases hv
  exact PT.imp (pt_cmpR (op_neA F hr hbn) ha hb (nomark _)) fun σ H Q ⟨g, Qd, s, w, kk⟩ =>
    ⟨g, _, s, w, fun d v H1 w1 x1 s1 r1 => ⟨g, _, s1, w1, fun e u H2 w2 x2 s2 r2 => by
      obtain ⟨C, o, ⟨ns, vs, rfl⟩, w2, w3⟩ := w2
      have r1' := r1.ext x2
      obtain ⟨a, dx, fs, rfl, h, _⟩ := Pk.ins (.inl r1')
      obtain ⟨tb, t1, t2⟩ := other_tyA o.isx w2 (.inl r2)
      exact ⟨C, a, dx, fs, tb, o, rfl, h, t1, t2, rfl, g.z, g.M, _, _, s2.amb, .cons r1' (.cons r2 .nil), w3, fun d v H' q x b rp => by
        obtain ⟨r, rfl, kq, hk, q⟩ := q
        cases hk
        cases rp
        exact ⟨r, rfl, _, rfl, kk _ H' q ((x1.trans x2).trans x) (s2.ext x b)⟩⟩⟩⟩
end
end L2.DL
namespace L2.DL
open PySem PySem.Spec PyProof.Rows
section
variable {prog : Program} {w : World} {A : Around} {E : Value → Shared → Prop} {s : Shared} {K : PySem.W.Frag} {x y C C2 f f2 : Addr} {ox oy : Obj} {od od2 : Option Obj}
open PySem.W in
theorem binI {op : Operator} {rc rc2 : Option Value} {Q : Value → Shared → Prop} (X : K.In s.heap) (I : InstAt s.heap x ox C od) (J : InstAt s.heap y oy C2 od2) (hc : selfFirst K C = true) (hc2 : selfFirst K C2 = true)
    (hs : findIn K (.ref C) (PySem.dunder op.info.2) = some (some (.ref f))) (hf : isFn K (.ref f) = true) (hr : findIn K (.ref C) (dunderR op.info.2) = some rc) (hp : rc = none ∨ ∃ g : Addr, rc = some (.ref g))
    (hs2 : findIn K (.ref C2) (PySem.dunder op.info.2) = some (some (.ref f2))) (hr2 : findIn K (.ref C2) (dunderR op.info.2) = some rc2) (hp2 : rc2 = none ∨ ∃ g : Addr, rc2 = some (.ref g))
    (hn : notFirst K C (.ref C2) = true)
    (h : wpAny (model prog w) A (call (.ref f) [.ref x, .ref y]) (PySem.W.CmpBack Q) E s) : wpAny (model prog w) A (binaryOp op (.ref x) (.ref y)) Q E s := by
  obtain ⟨cd, rest, hcd, hm⟩ := ksp_first hc
  obtain ⟨cd2, rest2, hcd2, hm2⟩ := ksp_first hc2
  rcases hi : op.info with ⟨sym, nm'⟩
  rw [hi] at hs hr hs2 hr2
  dsimp only at hs hr hs2 hr2
  have one := ksp_try X I hs hf h
  obtain ⟨hh, g, d, tt, os⟩ := s
  have L1 : Looks (model prog w) hh (typeOf (.ref x)) (.ref C) := I.type
  have L2 : Looks (model prog w) hh (typeOf (.ref y)) (.ref C2) := J.type
  have L3 : Looks (model prog w) hh (fillsNumberSlot (.ref C) nm') true := fills_K X hcd hm hs
  simp only [binaryOp, hi]
  refine wpAny_holding (wpAny_bind ?_)
  unfold binaryOp1
  refine wpAny_bind (L1.at (wpAny_bind (L2.at (wpAny_bind (L3.at ?_)))))
  by_cases e : C = C2
  · subst e
    simp only [beq_self_eq_true, if_true]
    ksp_lk
    refine wpAny_mono one (fun r s' hr' => ?_) fun _ _ e => e
    obtain ⟨v, rfl, hq⟩ := hr'
    ksp_lk
    exact hq
  · have hne : (Value.ref C == Value.ref C2) = false := Bool.eq_false_iff.mpr fun q => e (by have := beq_iff_eq.mp q; cases this; rfl)
    have hsub : subIn K (.ref C2) (.ref C) = some false := by
      unfold notFirst at hn
      rcases Bool.or_eq_true_iff.mp hn with q | q
      · exact absurd (by have := beq_iff_eq.mp q; cases this; rfl) e
      · exact beq_iff_eq.mp q
    have L4 : Looks (model prog w) hh (fillsNumberSlot (.ref C2) nm') true := fills_K X hcd2 hm2 hs2
    have L5 : Looks (model prog w) hh (isSubtype (.ref C2) (.ref C)) false := looks_subIn X hsub
    have L6 : Looks (model prog w) hh (numberSlotInPython (.ref C) nm') true := ksp_inPy X hs hr hp
    have L7 : Looks (model prog w) hh (numberSlotInPython (.ref C2) nm') true := ksp_inPy X hs2 hr2 hp2
    simp only [hne, Bool.false_eq_true, if_false]
    ksp_lk
    refine wpAny_mono one (fun r s' hr' => ?_) fun _ _ e => e
    obtain ⟨v, rfl, hq⟩ := hr'
    ksp_lk
    exact hq
end
structure OpI (K : PySem.W.Frag) (C : Addr) (op : Operator) (f : Addr) : Prop where
  first : PySem.W.selfFirst K C = true
  at_ : PySem.W.findIn K (.ref C) (PySem.dunder op.info.snd) = some (some (.ref f))
  fn : PySem.W.isFn K (.ref f) = true
  refl : ∃ rc, PySem.W.findIn K (.ref C) (dunderR op.info.snd) = some rc ∧ (rc = none ∨ ∃ g, rc = some (.ref g))
def dOpI (K : PySem.W.Frag) (op : Operator) (f : Addr) (tf : TDF) (ta tb : TDE) : TDE := fun S Q => ta S fun d => tb S fun e => ∃ C C2, ((∃ ns vs, d = .ins C ns vs) ∧ (∃ ns vs, e = .ins C2 ns vs) ∧ OpI K C op f ∧ OpI K C2 op f ∧ PySem.W.notFirst K C (.ref C2) = true) ∧ tf [d, e] Q
section
variable {X : Cx} {f : Addr} {fd : FuncData} {ps : List Str} {op : Operator} {tf : TDF} {k : Nat} {a b : Expr} {ta tb : TDE} {pos : Pos}
theorem op_inI (F : FnOk X.prog X.w X.K X.mg X.base CX0 k f fd ps (spE 2 tf)) (hr : Room k X.A) (hb : Binds X.K fd ps []) : OpR X (binaryOp op) (fun x y H Q => ∃ C C2 a b dx dx2 fs fs2, OpI X.K C op f ∧ OpI X.K C2 op f ∧ PySem.W.notFirst X.K C (.ref C2) = true ∧ x = .ref a ∧ y = .ref b ∧ H a = some (.ins C dx fs) ∧ H b = some (.ins C2 dx2 fs2) ∧ spE 2 tf [x, y] H Q E0) := by
  intro pins s σ H x y v u Q I rx ry h
  obtain ⟨C, C2, a, b, dx, dx2, fs, fs2, o, o2, hn, rfl, rfl, e, e2, w⟩ := h
  obtain rfl : v = Value.ref a := rx
  obtain rfl : u = Value.ref b := ry
  obtain ⟨ox, od, ia⟩ := instAt_of I.hok e
  obtain ⟨oy, od2, ib⟩ := instAt_of I.hok e2
  obtain ⟨rc, r1, r2⟩ := o.refl
  obtain ⟨rc2, q1, q2⟩ := o2.refl
  refine binI I.kIn ia ib o.first o2.first o.at_ o.fn r1 r2 o2.at_ q1 q2 hn ?_
  exact thn (run_fn (dvs := []) (vs := [.ref a, .ref b]) F hr hb .nil pass0 I (.cons (show RelV (.ref a) (.ref a) from rfl) (.cons (show RelV (.ref b) (.ref b) from rfl) .nil)) w) fun v s' h => back_of h
theorem de_opI {K : PySem.W.Frag} (ha : PE X a (lE ta)) (hb : PE X b (lE tb)) (F : FnOk X.prog X.w X.K X.mg X.base CX0 k f fd ps (spE 2 tf)) (hr : Room k X.A) (hbn : ∃ dsv, Vals [] dsv ∧ Binds X.K fd ps dsv) (hK : X.K = K := by rfl) : PE X (.BinOp a op b pos) (lE (dOpI K op f tf ta tb)) := by
  subst hK
  obtain ⟨dsv, hv, hbn⟩ := hbn
  cases hv
  exact PE.imp (pe_op (op_inI F hr hbn) ha hb) fun σ H Q ⟨g, Qd, s, w, kk⟩ =>
    ⟨g, _, s, w, fun d v H1 w1 x1 s1 r1 => ⟨g, _, s1, w1, fun e u H2 w2 x2 s2 r2 => by
      obtain ⟨C, C2, ⟨⟨ns, vs, rfl⟩, ⟨ns2, vs2, rfl⟩, o, o2, hn⟩, w3⟩ := w2
      have r1' := r1.ext x2
      obtain ⟨a, dx, fs, rfl, h, _⟩ := Pk.ins (.inl r1')
      obtain ⟨b, dx2, fs2, rfl, h2, _⟩ := Pk.ins (.inl r2)
      exact ⟨C, C2, a, b, dx, dx2, fs, fs2, o, o2, hn, rfl, rfl, h, h2, rfl, g.z, g.M, _, Qd, s2.amb, .cons r1' (.cons r2 .nil), w3, fun d v H' q x b rp => kk d v H' q ((x1.trans x2).trans x) (s2.ext x b) rp⟩⟩⟩
def dReprA (K : PySem.W.Frag) (f : Addr) (tf : TDF) (te : TDE) : TDE := fun S Q => ∃ C, Spec1 K C "__repr__" f ∧ dOwn1 (rStrO C tf) te S Q
theorem de_reprA {K : PySem.W.Frag} {e : Expr} {te : TDE} {p : Pos} (he : PE X e (lE te)) (F : FnOk X.prog X.w X.K X.mg X.base CX0 k f fd ps (spE 1 tf)) (hr : Room (k + 1) X.A) (hbn : ∃ dsv, Vals [] dsv ∧ Binds X.K fd ps dsv) (hm : X.mg "repr" = none) (hK : X.K = K := by rfl) (hg : Gl X "repr" := by rfl) (hs : starEach [e] X.env = (false, eval e X.env) :: starEach [] X.env := by rfl) : PE X (.Call (.Name "repr" p) [e] [] pos) (lE (dReprA K f tf te)) := by
  subst hK
  exact ⟨fun pins s σ H Q I ⟨g, Qd, st, ⟨C, o, w⟩, kk⟩ => (de_reprO he o F hr hbn hm hg hs).run pins s σ H Q I ⟨g, Qd, st, w, kk⟩⟩
end
def dsSupA (K : PySem.W.Frag) (Dc : Addr) (m : Str) (g : Addr) (tf : TDF) (i : Nat) (te : TDE) : TDS := fun De S => ∃ C ns vs, S[0]? = some (.val (.ins C ns vs)) ∧ SupTo K C Dc m g ∧ tf [.ins C ns vs] fun d => te S fun e => rAddD d e fun r => De.nx (S.set i (.val r))
end L2.DL
namespace L2.DL
open PySem PySem.Spec PyProof.Rows
structure SupScopeC (N P : List Str) (sc : Scope) : Prop where
  kind : sc.kind = .function
  co : sc.isCoroutine = false
  gen : sc.isGenerator = false
  nd : N.Nodup
  pre : N.take P.length = P
  par : ∀ x ∈ P, sc.names.lookup x = some .local
  noc : ∀ y ∈ sc.names, y.2 = .cell → y.1 ≠ "__class__"
  fre : ∀ y ∈ sc.names, y.2 = .free → y.1 = "__class__"
  cl : sc.names.lookup ("__class__" : Str) = some .free
  su : sc.names.lookup ("super" : Str) = some .globalImplicit
section
variable {M : Model} {A : Around} {E : Value → Shared → Prop} {s₀ s : Shared} {env : Env} {cs : List (Str × Addr)}
theorem bindParamsL (f : Str × Value → PUnit → Sem (ForInStep PUnit)) (hf : ∀ n v u, f (n, v) u = (do storeName env n v; pure (.yield ⟨⟩))) (hk : env.scope.kind = .function) :
    ∀ (binds : List (Str × Value)) (m cm : Str → Option Value) (s : Shared) (Q : PUnit → Shared → Prop), InCallC s₀ env.locals m cs cm s → (∀ x ∈ binds, env.kindOf x.1 = some .local) →
      (∀ s', InCallC s₀ env.locals (bindL env.kindOf binds m) cs cm s' → Q ⟨⟩ s') → wpAny M A (forIn binds ⟨⟩ f) Q E s
  | [], m, cm, s, Q, x, _, h => by rw [List.forIn_nil]; exact wpAny_pure (h s x)
  | (n, v) :: r, m, cm, s, Q, x, hkind, h => by
    rw [List.forIn_cons, hf]
    have hl := hkind (n, v) List.mem_cons_self
    refine wpAny_bind (wpAny_bind ?_)
    refine wpAny_storeName_local hl x.toInCall.ns (fun h' hn' hs' => ?_) (by rw [hk]; rfl)
    have x' : InCallC s₀ env.locals (fun y => if y = n then some v else m y) cs cm { s with heap := h', toks := s.toks + 1 } := by
      refine ⟨⟨?_, hn', fun b o e => ?_, x.toInCall.fresh⟩, fun k c hc => ?_, x.apart, x.above⟩
      · obtain ⟨h₁, tk, rfl⟩ := x.toInCall.same
        exact ⟨h', _, rfl⟩
      · exact hs'.extBut b o (Nat.ne_of_lt (Nat.lt_of_lt_of_le (Heap.lt_size e) x.toInCall.fresh)) (x.toInCall.keep b o e)
      · exact (x.cell k c hc).sameBut hs' (Nat.ne_of_gt (x.above k c (mem_of_lookup hc)))
    refine wpAny_pure (bindParamsL f hf hk r _ _ _ Q x' (fun y hy => hkind y (List.mem_cons_of_mem _ hy)) fun s'' x'' => h s'' ?_)
    unfold bindL
    rw [if_pos hl]
    exact x''
theorem newEnvC {scope : Scope} {globals : Addr} {closure : List (Str × Addr)} {binds : List (Str × Value)} {qual : Str} {func : Option Addr} {code : Value} {builtins : Addr} {Q : Env → Shared → Prop}
    (hk : scope.kind = .function) (hkind : ∀ x ∈ binds, scope.names.lookup x.1 = some .local)
    (hQ : ∀ s', InCallC s s.heap.objs.size (bindL (fun x => scope.names.lookup x) binds fun _ => none) (cellsFrom (s.heap.objs.size + 1) scope.names []) (fun _ => none) s' → Q (newEnv scope s.heap.objs.size globals (cellsFrom (s.heap.objs.size + 1) scope.names closure) qual func code none builtins) s') :
    wpAny M A (newFunctionEnv scope globals closure binds qual func code none builtins) Q E s := by
  simp only [newFunctionEnv, Option.isSome_none, Bool.false_eq_true, if_false]
  refine wpAny_bind (wpAny_alloc ?_)
  refine wpAny_bind (wpAny_layCells _ (fun name kind cells => by cases hkc : kind == NameKind.cell <;> simp [hkc]) _ _ _ _ ?_)
  have ok := cellsFrom_ok scope.names (s.heap.push { cls := .type "frame", data := .dict #[] }) (s.heap.objs.size + 1) [] ⟨fun _ _ hm => (nomatch hm), List.Pairwise.nil⟩ (by rw [Heap.size_push]; exact Nat.le_refl _)
  rw [Heap.size_push] at ok
  rw [show ({ s with heap := s.heap.push { cls := .type "frame", data := .dict #[] } } : Shared).heap.objs.size = s.heap.objs.size + 1 from Heap.size_push ..]
  refine wpAny_bind (bindParamsL (s₀ := s) (cs := cellsFrom (s.heap.objs.size + 1) scope.names []) (env := newEnv scope s.heap.objs.size globals (cellsFrom (s.heap.objs.size + 1) scope.names closure) qual func code none builtins)
    _ (fun _ _ _ => rfl) hk binds (fun _ => none) (fun _ => none) _ _
    ⟨⟨⟨_, _, rfl⟩, (Heap.Ns.new s.heap (.type "frame")).keeps (pushCells_keeps _ _), fun b o e => pushCells_keeps _ _ b o (Heap.get?_push_of_some _ e), Nat.le_refl _⟩,
      fun n c hc => (ok.empty n c (mem_of_lookup hc)).1, ok.apart, fun n c hm => (ok.empty n c hm).2⟩
    hkind fun s' x => wpAny_pure (hQ s' x))
end
/-- whose cells these are -/
theorem own_cell {names : List (Str × NameKind)} {n : Nat} {acc : List (Str × Addr)} {y : Str} {c : Addr} : (y, c) ∈ cellsFrom n names acc → (y, c) ∈ acc ∨ (y, NameKind.cell) ∈ names := by
  induction names generalizing n acc with
  | nil => exact fun h => .inl h
  | cons p r ih =>
    obtain ⟨nm, kd⟩ := p
    intro h
    unfold cellsFrom at h
    split at h
    · rename_i hk
      have hk : kd = .cell := by simpa using hk
      subst hk
      rcases ih h with h | h
      · rcases List.mem_cons.mp h with h | h
        · cases h; exact .inr List.mem_cons_self
        · exact .inl h
      · exact .inr (List.mem_cons_of_mem _ h)
    · rcases ih h with h | h
      · exact .inl h
      · exact .inr (List.mem_cons_of_mem _ h)
theorem cells_app {n : Nat} {names : List (Str × NameKind)} {cl : List (Str × Addr)} : cellsFrom n names cl = cellsFrom n names [] ++ cl := by
  have key : ∀ (names : List (Str × NameKind)) (n : Nat) (acc : List (Str × Addr)), cellsFrom n names (acc ++ cl) = cellsFrom n names acc ++ cl := fun names => by
    induction names with
    | nil => intro n acc; rfl
    | cons p r ih =>
      obtain ⟨nm, kd⟩ := p
      intro n acc
      unfold cellsFrom
      split
      · exact ih (n + 1) ((nm, n) :: acc)
      · exact ih n acc
  exact key names n []
theorem lookup_app {α : Type} {y : Str} {l m : List (Str × α)} : (l ++ m).lookup y = match l.lookup y with | some v => some v | none => m.lookup y := by
  induction l with
  | nil => rfl
  | cons p r ih =>
    obtain ⟨k, v⟩ := p
    rw [List.cons_append, List.lookup_cons, List.lookup_cons]
    cases h : y == k <;> simp [ih]
abbrev envSC (qual : Str) (scope : Scope) (L f cda cc : Addr) : Env := PySem.W.envX qual scope L f (.ref cda) (cellsFrom (L + 1) scope.names [("__class__", cc)])
theorem look_C {scope : Scope} {N P : List Str} (S : SupScopeC N P scope) {L cc : Addr} : (cellsFrom (L + 1) scope.names [("__class__", cc)]).lookup ("__class__" : Str) = some cc := by
  rw [cells_app, lookup_app]
  cases h : (cellsFrom (L + 1) scope.names []).lookup ("__class__" : Str) with
  | none => rfl
  | some c =>
    rcases own_cell (PySem.mem_of_lookup h) with q | q
    · cases q
    · exact absurd rfl (S.noc _ q rfl)
theorem look_C2 {scope : Scope} {L cc c : Addr} {y : Str} (h : (cellsFrom (L + 1) scope.names [("__class__", cc)]).lookup y = some c) : (cellsFrom (L + 1) scope.names []).lookup y = some c ∨ (y = "__class__" ∧ c = cc) := by
  rw [cells_app, lookup_app] at h
  cases q : (cellsFrom (L + 1) scope.names []).lookup y with
  | none => rw [q] at h; exact .inr (cc_look h)
  | some d => rw [q] at h; exact .inl h
def cxSC (CX : CXT) (P : Program) (w : World) (K : PySem.W.Frag) (mg : Str → Option Value) (base : Heap) (N : List Str) (qual : Str) (scope : Scope) (f cda cc : Addr) (A : Around) (outer : List Env) (s : Shared) (H : Hp) (E : XK) : Cx where
  prog := P
  w := w
  K := K
  mg := mg
  base := base
  A := A.deeper (envSC qual scope s.heap.objs.size f cda cc)
  N := N
  s_0 := s
  H_0 := H
  env := envSC qual scope s.heap.objs.size f cda cc
  outer := outer
  stack := envSC qual scope s.heap.objs.size f cda cc :: outer
  ex := []
  calm := true
  fn := fun x => decide (x ≠ "__class__")
  pn := []
  xe := fun e s' => wpAny (model P w) (A.deeper (envSC qual scope s.heap.objs.size f cda cc)) (leaving (envSC qual scope s.heap.objs.size f cda cc) e) (fun _ s'' => CX outer H s E e s'') (fun e' s'' => CX outer H s E e' s'') s'
section
variable {CX : CXT} {P : Program} {w : World} {K : PySem.W.Frag} {mg : Str → Option Value} {base : Heap} {N ps : List Str} {x qual : Str} {params : Arguments} {body : List Stmt} {scope : Scope} {f D cc cda : Addr} {fd : FuncData} {A : Around} {outer : List Env} {s : Shared} {H : Hp} {E : XK} {us : List Value} {vs : List V}
theorem inv_startSC {s1 : Shared} (S : SupScopeC N ps scope) (F : FunS K P x qual params body scope f fd D cc cda) (hd : A.handled = none) (e0 : Env0 P w K mg base A outer s H) (hl : vs.length = ps.length) (r : Vals vs us)
    (x : InCallC s s.heap.objs.size (bindL (fun x => scope.names.lookup x) (ps.zip us) fun _ => none) (cellsFrom (s.heap.objs.size + 1) scope.names []) (fun _ => none) s1) : Inv (cxSC CX P w K mg base N qual scope f cda cc A outer s H E) [] (start N vs) H s1 := by
  obtain ⟨cl, cld, csl, hc⟩ := F.cell
  have hb := e0.mod.kin _ _ hc
  obtain ⟨hs, hH⟩ := e0.bs _ _ hb
  have hpl : ps.length ≤ N.length := by have := congrArg List.length S.pre; rw [List.length_take] at this; omega
  have ndP : ps.Nodup := by rw [← S.pre]; exact S.nd.sublist (List.take_sublist _ _)
  obtain ⟨h1, tk, rfl, kp⟩ := x.done
  have hcc : cc < s.heap.objs.size := Heap.lt_size hs
  refine ⟨⟨e0.mod, S.kind, rfl, rfl, Nat.le_refl _, fun y z c h1 h2 => ?_, fun y hy => ?_, fun y c h1 h2 => ?_, fun _ => hd, Around.frames_deeper e0.frames, .inr ⟨rfl, rfl⟩, fun b z => (nomatch z), e0.bs, e0.bsz, fun b _ _ z => (nomatch z), fun b z => (nomatch z), e0.funs, e0.frf⟩,
    rfl, e0.bare, Un.kept kp, ⟨_, x.toInCall.ns, fun i y v h1 h2 h3 => ?_⟩, fun y c h => ?_, e0.hok.fresh (Nat.le_refl _), fun y c h => ?_, fun p hp => absurd (show p ∈ ([] : List (Addr × Obj)) from hp) (by simp), e0.hok.kept kp, ?_⟩
  · rcases look_C2 h1 with h1 | ⟨e1, e2⟩ <;> rcases look_C2 h2 with h2 | ⟨e3, e4⟩
    · exact name_of_addr x.apart (PySem.mem_of_lookup h1) (PySem.mem_of_lookup h2)
    · exact absurd (Nat.lt_trans (x.above y c (PySem.mem_of_lookup h1)) (e4 ▸ hcc)) (Nat.lt_irrefl _)
    · exact absurd (Nat.lt_trans (x.above z c (PySem.mem_of_lookup h2)) (e2 ▸ hcc)) (Nat.lt_irrefl _)
    · rw [e1, e3]
  · have hy : scope.names.lookup y = some .cell ∨ scope.names.lookup y = some .free := hy
    rcases hy with hy | hy
    · obtain ⟨c, e⟩ := cell_has (n := s.heap.objs.size + 1) hy
      refine ⟨c, ?_⟩
      show (cellsFrom (s.heap.objs.size + 1) scope.names [("__class__", cc)]).lookup y = some c
      rw [cells_app, lookup_app, e]
    · obtain rfl : y = "__class__" := S.fre _ (PySem.mem_of_lookup hy) rfl
      exact ⟨cc, look_C S⟩
  · rcases look_C2 h2 with h2 | ⟨e1, e2⟩
    · exact Nat.le_of_lt (x.above y c (PySem.mem_of_lookup h2))
    · subst e1
      exact absurd h1 (by show ¬ decide (("__class__" : Str) ≠ "__class__") = true; simp)
  · have hi : i < vs.length := by
      unfold start at h2
      by_cases hi : i < vs.length
      · exact hi
      · rw [List.getElem?_append_right (by simpa using hi), List.getElem?_replicate] at h2
        split at h2 <;> cases h2
    have ha : vs[i]? = some v := by
      unfold start at h2
      rw [List.getElem?_append_left (by simpa using hi), List.getElem?_map] at h2
      cases e : vs[i]? with
      | none => rw [e] at h2; cases h2
      | some a => rw [e] at h2; cases h2; rfl
    obtain ⟨u, hu, rv⟩ := r.get ha
    have hp : ps[i]? = some y := by
      rw [← S.pre, List.getElem?_take_of_lt (by omega)]; exact h1
    have hk := S.par y (List.mem_of_getElem? hp)
    exact ⟨u, rv, .inl ⟨hk, bindL_get ndP hp hu hk⟩⟩
  · rcases look_C2 h with h | ⟨e1, e2⟩
    · exact ⟨_, x.cell y c h⟩
    · rw [e2]
      exact ⟨_, _, kp _ _ hs, rfl⟩
  · rcases look_C2 h with h | ⟨e1, e2⟩
    · exact e0.hok.fresh (Nat.le_of_lt (x.above y c (PySem.mem_of_lookup h)))
    · rw [e2]
      exact hH
  · unfold start
    show _ = N.length
    rw [List.length_append, List.length_map, List.length_replicate]
    omega
end
section
variable {CX : CXT} {P : Program} {w : World} {K : PySem.W.Frag} {mg : Str → Option Value} {base : Heap} {N ps : List Str} {x qual : Str} {params : Arguments} {body : List Stmt} {scope : Scope} {f D C g cc cda : Addr} {fd : FuncData} {A : Around} {outer : List Env} {s0 s : Shared} {H0 H : Hp} {E : XK} {pins : List (Addr × Obj)} {σ : St}
theorem super_stepC {p0 p1 : Pos} {m p : Str} {whole : Sem Value} {a dx : Addr} {fs : List (Str × V)} {bd : List Stmt} {EE : Value → Shared → Prop} (S : SupScopeC N (p :: ps) scope) (F : FunS K P x qual params body scope f fd D cc cda) (hp : ∀ kV doc pm an ct, ((PySem.W.ksFn x qual params body scope .none kV doc pm an (.ref cda) ct cc).params.posonlyargs ++ (PySem.W.ksFn x qual params body scope .none kV doc pm an (.ref cda) ct cc).params.args).head?.map (·.arg) = some p) (T : SupTo K C D m g)
    (hm : mg "super" = none) (I : Inv (cxSC CX P w K mg base N qual scope f cda cc A outer s0 H0 E) pins σ H s) (h0 : σ[0]? = some (some (.ref a))) (e : H a = some (.ins C dx fs)) :
    _root_.PySem.wpAt (model P w) (cxSC CX P w K mg base N qual scope f cda cc A outer s0 H0 E).A (.func bd (envSC qual scope s0.heap.objs.size f cda cc)) (attributeBase (.Call (.Name "super" p0) [] [] p1) m (envSC qual scope s0.heap.objs.size f cda cc) whole)
      (fun v s' => ∃ so, v = .ref so ∧ Inv (cxSC CX P w K mg base N qual scope f cda cc A outer s0 H0 E) ((so, PySem.W.ks_superObj D a C) :: pins) σ H s') EE s := by
  obtain ⟨oc, od, kV, doc, pm, an, ct, osl, ccl, cdd, vs, ccs, file, tf, rfl, lk, hcd, lc, hv, hfile⟩ := F.ex
  obtain ⟨cl, cld, csl, hcell⟩ := F.cell
  obtain ⟨cdD, hD⟩ := F.cls
  have hp := hp kV doc pm an ct
  obtain ⟨ar, har, harg⟩ := Option.map_eq_some_iff.mp hp
  have X : K.In s.heap := I.kIn
  obtain ⟨oD, hD1, hD2⟩ : ∃ oD, s.heap.get? D = some oD ∧ oD.data = .cls cdD := by
    unfold PySem.W.clsIn at hD
    split at hD
    · rename_i c d cd' sl ho
      cases hD
      exact ⟨_, X _ _ ho, rfl⟩
    · cases hD
  have hN0 : N[0]? = some p := by
    have := S.pre
    cases N with
    | nil => simp at this
    | cons n N => simp at this; rw [this.1]; rfl
  have hlp := S.par p List.mem_cons_self
  obtain ⟨mm, hns, hloc⟩ := I.loc
  obtain ⟨u, ru, hu⟩ := hloc 0 p _ hN0 h0 (.inl hlp)
  obtain rfl : u = Value.ref a := ru
  have hma : mm p = some (.ref a) := by
    rcases hu with ⟨_, q⟩ | ⟨q, _⟩
    · exact q
    · have q : scope.names.lookup p = some .cell ∨ scope.names.lookup p = some .free := q
      rw [hlp] at q
      rcases q with q | q <;> cases q
  obtain ⟨mA, O, _, _, _, _⟩ := ins_get I.hok e
  obtain ⟨od', J, _⟩ := O.look
  obtain ⟨mb, hb1, hb2⟩ := I.mod.blt
  refine PySem.ks_wpAt_super_base (env := envSC qual scope s0.heap.objs.size f cda cc) S.su S.cl T.nc rfl (X _ _ lk) rfl har rfl (X _ _ lc) rfl hv hfile F.top ?_
  refine PySem.W.ks_loadName_global S.kind S.su (Calls.loadGlobal_builtin (I.mod.glob.keeps I.bk) hm (hb1.keeps I.bk) ((hb2 _ (by decide)).trans (by decide +kernel : bootBuiltins "super" = some (.type "super"))) ⟨rfl, ?_⟩)
  refine wpAny_loadName_free S.kind S.cl (look_C S) ⟨_, X _ _ hcell, rfl⟩ ?_
  rw [harg]
  refine wpAny_loadName_local S.kind hlp hns hma ?_
  refine PySem.ks_wpAny_isType_cls hD1 hD2 ⟨rfl, ?_⟩
  obtain ⟨hh, gg, d, t, os⟩ := s
  refine PySem.ks_wpAny_call_super hD1 hD2 J.at_ J.cls (fun c z => ?_) (PySem.W.looks_mroIn X T.sub) (fun h' e' k => ?_)
  · have := J.no
    unfold PySem.W.notCls at this
    rw [z] at this
    exact Bool.noConfusion this
  · exact ⟨_, rfl, ClX.pin_new (t' := t) I k (Nat.le_refl _) e' (fun v z => nomatch z)⟩
end
section
variable {CX : CXT} {P : Program} {w : World} {K : PySem.W.Frag} {mg : Str → Option Value} {base : Heap} {N ps : List Str} {x qual pv : Str} {params : Arguments} {body : List Stmt} {scope : Scope} {f C D cc cda : Addr} {fd : FuncData} {k n : Nat} {sp : Sp} {tf : TDF}
theorem FunS.okC (F : FunS K P x qual params body scope f fd D cc cda) (S : SupScopeC N ps scope) (len : ∀ vs H Q E, sp vs H Q E → vs.length = ps.length)
    (hb : ∀ (A : Around) (outer : List Env) (s : Shared) (H : Hp) (vs : List V) (Q : VK) (E : XK), Room k (A.deeper (envSC qual scope s.heap.objs.size f cda cc)) → sp vs H Q E → ∃ t, PSq (cxSC CX P w K mg base N qual scope f cda cc A outer s H E) body body t ∧ t { nx := fun _ H' => Q .non H', rt := Q } (start N vs) H) :
    FnOk P w K mg base CX (k + 1) f fd ps sp := by
  have F' := F
  obtain ⟨oc, od, kV, doc, pm, an, ct, osl, ccl, cdd, vs0, ccs, file, tf, rfl, lk, hcd, lc, hv, hfile⟩ := F.ex
  refine ⟨len, fun A outer s H args us vs Q E hr e0 hbt r h => ?_⟩
  have hl := len _ _ _ _ h
  have KX : K.In s.heap := e0.mod.kin.keeps fun b o e => (e0.bs b o e).1
  have lim : s.heap.NoLimit := e0.mod.nolimit.keeps fun b o e => (e0.bs b o e).1
  refine codeAny_call_function hr.depth (KX _ _ lk) rfl S.co S.gen rfl (PySem.W.codeRec_of KX hcd) (hbt _ _ _ _ ?_)
  refine newEnvC S.kind (fun y hy => S.par y.1 (List.of_mem_zip hy).1) fun s1 x => ?_
  refine ⟨lim.keeps x.toInCall.keep, PySem.ks_codeAny_funcAt ?_⟩
  have I := inv_startSC (CX := CX) (E := E) S F' hr.hd e0 hl r x
  obtain ⟨t, ht, hq⟩ := hb A outer s H vs Q E (hr.deeper _) h
  refine PySem.ks_wpAt_mono (ht [] _ _ _ _ I hq) (fun fl s' hs => ?_) fun e s' hs => hs
  have fin : ∀ {σ' : L2.St} {H' : Hp} {v' : V} {u' : Value}, Inv (cxSC CX P w K mg base N qual scope f cda cc A outer s H E) [] σ' H' s' → RelV v' u' → Q v' H' → CE outer P w H s Q u' s' :=
    fun {σ' H' v' u'} J rv' q => ⟨v', H', J.os, J.bare, J.base, J.hok, rv', q⟩
  cases fl with
  | ret u' =>
    obtain ⟨v', σ', H', J, rv', q⟩ := hs
    exact fin J rv' q
  | next =>
    obtain ⟨σ', H', J, q⟩ := hs
    exact fin (v' := V.non) (u' := Value.none) J rfl q
  | brk =>
    obtain ⟨_, _, _, q⟩ := hs
    exact False.elim q
  | cont =>
    obtain ⟨_, _, _, q⟩ := hs
    exact False.elim q
end
theorem ok_SEC {P : Program} {w : World} {K : PySem.W.Frag} {mg : Str → Option Value} {base : Heap} {x qual : Str} {st : Stmt} {f Dc cc cda : Addr} {fd : FuncData} {N ps : List Str} {k : Nat} {n : Nat} {tf : TDF} (F : FunS K P x qual (defArgs st) (defBody st) (defScope st) f fd Dc cc cda) (S : SupScopeC N ps (defScope st)) (hn : ps.length = n)
    (hb : ∀ (A : Around) (outer : List Env) (s : Shared) (H : Hp) (E : XK), Room k (A.deeper (envSC qual (defScope st) s.heap.objs.size f cda cc)) → ∃ t : TDS, PSq (cxSC CX0 P w K mg base N qual (defScope st) f cda cc A outer s H E).nox (defBody st) (defBody st) (lS t) ∧
      ∀ ds Qd, ds.length = n → tf ds Qd → t { nx := fun _ => Qd .non, rt := Qd, rf := Qd } (ds.map .val ++ List.replicate (N.length - n) .no)) : FnOk P w K mg base CX0 (k + 1) f fd ps (spE n tf) := by
  refine F.okC S (fun vs H Q E h => ?_) (fun A outer s H vs Q E hr h => ?_)
  · rw [hn]; exact h.1
  · obtain ⟨hl, z, M, ds, Qd, Am, r, t, k⟩ := h
    obtain ⟨tt, hp, hw⟩ := hb A outer s H E hr
    have hM : Mo M z (fun _ => none) = M := mo_none Am.res
    have hd : ds.length = n := by rw [← r.length]; exact hl
    refine ⟨_, PSq.nox hp, gh0 z M H N ds, { nx := fun _ => Qd .non, rt := Qd, rf := Qd }, stt0 Am r, ?_, ?_⟩
    · have := hw ds Qd hd t
      show tt _ (ds.map .val ++ List.replicate (N.length - ds.length) .no)
      rw [hd]; exact this
    · refine ⟨fun ow S σ H' s' q => k .non .non H' q s'.keep s'.bag .non, fun _ _ _ _ _ q => q.elim, fun _ _ _ _ _ q => q.elim, fun d v H' q x b rp => k d v H' q x b ?_, fun d a H' q x b hn nm o => k d (.ref a) H' q x b ?_, fun _ _ _ _ q => q.elim⟩
      · have rp' : Rp z (Mo M z fun _ => none) H' v d := rp
        rw [hM] at rp'; exact rp'
      · have o' : OwF z (Mo M z fun _ => none) H' a d := o
        have nm' : ¬ Mo M z (fun _ => none) a := nm
        rw [hM] at o' nm'
        exact Ow.rp o' (Tr.of fun _ _ n e => ⟨e, fun q => n (.inl q)⟩) nm'
section
variable {P : Program} {w : World} {K : PySem.W.Frag} {mg : Str → Option Value} {base : Heap} {N ps ps2 : List Str} {x y qual p m : Str} {params : Arguments} {scope : Scope} {f D g cc cda : Addr} {fd fd2 : FuncData} {k i : Nat} {tf : TDF} {te : TDE} {u : TDS} {e : Expr} {p0 p1 ap pos bp py epos : Pos} {pl : Sem Bool} {A : Around} {outer : List Env} {s0 : Shared} {H0 : Hp} {E : XK} {bd body rest : List Stmt}
theorem dq_supAC (F : FunS K P x qual params bd scope f fd D cc cda) (S : SupScopeC N (p :: ps) scope) (hr : Room k (A.deeper (envSC qual scope s0.heap.objs.size f cda cc)))
    (hp : ∀ kV doc pm an ct, ((PySem.W.ksFn x qual params bd scope .none kV doc pm an (.ref cda) ct cc).params.posonlyargs ++ (PySem.W.ksFn x qual params bd scope .none kV doc pm an (.ref cda) ct cc).params.args).head?.map (·.arg) = some p)
    (hm : mg "super" = none) (F2 : FnOk P w K mg base CX0 k g fd2 ps2 (spE 1 tf)) (hb2 : Binds K fd2 ps2 [])
    (hN : N.Nodup) (hi : N[i]? = some y) (hy : Loc scope y)
    (he : PE (cxSC CX0 P w K mg base N qual scope f cda cc A outer s0 H0 E).nox e (lP te))
    (h2 : PSq (cxSC CX0 P w K mg base N qual scope f cda cc A outer s0 H0 E).nox bd rest (lS u))
    (hfn : decide (y ≠ "__class__") = true ∨ scope.names.lookup y = some .local := by first | exact .inl rfl | exact .inr rfl)
    (hs : ∀ L, swapsWith (.BinOp (.Call (.Attribute (.Call (.Name "super" p0) [] [] p1) m ap) [] [] pos) .Add e bp) (some (.Name y py)) epos.line (envSC qual scope L f cda cc) = pure false := by intro; rfl)
    (ht : ∀ env : Env, eval (.Call (.Attribute (.Call (.Name "super" p0) [] [] p1) m ap) [] [] pos) env = (do
      let ov ← attributeBase (.Call (.Name "super" p0) [] [] p1) m env (eval (.Call (.Name "super" p0) [] [] p1) env)
      standAt ap.atName
      let (f, first) ← holding [ov] (getMethod ov m pl)
      callWith pos f first (backTo pos (starEach [] env)) (backToKw pos (keywordEach [] env))) := by intro; rfl) :
    PSq (cxSC CX0 P w K mg base N qual scope f cda cc A outer s0 H0 E).nox bd (.Assign [.Name y py] (.BinOp (.Call (.Attribute (.Call (.Name "super" p0) [] [] p1) m ap) [] [] pos) .Add e bp) epos :: rest) (lS (dsSeq (dsSupA K D m g tf i te) u)) := by
  refine PSq.imp (psq_seq (t := lS (dsSupA K D m g tf i te)) (u := lS u) ?_ h2) fun D σ H ⟨g, De, s, w, l⟩ => ⟨g, { De with nx := u De }, s, w, ⟨fun ow S σ' H' s' q => ⟨{ g with ow := ow, S := S }, De, s', q, l.back⟩, l.bk, l.ct, l.rt, l.rf, l.rg⟩⟩
  intro pins s σ H De0 I ⟨gh, De, st, ⟨C, ns, vs, e0, T, wq⟩, l⟩
  have I : Inv (cxSC CX0 P w K mg base N qual scope f cda cc A outer s0 H0 E) pins σ H s := Inv.unwish I
  obtain ⟨v0, ev0, rp0⟩ := st.val 0 _ e0
  obtain ⟨a, dx, fs, rfl, ea, _⟩ := Pk.ins (.inl rp0)
  show PySem.wpAt (model P w) (A.deeper (envSC qual scope s0.heap.objs.size f cda cc)) (.func _ (envSC qual scope s0.heap.objs.size f cda cc)) (exec _ (envSC qual scope s0.heap.objs.size f cda cc)) _ _ _
  refine PySem.ks_wpAt_Assign_Name (PySem.ks_wpAt_BinOp ?_) (hs _)
  rw [ht]
  refine PySem.wpAt_bind (PySem.ks_wpAt_mono (super_stepC S F hp T hm I ev0 ea) (fun v s1 ⟨so, ev, I1⟩ => ?_) fun _ _ z => z)
  subst ev
  refine PySem.wpAt_of_wpAny (wpAny_bind (wpAny_standAt (wpAny_bind (wpAny_holding ?_))))
  obtain ⟨h1, g1, d1, t1, os1⟩ := s1
  have X1 : K.In h1 := I1.kIn
  obtain ⟨mA, O, _, _, _, _⟩ := ins_get I1.hok ea
  obtain ⟨od', J, _⟩ := O.look
  have hso := ClX.pin_at I1
  have hm2 := T.at_
  cases hcl : PySem.W.clsIn K C with
  | none => unfold PySem.W.ks_superIn at hm2; rw [hcl] at hm2; cases hm2
  | some cd =>
    unfold PySem.W.ks_superIn at hm2
    rw [hcl] at hm2
    obtain ⟨og, hog, hogc⟩ : ∃ og, h1.get? g = some og ∧ og.cls = .type "function" := by
      have ht' : (K.lookup g).map (·.cls) = some (.type "function") := T.ty
      cases z : K.lookup g with
      | none => rw [z] at ht'; cases ht'
      | some og => rw [z] at ht'; exact ⟨og, X1 _ _ z, Option.some.inj ht'⟩
    refine PySem.ks_wpAny_getMethod_super hso (PySem.W.looks_opaque X1 T.any) (l₀ := cd.mro) (fun A Q E s k q => wpAny_bind ((PySem.W.looks_clsIn X1 hcl) A _ E s k (wpAny_pure q))) rfl X1 hm2 hog hogc (PySem.W.ks_ne X1 J hcl) T.nc ?_
    have I2 : Inv (cxSC CX0 P w K mg base N qual scope f cda cc A outer s0 H0 E) ((h1.objs.size, PySem.W.methodObj (.ref g) (.ref a)) :: (so, PySem.W.ks_superObj D a C) :: pins) σ H ⟨h1.push (PySem.W.methodObj (.ref g) (.ref a)), g1, d1, t1 + 1, os1⟩ := ClX.met_new I1
    have Fr2 : FnR P w K mg base CX0 k g (fun vs H Q E => spE 1 tf (vs ++ []) H Q E) := F2.raw hb2 .nil
    have I2' : Inv (cxSC CX0 P w K mg base N qual scope f cda cc A outer s0 H0 E).nox ((h1.objs.size, PySem.W.methodObj (.ref g) (.ref a)) :: (so, PySem.W.ks_superObj D a C) :: pins) σ H ⟨h1.push (PySem.W.methodObj (.ref g) (.ref a)), g1, d1, t1 + 1, os1⟩ := I2.wish _
    refine PySem.W.callWith_M0 ⟨ClX.pin_at I2, I2.kIn⟩ T.fi ?_
    let QQ : VK := fun v H2 => ∃ d, (te gh.S fun e => rAddD d e fun r => De.nx (gh.S.set i (.val r))) ∧ Stt gh σ H2 ∧ Rp gh.z gh.M H2 v d
    have hcall := ClX.run_cm (X := (cxSC CX0 P w K mg base N qual scope f cda cc A outer s0 H0 E).nox) (E := E) (Q := QQ) (us := []) (vs := []) Fr2 hr pass0 I2' .nil
      ⟨rfl, gh.z, gh.M, [.ins C ns vs], _, st.amb, .cons rp0 .nil, wq, fun d v H' q x b rp => ⟨d, q, st.ext x b, rp⟩⟩
    refine wpAny_mono hcall (fun v s4 ⟨v4, H4, I4, rv4, d4, q4, st4, rp4⟩ => ?_) fun _ _ z => z
    have I5 : Inv (cxSC CX0 P w K mg base N qual scope f cda cc A outer s0 H0 E).nox pins σ H4 s4 := ClX.unpin I4
    refine thn (he.run pins s4 σ H4 (fun v2 H5 => ∃ e2, (rAddD d4 e2 fun r => De.nx (gh.S.set i (.val r))) ∧ Stt gh σ H5 ∧ Pk gh H5 v2 e2 ∧ Ext gh.z H4 H5) I5 ⟨gh, _, st4, q4, fun e2 v2 H5 q5 x5 s5 r5 => ⟨e2, q5, s5, r5, x5⟩⟩) fun v2 s5 ⟨w2, H5, I6, rv5, e2, q5, st5, r5, x5⟩ => ?_
    refine thn (op_addAll pins s5 σ H5 v4 w2 v v2 (fun v3 H6 => ∃ r, De.nx (gh.S.set i (.val r)) ∧ Stt gh σ H6 ∧ Rp gh.z gh.M H6 v3 r) I6 rv4 rv5 (real_add gh σ H5 v4 w2 d4 e2 _ _ st5 (.inl (rp4.ext x5)) r5 q5 fun r v3 H6 q x s6 r6 => ⟨r, q, s6, r6⟩)) fun v3 s6 ⟨w3, H6, I7, rv6, r, q6, st6, r6⟩ => ?_
    refine store_ok I7 hN hi hy rv6 (fun s7 I8 => ?_) hfn
    exact l.nx gh.ow _ _ H6 (st6.setVal r6) q6 |> fun z => ⟨_, H6, I8, z⟩
end
end L2.DL
namespace L2.DL.Hk
open PySem PySem.Spec PyProof.Rows L2
section
variable {fb : List (PySem.W.Frag → Bool)} {fn : List DefM} {K : PySem.W.Frag}
theorem defS (c : SaysM fb fn K) (i : Nat) {d : DefM} (h : fn[i]? = some d) {P : Program} {file : Str} (hs : d.sup = some file) (hf : (P.main.file : Str) = file) (ht : (P.main.scope.names.lookup ("super" : Str)).isSome = false) (hd : d.dfl = []) :
    ∃ fd, FunS K P d.name d.qual d.params d.body d.scope (d.at_ K) fd (dsA K (d.at_ K)) (clA K (d.at_ K)) (cdA K (d.at_ K)) ∧ PySem.W.keepIn K (.ref (d.at_ K)) = true := by
  have c2 := (He.ba (show ((fb.all fun f => f K) && fn.all fun d => d.ok K) = true from congrArg (fun z : He.AlD => z.1) c)).2
  have e : fn.map (fun d => fnM K d) = fn.map DefM.val := congrArg (fun z : He.AlD => z.2) c
  have e2 : (fn.map fun d => fnM K d)[i]? = (fn.map DefM.val)[i]? := by rw [e]
  rw [List.getElem?_map, List.getElem?_map, h] at e2
  have e : fnM K d = d.val := Option.some.inj e2
  have c := List.all_eq_true.mp c2 d (List.mem_of_getElem? h)
  obtain ⟨kp, c2⟩ := He.ba c
  obtain ⟨c2, c4⟩ := He.ba c2
  rw [hs] at c4
  have c4 : supB K (d.at_ K) file = true := c4
  obtain ⟨s1, s2⟩ := He.ba c4
  obtain ⟨s2, s3⟩ := He.ba s2
  obtain ⟨s3, s4⟩ := He.ba s3
  unfold fnM at e
  cases q : K.lookup (d.at_ K) with
  | none =>
    rw [q] at c2
    cases c2
  | some o =>
    obtain ⟨oc, od, dt, osl⟩ := o
    rw [q] at c2 e s1
    cases dt with
    | func fd =>
      obtain ⟨n1, n2, n3, n4, n5, n6, n7, n8, n9, n10, n11, n12, n13, n14, n15⟩ := fd
      have e2 : (some (n1, n2, n3, n4, n5, n6, ([] : List (Str × Addr)), n15) : He.FnW) = some (d.name, d.qual, d.params, .stmts d.body, d.scope, mainGlobals, [], builtinsNs) := by
        have e3 : (some (n1, n2, n3, n4, n5, n6, if d.sup.isSome then [] else n7, n15) : He.FnW) = some (d.name, d.qual, d.params, .stmts d.body, d.scope, mainGlobals, [], builtinsNs) := e
        rw [hs] at e3
        exact e3
      simp only [Option.some.injEq, Prod.mk.injEq] at e2
      obtain ⟨h1, h2, h3, h4, h5, h6, _, h8⟩ := e2
      subst h1 h2 h3 h4 h5 h6 h8
      have c3 : (PySem.W.codeIn K n13 d.qual && (He.dflB K n8 d.dfl && He.kwdB K n9 d.kwd)) = true := c2
      obtain ⟨k1, _⟩ := He.ba c3
      obtain ⟨u1, w2⟩ := He.ba (show (decide (n7 = [(("__class__" : Str), clA K (d.at_ K))]) && _) = true from s1)
      obtain ⟨u2, u3⟩ := He.ba (show (decide (n13 = .ref (cdA K (d.at_ K))) && _) = true from w2)
      have u1 := of_decide_eq_true u1
      have u2 := of_decide_eq_true u2
      have u3 : n8 = .none := by
        cases n8 with
        | none => rfl
        | _ => cases u3
      subst u3
      subst u1
      subst u2
      refine ⟨PySem.W.ksFn d.name d.qual d.params d.body d.scope .none n9 n10 n11 n12 (.ref (cdA K (d.at_ K))) n14 (clA K (d.at_ K)), ⟨?_, ?_, ?_, ht⟩, kp⟩
      · cases q2 : K.lookup (cdA K (d.at_ K)) with
        | none => rw [q2] at s2; cases s2
        | some o2 =>
          obtain ⟨c1, c5, dt2, c6⟩ := o2
          rw [q2] at s2
          cases dt2 with
          | fields vs =>
            have s2 : (match (vs[2]? : Option Value) with
              | some (.str g _) => file == g
              | _ => false) = true := s2
            split at s2
            · rename_i g tf ev
              exact ⟨oc, od, n9, n10, n11, n12, n14, osl, c1, c5, vs, c6, g, tf, rfl, q, k1, rfl, ev, by rw [hf]; exact s2⟩
            · cases s2
          | _ => cases s2
      · cases q2 : K.lookup (clA K (d.at_ K)) with
        | none => rw [q2] at s3; cases s3
        | some o2 =>
          obtain ⟨c1, c5, dt2, c6⟩ := o2
          rw [q2] at s3
          cases dt2 with
          | cell v =>
            cases v with
            | none => cases s3
            | some v =>
              cases v with
              | ref D0 =>
                have := of_decide_eq_true s3
                rw [this]
                exact ⟨c1, c5, c6, rfl⟩
              | _ => cases s3
          | _ => cases s3
      · exact Option.isSome_iff_exists.mp s4
    | _ => cases c2
end
end L2.DL.Hk
namespace L2.DL
open PySem PySem.Spec PyProof.Rows
end L2.DL
namespace L2.DL
open PySem PySem.Spec PyProof.Rows
def tk (d : D) : List (Int ⊕ List Nat) := PySem.W.keyToks (toPy d)
theorem wpMap_on {α : Type} {f : D → (List D → Prop) → Prop} {kf : α → D} (g : α → D) : ∀ {L : List α} {Q : List D → Prop}, (∀ x ∈ L, ∀ k : List D → Prop, k [g x] → f (kf x) k) → Q (L.map g) → wpMap f (L.map kf) Q
  | [], Q, _, q => q
  | x :: L, Q, h, q => h x (by simp) _ (wpMap_on g (L := L) (fun y hy => h y (by simp [hy])) q)
end L2.DL
namespace L2.DL.LW
open PySem PySem.Spec PyProof.Rows
theorem bools_map {α : Type} (f : α → Bool) : ∀ xs : List α, bools (xs.map fun x => .bl (f x)) = some (xs.map f)
  | [] => rfl
  | x :: xs => by simp [bools, bools_map f xs]
abbrev abcL : List Nat := [97, 98, 99, 100, 101, 102, 103, 104, 105, 106, 107, 108, 109, 110, 111, 112, 113, 114, 115, 116, 117, 118, 119, 120, 121, 122]
theorem letters_eq : (Str.ofString "abcdefghijklmnopqrstuvwxyz").cps.toList = abcL := by decide +kernel
theorem empty_eq : (Str.ofString "").cps.toList = [] := by decide +kernel
theorem atI_abc {n : Int} (h0 : 0 ≤ n) (h1 : n < 26) : atI abcL n = some (97 + n.toNat) := by
  have key : ∀ k : Fin 26, atI abcL (k.1 : Int) = some (97 + k.1) := by decide +kernel
  have := key ⟨n.toNat, by omega⟩
  rw [Int.toNat_of_nonneg h0] at this
  exact this
def lowL (c : Nat) : Bool := decide (c ∈ abcL)
theorem lowL_iff {c : Nat} : lowL c = true ↔ 97 ≤ c ∧ c ≤ 122 := by
  unfold lowL
  rw [decide_eq_true_iff]
  constructor
  · intro h
    simp only [abcL, List.mem_cons, List.not_mem_nil, or_false] at h
    omega
  · intro h
    have : ∀ k : Fin 26, 97 + k.1 ∈ abcL := by decide +kernel
    have := this ⟨c - 97, by omega⟩
    rwa [show 97 + (c - 97) = c by omega] at this
theorem flat_ones (cs : List Nat) : (cs.map fun c => [c]).flatten = cs := by
  induction cs with
  | nil => rfl
  | cons c cs ih => simp [ih]
theorem sum_ones (cs : List Nat) : ((cs.map fun c => [c]).map fun x : List Nat => x.length).sum = cs.length := by
  induction cs with
  | nil => rfl
  | cons c cs ih => simp at ih ⊢; omega
theorem ones_of {abc : List Nat} : ∀ {rs : List D}, (∀ r ∈ rs, ∃ c ∈ abc, r = .str [c]) → ∃ cs : List Nat, rs = (cs.map fun c => [c]).map D.str ∧ ∀ c ∈ cs, c ∈ abc
  | [], _ => ⟨[], rfl, fun _ h => nomatch h⟩
  | r :: rs, h => by
    obtain ⟨c, hc, rfl⟩ := h r (by simp)
    obtain ⟨cs, rfl, hs⟩ := ones_of (rs := rs) fun r hr => h r (by simp [hr])
    exact ⟨c :: cs, rfl, fun d hd => (List.mem_cons.mp hd).elim (fun e => e ▸ hc) (hs d)⟩
theorem strsD_map : ∀ ys : List (List Nat), strsD (ys.map D.str) = some ys
  | [] => rfl
  | y :: ys => by simp [strsD, strsD_map ys]
theorem joinL_nil : ∀ ys : List (List Nat), joinL [] ys = ys.flatten
  | [] => rfl
  | [x] => by simp [joinL]
  | x :: y :: r => by simp [joinL, joinL_nil (y :: r)]
def lenOk : D → Prop
  | .str s => s.length ≤ sizeLine
  | _ => True
instance (d : D) : Decidable (lenOk d) := by
  cases d <;> unfold lenOk <;> infer_instance
def isWordD : D → Int → Bool
  | .str s, m => decide ((s.length : Int) ≤ m) && s.all lowL
  | _, _ => false
def isAlphaD : D → Bool
  | .str [x] => lowL x
  | .str [x, y] => lowL x && lowL y && decide (x < y)
  | .str [x, y, z] => lowL x && lowL y && lowL z && decide (x < y) && decide (y < z)
  | _ => false
def LowS (s : List Nat) : Prop := ∀ c ∈ s, lowL c = true
theorem deqv_str (x y : List Nat) : deqv (.str x) (.str y) = decide (x = y) := by
  show PyData.eqv _ _ = _
  simp only [toPy, PyData.eqv]
  by_cases h : x = y <;> simp [h]
/-- a transition: source, letter, target, safe -/
structure Row where
  s : Nat
  l : Nat
  t : Nat
  w : Bool
deriving DecidableEq
def keysA (al : List Nat) (n : Nat) : List (Nat × Nat) := (List.range n).flatMap fun s => al.map fun l => (s, l)
def atA (rs : List Row) (k : Nat × Nat) : List Row := rs.filter fun r => decide ((r.s, r.l) = k)
/-- what __init__ asks -/
structure GoodA (al : List Nat) (n : Nat) (i : Nat) (rs : List Row) : Prop where
  alp : isAlphaD (.str al) = true
  lo : 1 ≤ n
  hi : n ≤ 65
  len : rs.length ≤ 80000
  src : ∀ r ∈ rs, r.s < n
  let' : ∀ r ∈ rs, r.l ∈ al
  tgt : ∀ r ∈ rs, r.t < n
  nd : (rs.map fun r => (r.s, r.l, r.t)).Nodup
  full : ∀ k ∈ keysA al n, atA rs k ≠ []
  ini : i < n
theorem alpha_len {s : List Nat} (h : isAlphaD (.str s) = true) : s.length ≤ 3 := by
  match s, h with
  | [_], _ => simp
  | [_, _], _ => simp
  | [_, _, _], _ => simp
theorem keysA_succ (al : List Nat) (n : Nat) : keysA al (n + 1) = keysA al n ++ al.map fun l => (n, l) := by
  simp [keysA, List.range_succ]
theorem keysA_mem {al : List Nat} {n : Nat} {k : Nat × Nat} : k ∈ keysA al n ↔ k.1 < n ∧ k.2 ∈ al := by
  obtain ⟨a, b⟩ := k
  simp only [keysA, List.mem_flatMap, List.mem_range, List.mem_map, Prod.mk.injEq]
  constructor
  · rintro ⟨s, hs, l, hl, rfl, rfl⟩
    exact ⟨hs, hl⟩
  · rintro ⟨h1, h2⟩
    exact ⟨a, h1, b, h2, rfl, rfl⟩
theorem alpha_nd {s : List Nat} (h : isAlphaD (.str s) = true) : s.Nodup := by
  match s, h with
  | [_], _ => simp
  | [x, y], h => simp [isAlphaD] at h; simp; omega
  | [x, y, z], h => simp [isAlphaD] at h; simp; omega
theorem alpha_lowS {s : List Nat} (h : isAlphaD (.str s) = true) : LowS s := by
  unfold LowS
  match s, h with
  | [_], h => simpa [isAlphaD] using h
  | [x, y], h => simp [isAlphaD] at h; simp [h]
  | [x, y, z], h => simp [isAlphaD] at h; simp [h]
end L2.DL.LW
namespace L2.DL.LW
open PySem PySem.Spec PyProof.Rows
end L2.DL.LW
namespace L2.DL.LW
open PySem PySem.Spec PyProof.Rows
structure Part (n : Nat) (g : Bool) (ks : List (Nat × Nat)) (rs : List Row) : Prop where
  key : ∀ r ∈ rs, (r.s, r.l) ∈ ks
  tgt : ∀ r ∈ rs, r.t < n
  nd : (rs.map fun r => (r.s, r.l, r.t)).Nodup
  full : ∀ k ∈ ks, atA rs k ≠ []
  det : g = false → ∀ k ∈ ks, (atA rs k).length = 1
  len : rs.length ≤ 3 * ks.length
  three : ∀ k ∈ ks, (atA rs k).length ≤ 3
theorem Part.nil {n : Nat} {g : Bool} : Part n g [] [] := ⟨by simp, by simp, by simp, by simp, by simp, by simp, by simp⟩
theorem mem_atA {rs : List Row} {k : Nat × Nat} {r : Row} : r ∈ atA rs k ↔ r ∈ rs ∧ (r.s, r.l) = k := by
  simp [atA, List.mem_filter]
theorem atA_ne {rs : List Row} {k : Nat × Nat} : atA rs k ≠ [] ↔ ∃ r ∈ rs, (r.s, r.l) = k := by
  constructor
  · intro h
    obtain ⟨r, hr⟩ := List.exists_mem_of_ne_nil _ h
    exact ⟨r, mem_atA.mp hr⟩
  · rintro ⟨r, hr⟩ e
    have := mem_atA.mpr hr
    rw [e] at this
    simp at this
theorem GoodA.more {al : List Nat} {n i : Nat} {rs : List Row} (g : GoodA al n i rs) (hn : n + 1 ≤ 65) (h5 : rs.length + 3 ≤ 80000) : GoodA al (n + 1) i (rs ++ al.map fun l => Row.mk n l 0 true) where
  alp := g.alp
  lo := by omega
  hi := hn
  len := by
    have := alpha_len g.alp
    simp
    omega
  src := fun r hr => (List.mem_append.mp hr).elim (fun h => by have := g.src r h; omega) fun h => by
    obtain ⟨l, _, rfl⟩ := List.mem_map.mp h
    show n < n + 1
    omega
  let' := fun r hr => (List.mem_append.mp hr).elim (g.let' r) fun h => by
    obtain ⟨l, hl, rfl⟩ := List.mem_map.mp h
    exact hl
  tgt := fun r hr => (List.mem_append.mp hr).elim (fun h => by have := g.tgt r h; omega) fun h => by
    obtain ⟨l, _, rfl⟩ := List.mem_map.mp h
    show 0 < n + 1
    omega
  nd := by
    rw [List.map_append, List.nodup_append]
    refine ⟨g.nd, ?_, fun x hx y hy e => ?_⟩
    · rw [List.map_map]
      exact List.pairwise_map.mpr ((alpha_nd g.alp).imp fun q e => q (by simpa using e))
    · subst e
      obtain ⟨r, hr, rfl⟩ := List.mem_map.mp hx
      rw [List.map_map] at hy
      obtain ⟨l, _, e⟩ := List.mem_map.mp hy
      have := g.src r hr
      simp at e
      omega
  full := fun k hk => by
    rw [keysA_succ] at hk
    rw [atA_ne]
    rcases List.mem_append.mp hk with h | h
    · obtain ⟨r, hr, e⟩ := atA_ne.mp (g.full k h)
      exact ⟨r, List.mem_append_left _ hr, e⟩
    · obtain ⟨l, hl, rfl⟩ := List.mem_map.mp h
      exact ⟨⟨n, l, 0, true⟩, List.mem_append_right _ (List.mem_map_of_mem hl), rfl⟩
  ini := by have := g.ini; omega
theorem wpMap_onF {α : Type} {f : D → (List D → Prop) → Prop} {kf : α → D} (g : α → List D) : ∀ {L : List α} {Q : List D → Prop}, (∀ x ∈ L, ∀ k : List D → Prop, k (g x) → f (kf x) k) → Q (L.flatMap g) → wpMap f (L.map kf) Q
  | [], Q, _, q => q
  | x :: L, Q, h, q => by
    unfold wpMap
    refine h x (by simp) _ (wpMap_onF g (L := L) (fun y hy => h y (by simp [hy])) ?_)
    simpa using q
theorem fn_alphabet_size : (("alphabet" : Str) = "size") = False := by decide +kernel
theorem fn_alphabet_initial : (("alphabet" : Str) = "initial") = False := by decide +kernel
theorem fn_alphabet_own_moves : (("alphabet" : Str) = "own_moves") = False := by decide +kernel
theorem fn_size_alphabet : (("size" : Str) = "alphabet") = False := by decide +kernel
theorem fn_size_initial : (("size" : Str) = "initial") = False := by decide +kernel
theorem fn_size_own_moves : (("size" : Str) = "own_moves") = False := by decide +kernel
theorem fn_initial_alphabet : (("initial" : Str) = "alphabet") = False := by decide +kernel
theorem fn_initial_size : (("initial" : Str) = "size") = False := by decide +kernel
theorem fn_initial_own_moves : (("initial" : Str) = "own_moves") = False := by decide +kernel
theorem fn_own_moves_alphabet : (("own_moves" : Str) = "alphabet") = False := by decide +kernel
theorem fn_own_moves_size : (("own_moves" : Str) = "size") = False := by decide +kernel
theorem fn_own_moves_initial : (("own_moves" : Str) = "initial") = False := by decide +kernel
theorem GoodA.pos {al : List Nat} {n i : Nat} {rs : List Row} (g : GoodA al n i rs) : 0 < rs.length := by
  have : ∃ l, l ∈ al := by
    have := g.alp
    match al, this with
    | x :: _, _ => exact ⟨x, by simp⟩
  obtain ⟨l, hl⟩ := this
  have h := g.full (0, l) (keysA_mem.mpr ⟨by have := g.lo; omega, hl⟩)
  obtain ⟨r, hr, _⟩ := atA_ne.mp h
  exact List.length_pos_of_mem hr
theorem cut_take' {α : Type} (l : List α) (k : Nat) : cut l none (some (k : Int)) = l.take k := by
  have e : HT.sIx l.length l.length (some (k : Int)) = min k l.length := by
    simp only [HT.sIx]
    rw [if_neg (by omega)]
    simp
  have e0 : HT.sIx l.length 0 none = 0 := rfl
  unfold cut
  rw [e0, e]
  simp
theorem deqv_int (x y : Int) : deqv (.int x) (.int y) = decide (x = y) := by
  show PyData.eqv _ _ = _
  simp only [toPy, PyData.eqv]
  by_cases h : x = y <;> simp [h]
theorem ati0 {α : Type} {x : α} {r : List α} : atI (x :: r) 0 = some x := atI_nat (j := 0) rfl
theorem ati1 {α : Type} {x y : α} {r : List α} : atI (x :: y :: r) 1 = some y := atI_nat (j := 1) rfl
theorem ati2 {α : Type} {x y z : α} {r : List α} : atI (x :: y :: z :: r) 2 = some z := atI_nat (j := 2) rfl
theorem ati3 {α : Type} {x y z w : α} {r : List α} : atI (x :: y :: z :: w :: r) 3 = some w := atI_nat (j := 3) rfl
end L2.DL.LW
namespace L2.DL.LW
open PySem PySem.Spec PyProof.Rows
theorem iteAnd {Q : D → Prop} {a b : Bool} : (if a = true then Q (.bl b) else Q (.bl false)) = Q (.bl (a && b)) := by cases a <;> simp
theorem iteOr {Q : D → Prop} {a b : Bool} : (if a = true then Q (.bl true) else Q (.bl b)) = Q (.bl (a || b)) := by cases a <;> simp
theorem ex_eq {α : Sort u} {a : α} {p : α → Prop} : (∃ x, a = x ∧ p x) ↔ p a := ⟨fun ⟨_, e, h⟩ => e ▸ h, fun h => ⟨a, rfl, h⟩⟩
local macro_rules | `(tactic| walk_at "ev") => `(tactic| simp only [dsNil, dsSeq, dsDrop, dsRet, dsRetF, dsRetN, dsRetO, dsIf, dsSet, dsOwn, dsFrz, dsPar, dsMul, setK, dkE, dkF, dkNil, rLenSet, rSortD, rMaxD, dFnK, dsAug, augD, dsApp, dsAsg, dsFor, dsBreak, dsCont, dgName, dgTup, dgCons, dgNil, dVar, dPeek, dC, d1, d2, d3, dAnd, dOr, dNot, dTest, dTestB, truD, dtAnd, dtOr, dtNot, dIf, dLst, dTup, dCall, dFn, daCons, daNil, rAddD, rMulD, rMulF, rII, rEqDD, rNeDD, rOrdD, rInDD, rIxD, rSlD, dSl, dSlF, doSome, doNone, rLenD, rIntD, rMM, rAllD, rListD, rTupD, rStrI, rIsiD, rIsiLT, rNegD, dJoin, rJoinD, diSeq, diRng1, diRng2, diEnum, diZip, itemsD, dLc, lcF, dtsNil, dLc2, lcF2, Sl.dat, tyN, isNon, knownD, isIntD, isBoolD, isStrD, isListD, isTupD, isSeqD,
  List.getElem?_cons_succ, List.getElem?_cons_zero, List.set_cons_succ, List.set_cons_zero, List.cons_append, List.nil_append, List.append_nil, List.replicate_succ, List.replicate_zero, List.length_cons, List.length_nil, Nat.reduceAdd, Nat.reduceSub, Int.reduceToNat, Int.reducePow, wipeS, List.map_cons, List.map_nil, Option.bind_some, Option.some.injEq, D.int.injEq, D.bl.injEq, D.str.injEq, D.lst.injEq, D.tup.injEq, Sl.val.injEq, Sl.own.injEq, List.cons.injEq, and_true, true_and, ex_eq, exists_eq_left, exists_eq_left', exists_eq, exists_eq', and_assoc, exists_and_left, if_true, if_false, ite_true, ite_false, Bool.false_eq_true, Bool.not_true, Bool.not_false, reduceCtorEq, ↓reduceIte, Option.isSome_some, Option.isSome_none, false_and, and_false, exists_false, D.ins.injEq, D.raw.injEq, V.ref.injEq, eq_self, dFld, dsFld, dMeth, dOp2, dRadd, dGet, dEqI, rIsiC, rIsiX, dFmt, dFmtR, dJoined, dJs, dOwn1, rStrO, rLenO, rReprS, rListS, dSS, rSS, dEqX, dNeX, okOther, dsDput, dGetR, dInR, dsFrzL, dLk, diKeys, dDc, dcF, dDc2, dcF2, dsIns, rEqDic, rLenDic, D.dic.injEq, id, getF, putN, putV, permL_cons, permL_nil, Option.toList_some, iteAnd, iteOr, wpFor, wpMap])
local macro_rules | `(tactic| walk_at "yes") => `(tactic| repeat (refine ⟨by first | decide | decide +kernel | omega, ?_⟩))
local macro_rules | `(tactic| walk_at "sd") => `(tactic| first | omega | (show _ ≤ 16777216; omega) | (show _ < 16777216; omega) | (show _ ≤ 16777216; simp only [repL_length, List.length_append, List.length_map, List.length_range, List.length_cons, List.length_nil, List.length_drop, List.length_take, Int.reduceToNat]; omega) | (show _ < 16777216; simp only [repL_length, List.length_append, List.length_map, List.length_range, List.length_cons, List.length_nil, List.length_drop, List.length_take, Int.reduceToNat]; omega) | (simp only [repL_length, List.length_append, List.length_map, List.length_range, List.length_cons, List.length_nil, List.length_drop, List.length_take, Int.reduceToNat]; omega) | decide | with_reducible assumption)
local macro_rules | `(tactic| walk_at "au") => `(tactic| repeat (refine ⟨by walk_at "sd", ?_⟩))
local macro_rules | `(tactic| walk_at "tg") => `(tactic| simp only [dgName, dgTup, dgCons, dgNil, itemsD, List.set_cons_succ, List.set_cons_zero, Option.some.injEq, D.tup.injEq, exists_eq_left', List.cons.injEq, and_true, true_and, List.length_cons, List.length_nil, Nat.reduceAdd])
local macro_rules | `(tactic| walk_at "lm") => `(tactic| simp only [lamS, wipeO, List.map_cons, List.map_nil, List.set_cons_succ, List.set_cons_zero])
abbrev N__law_draws : List Str := ["_law_script", "_law_seed", "_law_cell"]
theorem sc__law_draws : FnScope N__law_draws ["_law_script"] (defScope s__law_draws) := ⟨rfl, rfl, rfl, by decide +kernel, rfl, by decide +kernel, by decide +kernel⟩
abbrev N__law_pull : List Str := ["_law_bag", "_law_sides", "_law_cell", "_law_digit", "_law_seed"]
theorem sc__law_pull : FnScope N__law_pull ["_law_bag", "_law_sides"] (defScope s__law_pull) := ⟨rfl, rfl, rfl, by decide +kernel, rfl, by decide +kernel, by decide +kernel⟩
abbrev N__law_any : List Str := ["_law_bag", "_law_rows"]
theorem sc__law_any : FnScope N__law_any ["_law_bag", "_law_rows"] (defScope s__law_any) := ⟨rfl, rfl, rfl, by decide +kernel, rfl, by decide +kernel, by decide +kernel⟩
abbrev N_is_word : List Str := ["value", "most", "letter"]
theorem sc_is_word : FnScope N_is_word ["value", "most"] (defScope s_is_word) := ⟨rfl, rfl, rfl, by decide +kernel, rfl, by decide +kernel, by decide +kernel⟩
abbrev N_is_name : List Str := ["value"]
theorem sc_is_name : FnScope N_is_name ["value"] (defScope s_is_name) := ⟨rfl, rfl, rfl, by decide +kernel, rfl, by decide +kernel, by decide +kernel⟩
abbrev N_Wish___init__ : List Str := ["self", "parts", "last", "part", "token"]
theorem sc_Wish___init__ : FnScope N_Wish___init__ ["self", "parts", "last"] (defScope s_Wish___init__) := ⟨rfl, rfl, rfl, by decide +kernel, rfl, by decide +kernel, by decide +kernel⟩
abbrev N_Never___init__ : List Str := ["self", "words", "word"]
theorem sc_Never___init__ : SupScope N_Never___init__ ["self", "words"] (defScope s_Never___init__) := ⟨rfl, rfl, rfl, by decide +kernel, rfl, by decide +kernel, by decide +kernel, by decide +kernel, by decide +kernel, by decide +kernel⟩
abbrev N_Blocks___init__ : List Str := ["self", "words", "word"]
theorem sc_Blocks___init__ : SupScope N_Blocks___init__ ["self", "words"] (defScope s_Blocks___init__) := ⟨rfl, rfl, rfl, by decide +kernel, rfl, by decide +kernel, by decide +kernel, by decide +kernel, by decide +kernel, by decide +kernel⟩
abbrev N_Behind___init__ : List Str := ["self", "word", "part"]
theorem sc_Behind___init__ : SupScope N_Behind___init__ ["self", "word", "part"] (defScope s_Behind___init__) := ⟨rfl, rfl, rfl, by decide +kernel, rfl, by decide +kernel, by decide +kernel, by decide +kernel, by decide +kernel, by decide +kernel⟩
abbrev N_Both___init__ : List Str := ["self", "one", "other"]
theorem sc_Both___init__ : SupScope N_Both___init__ ["self", "one", "other"] (defScope s_Both___init__) := ⟨rfl, rfl, rfl, by decide +kernel, rfl, by decide +kernel, by decide +kernel, by decide +kernel, by decide +kernel, by decide +kernel⟩
abbrev N_Either___init__ : List Str := ["self", "one", "other"]
theorem sc_Either___init__ : SupScope N_Either___init__ ["self", "one", "other"] (defScope s_Either___init__) := ⟨rfl, rfl, rfl, by decide +kernel, rfl, by decide +kernel, by decide +kernel, by decide +kernel, by decide +kernel, by decide +kernel⟩
abbrev N_Named___init__ : List Str := ["self", "name"]
theorem sc_Named___init__ : SupScope N_Named___init__ ["self", "name"] (defScope s_Named___init__) := ⟨rfl, rfl, rfl, by decide +kernel, rfl, by decide +kernel, by decide +kernel, by decide +kernel, by decide +kernel, by decide +kernel⟩
abbrev N_Wish_text : List Str := ["self"]
theorem sc_Wish_text : FnScope N_Wish_text ["self"] (defScope s_Wish_text) := ⟨rfl, rfl, rfl, by decide +kernel, rfl, by decide +kernel, by decide +kernel⟩
abbrev N_words_token : List Str := ["token", "stack", "head", "_", "tail", "words", "word"]
theorem sc_words_token : FnScope N_words_token ["token", "stack"] (defScope s_words_token) := ⟨rfl, rfl, rfl, by decide +kernel, rfl, by decide +kernel, by decide +kernel⟩
abbrev N_token_read : List Str := ["token", "stack", "one", "other"]
theorem sc_token_read : FnScope N_token_read ["token", "stack"] (defScope s_token_read) := ⟨rfl, rfl, rfl, by decide +kernel, rfl, by decide +kernel, by decide +kernel⟩
abbrev N_read_wish : List Str := ["text", "tokens", "stack", "at", "token", "late"]
theorem sc_read_wish : FnScope N_read_wish ["text"] (defScope s_read_wish) := ⟨rfl, rfl, rfl, by decide +kernel, rfl, by decide +kernel, by decide +kernel⟩
abbrev N__law_alphabet : List Str := ["_law_bag", "_law_most", "_law_abc", "_law_many", "_law_first", "_law_second", "_law_at"]
theorem sc__law_alphabet : FnScope N__law_alphabet ["_law_bag", "_law_most"] (defScope s__law_alphabet) := ⟨rfl, rfl, rfl, by decide +kernel, rfl, by decide +kernel, by decide +kernel⟩
abbrev N__law_word : List Str := ["_law_bag", "_law_alphabet_here", "_law_low", "_law_high", "_law_k"]
theorem sc__law_word : FnScope N__law_word ["_law_bag", "_law_alphabet_here", "_law_low", "_law_high"] (defScope s__law_word) := ⟨rfl, rfl, rfl, by decide +kernel, rfl, by decide +kernel, by decide +kernel⟩
abbrev N__law_words : List Str := ["_law_bag", "_law_alphabet_here", "_law_most", "_law_k"]
theorem sc__law_words : FnScope N__law_words ["_law_bag", "_law_alphabet_here", "_law_most"] (defScope s__law_words) := ⟨rfl, rfl, rfl, by decide +kernel, rfl, by decide +kernel, by decide +kernel⟩
abbrev N__law_leaf : List Str := ["_law_bag", "_law_alphabet_here", "_law_most", "_law_names_here", "_law_way"]
theorem sc__law_leaf : FnScope N__law_leaf ["_law_bag", "_law_alphabet_here", "_law_most", "_law_names_here"] (defScope s__law_leaf) := ⟨rfl, rfl, rfl, by decide +kernel, rfl, by decide +kernel, by decide +kernel⟩
abbrev N__law_tree : List Str := ["_law_bag", "_law_alphabet_here", "_law_most", "_law_names_here", "_law_line", "_law_turn", "_law_k"]
theorem sc__law_tree : FnScope N__law_tree ["_law_bag", "_law_alphabet_here", "_law_most", "_law_names_here"] (defScope s__law_tree) := ⟨rfl, rfl, rfl, by decide +kernel, rfl, by decide +kernel, by decide +kernel⟩
abbrev N__law_tokens : List Str := ["_law_tree_here"]
theorem sc__law_tokens : FnScope N__law_tokens ["_law_tree_here"] (defScope s__law_tokens) := ⟨rfl, rfl, rfl, by decide +kernel, rfl, by decide +kernel, by decide +kernel⟩
abbrev N__law_mixed : List Str := ["_law_bag", "_law_rows", "_law_found", "_law_row"]
theorem sc__law_mixed : FnScope N__law_mixed ["_law_bag", "_law_rows"] (defScope s__law_mixed) := ⟨rfl, rfl, rfl, by decide +kernel, rfl, by decide +kernel, by decide +kernel⟩
abbrev N__law_names : List Str := ["_law_bag", "_law_many", "_law_stem", "_law_at", "_law_tails", "_law_tail", "_law_k"]
theorem sc__law_names : FnScope N__law_names ["_law_bag", "_law_many"] (defScope s__law_names) := ⟨rfl, rfl, rfl, by decide +kernel, rfl, by decide +kernel, by decide +kernel⟩
abbrev N_Wish_tokens : List Str := ["self"]
theorem sc_Wish_tokens : FnScope N_Wish_tokens ["self"] (defScope s_Wish_tokens) := ⟨rfl, rfl, rfl, by decide +kernel, rfl, by decide +kernel, by decide +kernel⟩
abbrev N_Wish_names : List Str := ["self", "token"]
theorem sc_Wish_names : FnScope N_Wish_names ["self"] (defScope s_Wish_names) := ⟨rfl, rfl, rfl, by decide +kernel, rfl, by decide +kernel, by decide +kernel⟩
abbrev N_Words_needed : List Str := ["self", "letter"]
theorem sc_Words_needed : FnScope N_Words_needed ["self"] (defScope s_Words_needed) := ⟨rfl, rfl, rfl, by decide +kernel, rfl, by decide +kernel, by decide +kernel⟩
abbrev N_Wish_needed : List Str := ["self", "found", "part", "letter"]
theorem sc_Wish_needed : FnScope N_Wish_needed ["self"] (defScope s_Wish_needed) := ⟨rfl, rfl, rfl, by decide +kernel, rfl, by decide +kernel, by decide +kernel⟩
abbrev N_Behind_needed : List Str := ["self", "found", "letter"]
theorem sc_Behind_needed : SupScopeC N_Behind_needed ["self"] (defScope s_Behind_needed) := ⟨rfl, rfl, rfl, by decide +kernel, rfl, by decide +kernel, by decide +kernel, by decide +kernel, by decide +kernel, by decide +kernel⟩
abbrev N_Wish___and__ : List Str := ["self", "other"]
theorem sc_Wish___and__ : FnScope N_Wish___and__ ["self", "other"] (defScope s_Wish___and__) := ⟨rfl, rfl, rfl, by decide +kernel, rfl, by decide +kernel, by decide +kernel⟩
abbrev N_Wish___or__ : List Str := ["self", "other"]
theorem sc_Wish___or__ : FnScope N_Wish___or__ ["self", "other"] (defScope s_Wish___or__) := ⟨rfl, rfl, rfl, by decide +kernel, rfl, by decide +kernel, by decide +kernel⟩
abbrev N_Wish___eq__ : List Str := ["self", "other"]
theorem sc_Wish___eq__ : FnScope N_Wish___eq__ ["self", "other"] (defScope s_Wish___eq__) := ⟨rfl, rfl, rfl, by decide +kernel, rfl, by decide +kernel, by decide +kernel⟩
abbrev N_Wish___repr__ : List Str := ["self"]
theorem sc_Wish___repr__ : FnScope N_Wish___repr__ ["self"] (defScope s_Wish___repr__) := ⟨rfl, rfl, rfl, by decide +kernel, rfl, by decide +kernel, by decide +kernel⟩
abbrev N__law_made_words : List Str := ["_law_tree_here", "_law_a", "_law_b", "_law_c", "_law_d"]
theorem sc__law_made_words : FnScope N__law_made_words ["_law_tree_here"] (defScope s__law_made_words) := ⟨rfl, rfl, rfl, by decide +kernel, rfl, by decide +kernel, by decide +kernel⟩
abbrev N__law_wish : List Str := ["_law_bag", "_law_tree_here", "_law_one", "_law_two"]
theorem sc__law_wish : FnScope N__law_wish ["_law_bag", "_law_tree_here"] (defScope s__law_wish) := ⟨rfl, rfl, rfl, by decide +kernel, rfl, by decide +kernel, by decide +kernel⟩
abbrev N__law_letters_of : List Str := ["_law_tree_here", "_law_text_z", "_law_token"]
theorem sc__law_letters_of : FnScope N__law_letters_of ["_law_tree_here"] (defScope s__law_letters_of) := ⟨rfl, rfl, rfl, by decide +kernel, rfl, by decide +kernel, by decide +kernel⟩
abbrev N__law_like : List Str := ["_law_a", "_law_b", "_law_same", "_law_c", "_law_d"]
theorem sc__law_like : FnScope N__law_like ["_law_a", "_law_b"] (defScope s__law_like) := ⟨rfl, rfl, rfl, by decide +kernel, rfl, by decide +kernel, by decide +kernel⟩
abbrev N_law : List Str := ["_law_script", "_law_bag", "_law_turn", "_law_alphabet_here", "_law_names_here", "_law_tree_here", "_law_wish_here", "_law_tokens_here", "_law_text_z", "_law_letters_of_here", "_law_due", "_law_loose", "_law_told", "_law_other", "_law_two_of", "_law_one_of", "_law_one", "_law_x"]
theorem sc_law : FnScope N_law ["_law_script"] (defScope s_law) := ⟨rfl, rfl, rfl, by decide +kernel, rfl, by decide +kernel, by decide +kernel⟩
def P : Program := PySem.Challenge.pw_lastslip_k60_wishes_told
structure Adr where
  f__law_draws : Addr
  fd__law_draws : FuncData
  f__law_pull : Addr
  fd__law_pull : FuncData
  f__law_any : Addr
  fd__law_any : FuncData
  f_is_word : Addr
  fd_is_word : FuncData
  f_is_name : Addr
  fd_is_name : FuncData
  f_Wish___init__ : Addr
  fd_Wish___init__ : FuncData
  f_Never___init__ : Addr
  fd_Never___init__ : FuncData
  D_Never___init__ : Addr
  cc_Never___init__ : Addr
  cda_Never___init__ : Addr
  f_Blocks___init__ : Addr
  fd_Blocks___init__ : FuncData
  D_Blocks___init__ : Addr
  cc_Blocks___init__ : Addr
  cda_Blocks___init__ : Addr
  f_Behind___init__ : Addr
  fd_Behind___init__ : FuncData
  D_Behind___init__ : Addr
  cc_Behind___init__ : Addr
  cda_Behind___init__ : Addr
  f_Both___init__ : Addr
  fd_Both___init__ : FuncData
  D_Both___init__ : Addr
  cc_Both___init__ : Addr
  cda_Both___init__ : Addr
  f_Either___init__ : Addr
  fd_Either___init__ : FuncData
  D_Either___init__ : Addr
  cc_Either___init__ : Addr
  cda_Either___init__ : Addr
  f_Named___init__ : Addr
  fd_Named___init__ : FuncData
  D_Named___init__ : Addr
  cc_Named___init__ : Addr
  cda_Named___init__ : Addr
  f_Wish_text : Addr
  fd_Wish_text : FuncData
  f_words_token : Addr
  fd_words_token : FuncData
  f_token_read : Addr
  fd_token_read : FuncData
  f_read_wish : Addr
  fd_read_wish : FuncData
  f__law_alphabet : Addr
  fd__law_alphabet : FuncData
  f__law_word : Addr
  fd__law_word : FuncData
  f__law_words : Addr
  fd__law_words : FuncData
  f__law_leaf : Addr
  fd__law_leaf : FuncData
  f__law_tree : Addr
  fd__law_tree : FuncData
  f__law_tokens : Addr
  fd__law_tokens : FuncData
  f__law_mixed : Addr
  fd__law_mixed : FuncData
  f__law_names : Addr
  fd__law_names : FuncData
  f_Wish_tokens : Addr
  fd_Wish_tokens : FuncData
  f_Wish_names : Addr
  fd_Wish_names : FuncData
  f_Words_needed : Addr
  fd_Words_needed : FuncData
  f_Wish_needed : Addr
  fd_Wish_needed : FuncData
  f_Behind_needed : Addr
  fd_Behind_needed : FuncData
  D_Behind_needed : Addr
  cc_Behind_needed : Addr
  cda_Behind_needed : Addr
  f_Wish___and__ : Addr
  fd_Wish___and__ : FuncData
  f_Wish___or__ : Addr
  fd_Wish___or__ : FuncData
  f_Wish___eq__ : Addr
  fd_Wish___eq__ : FuncData
  f_Wish___repr__ : Addr
  fd_Wish___repr__ : FuncData
  f__law_made_words : Addr
  fd__law_made_words : FuncData
  f__law_wish : Addr
  fd__law_wish : FuncData
  f__law_letters_of : Addr
  fd__law_letters_of : FuncData
  f__law_like : Addr
  fd__law_like : FuncData
  f_law : Addr
  fd_law : FuncData
  C_Wish : Addr
  C_Words : Addr
  C_Never : Addr
  C_Blocks : Addr
  C_Behind : Addr
  C_Both : Addr
  C_Either : Addr
  C_Named : Addr
structure Txt (K : PySem.W.Frag) (mg : Str → Option Value) (a : Adr) : Prop where
  F__law_draws : FunD K "_law_draws" "_law_draws" (defArgs s__law_draws) (defBody s__law_draws) (defScope s__law_draws) [] [] a.f__law_draws a.fd__law_draws
  g__law_draws : mg "_law_draws" = some (.ref a.f__law_draws)
  F__law_pull : FunD K "_law_pull" "_law_pull" (defArgs s__law_pull) (defBody s__law_pull) (defScope s__law_pull) [] [] a.f__law_pull a.fd__law_pull
  g__law_pull : mg "_law_pull" = some (.ref a.f__law_pull)
  F__law_any : FunD K "_law_any" "_law_any" (defArgs s__law_any) (defBody s__law_any) (defScope s__law_any) [] [] a.f__law_any a.fd__law_any
  g__law_any : mg "_law_any" = some (.ref a.f__law_any)
  F_is_word : FunD K "is_word" "is_word" (defArgs s_is_word) (defBody s_is_word) (defScope s_is_word) [V.int 200] [] a.f_is_word a.fd_is_word
  g_is_word : mg "is_word" = some (.ref a.f_is_word)
  F_is_name : FunD K "is_name" "is_name" (defArgs s_is_name) (defBody s_is_name) (defScope s_is_name) [] [] a.f_is_name a.fd_is_name
  g_is_name : mg "is_name" = some (.ref a.f_is_name)
  F_Wish___init__ : FunD K "__init__" "Wish.__init__" (defArgs s_Wish___init__) (defBody s_Wish___init__) (defScope s_Wish___init__) [] [] a.f_Wish___init__ a.fd_Wish___init__
  m_Wish___init__ : Meth K a.C_Wish "__init__" a.f_Wish___init__
  F_Never___init__ : FunS K P "__init__" "Words.__init__" (defArgs s_Never___init__) (defBody s_Never___init__) (defScope s_Never___init__) a.f_Never___init__ a.fd_Never___init__ a.D_Never___init__ a.cc_Never___init__ a.cda_Never___init__
  kp_Never___init__ : PySem.W.keepIn K (.ref a.f_Never___init__) = true
  st_Never___init__ : SupTo K a.C_Never a.D_Never___init__ "__init__" a.f_Wish___init__
  m_Never___init__ : Meth K a.C_Never "__init__" a.f_Never___init__
  F_Blocks___init__ : FunS K P "__init__" "Words.__init__" (defArgs s_Blocks___init__) (defBody s_Blocks___init__) (defScope s_Blocks___init__) a.f_Blocks___init__ a.fd_Blocks___init__ a.D_Blocks___init__ a.cc_Blocks___init__ a.cda_Blocks___init__
  kp_Blocks___init__ : PySem.W.keepIn K (.ref a.f_Blocks___init__) = true
  st_Blocks___init__ : SupTo K a.C_Blocks a.D_Blocks___init__ "__init__" a.f_Wish___init__
  m_Blocks___init__ : Meth K a.C_Blocks "__init__" a.f_Blocks___init__
  F_Behind___init__ : FunS K P "__init__" "Behind.__init__" (defArgs s_Behind___init__) (defBody s_Behind___init__) (defScope s_Behind___init__) a.f_Behind___init__ a.fd_Behind___init__ a.D_Behind___init__ a.cc_Behind___init__ a.cda_Behind___init__
  kp_Behind___init__ : PySem.W.keepIn K (.ref a.f_Behind___init__) = true
  st_Behind___init__ : SupTo K a.C_Behind a.D_Behind___init__ "__init__" a.f_Wish___init__
  m_Behind___init__ : Meth K a.C_Behind "__init__" a.f_Behind___init__
  F_Both___init__ : FunS K P "__init__" "Both.__init__" (defArgs s_Both___init__) (defBody s_Both___init__) (defScope s_Both___init__) a.f_Both___init__ a.fd_Both___init__ a.D_Both___init__ a.cc_Both___init__ a.cda_Both___init__
  kp_Both___init__ : PySem.W.keepIn K (.ref a.f_Both___init__) = true
  st_Both___init__ : SupTo K a.C_Both a.D_Both___init__ "__init__" a.f_Wish___init__
  m_Both___init__ : Meth K a.C_Both "__init__" a.f_Both___init__
  F_Either___init__ : FunS K P "__init__" "Either.__init__" (defArgs s_Either___init__) (defBody s_Either___init__) (defScope s_Either___init__) a.f_Either___init__ a.fd_Either___init__ a.D_Either___init__ a.cc_Either___init__ a.cda_Either___init__
  kp_Either___init__ : PySem.W.keepIn K (.ref a.f_Either___init__) = true
  st_Either___init__ : SupTo K a.C_Either a.D_Either___init__ "__init__" a.f_Wish___init__
  m_Either___init__ : Meth K a.C_Either "__init__" a.f_Either___init__
  F_Named___init__ : FunS K P "__init__" "Named.__init__" (defArgs s_Named___init__) (defBody s_Named___init__) (defScope s_Named___init__) a.f_Named___init__ a.fd_Named___init__ a.D_Named___init__ a.cc_Named___init__ a.cda_Named___init__
  kp_Named___init__ : PySem.W.keepIn K (.ref a.f_Named___init__) = true
  st_Named___init__ : SupTo K a.C_Named a.D_Named___init__ "__init__" a.f_Wish___init__
  m_Named___init__ : Meth K a.C_Named "__init__" a.f_Named___init__
  F_Wish_text : FunD K "text" "Wish.text" (defArgs s_Wish_text) (defBody s_Wish_text) (defScope s_Wish_text) [] [] a.f_Wish_text a.fd_Wish_text
  m_Wish_text : Meth K a.C_Wish "text" a.f_Wish_text
  F_words_token : FunD K "words_token" "words_token" (defArgs s_words_token) (defBody s_words_token) (defScope s_words_token) [] [] a.f_words_token a.fd_words_token
  g_words_token : mg "words_token" = some (.ref a.f_words_token)
  F_token_read : FunD K "token_read" "token_read" (defArgs s_token_read) (defBody s_token_read) (defScope s_token_read) [] [] a.f_token_read a.fd_token_read
  g_token_read : mg "token_read" = some (.ref a.f_token_read)
  F_read_wish : FunD K "read_wish" "read_wish" (defArgs s_read_wish) (defBody s_read_wish) (defScope s_read_wish) [] [] a.f_read_wish a.fd_read_wish
  g_read_wish : mg "read_wish" = some (.ref a.f_read_wish)
  F__law_alphabet : FunD K "_law_alphabet" "_law_alphabet" (defArgs s__law_alphabet) (defBody s__law_alphabet) (defScope s__law_alphabet) [] [] a.f__law_alphabet a.fd__law_alphabet
  g__law_alphabet : mg "_law_alphabet" = some (.ref a.f__law_alphabet)
  F__law_word : FunD K "_law_word" "_law_word" (defArgs s__law_word) (defBody s__law_word) (defScope s__law_word) [] [] a.f__law_word a.fd__law_word
  g__law_word : mg "_law_word" = some (.ref a.f__law_word)
  F__law_words : FunD K "_law_words" "_law_words" (defArgs s__law_words) (defBody s__law_words) (defScope s__law_words) [] [] a.f__law_words a.fd__law_words
  g__law_words : mg "_law_words" = some (.ref a.f__law_words)
  F__law_leaf : FunD K "_law_leaf" "_law_leaf" (defArgs s__law_leaf) (defBody s__law_leaf) (defScope s__law_leaf) [] [] a.f__law_leaf a.fd__law_leaf
  g__law_leaf : mg "_law_leaf" = some (.ref a.f__law_leaf)
  F__law_tree : FunD K "_law_tree" "_law_tree" (defArgs s__law_tree) (defBody s__law_tree) (defScope s__law_tree) [] [] a.f__law_tree a.fd__law_tree
  g__law_tree : mg "_law_tree" = some (.ref a.f__law_tree)
  F__law_tokens : FunD K "_law_tokens" "_law_tokens" (defArgs s__law_tokens) (defBody s__law_tokens) (defScope s__law_tokens) [] [] a.f__law_tokens a.fd__law_tokens
  g__law_tokens : mg "_law_tokens" = some (.ref a.f__law_tokens)
  F__law_mixed : FunD K "_law_mixed" "_law_mixed" (defArgs s__law_mixed) (defBody s__law_mixed) (defScope s__law_mixed) [] [] a.f__law_mixed a.fd__law_mixed
  g__law_mixed : mg "_law_mixed" = some (.ref a.f__law_mixed)
  F__law_names : FunD K "_law_names" "_law_names" (defArgs s__law_names) (defBody s__law_names) (defScope s__law_names) [] [] a.f__law_names a.fd__law_names
  g__law_names : mg "_law_names" = some (.ref a.f__law_names)
  F_Wish_tokens : FunD K "tokens" "Wish.tokens" (defArgs s_Wish_tokens) (defBody s_Wish_tokens) (defScope s_Wish_tokens) [] [] a.f_Wish_tokens a.fd_Wish_tokens
  m_Wish_tokens : Meth K a.C_Wish "tokens" a.f_Wish_tokens
  F_Wish_names : FunD K "names" "Wish.names" (defArgs s_Wish_names) (defBody s_Wish_names) (defScope s_Wish_names) [] [] a.f_Wish_names a.fd_Wish_names
  m_Wish_names : Meth K a.C_Wish "names" a.f_Wish_names
  F_Words_needed : FunD K "needed" "Words.needed" (defArgs s_Words_needed) (defBody s_Words_needed) (defScope s_Words_needed) [] [] a.f_Words_needed a.fd_Words_needed
  m_Words_needed : Meth K a.C_Words "needed" a.f_Words_needed
  F_Wish_needed : FunD K "needed" "Wish.needed" (defArgs s_Wish_needed) (defBody s_Wish_needed) (defScope s_Wish_needed) [] [] a.f_Wish_needed a.fd_Wish_needed
  m_Wish_needed : Meth K a.C_Wish "needed" a.f_Wish_needed
  F_Behind_needed : FunS K P "needed" "Behind.needed" (defArgs s_Behind_needed) (defBody s_Behind_needed) (defScope s_Behind_needed) a.f_Behind_needed a.fd_Behind_needed a.D_Behind_needed a.cc_Behind_needed a.cda_Behind_needed
  kp_Behind_needed : PySem.W.keepIn K (.ref a.f_Behind_needed) = true
  st_Behind_needed : SupTo K a.C_Behind a.D_Behind_needed "needed" a.f_Wish_needed
  m_Behind_needed : Meth K a.C_Behind "needed" a.f_Behind_needed
  F_Wish___and__ : FunD K "__and__" "Wish.__and__" (defArgs s_Wish___and__) (defBody s_Wish___and__) (defScope s_Wish___and__) [] [] a.f_Wish___and__ a.fd_Wish___and__
  m_Wish___and__ : Meth K a.C_Wish "__and__" a.f_Wish___and__
  F_Wish___or__ : FunD K "__or__" "Wish.__or__" (defArgs s_Wish___or__) (defBody s_Wish___or__) (defScope s_Wish___or__) [] [] a.f_Wish___or__ a.fd_Wish___or__
  m_Wish___or__ : Meth K a.C_Wish "__or__" a.f_Wish___or__
  F_Wish___eq__ : FunD K "__eq__" "Wish.__eq__" (defArgs s_Wish___eq__) (defBody s_Wish___eq__) (defScope s_Wish___eq__) [] [] a.f_Wish___eq__ a.fd_Wish___eq__
  m_Wish___eq__ : Meth K a.C_Wish "__eq__" a.f_Wish___eq__
  F_Wish___repr__ : FunD K "__repr__" "Wish.__repr__" (defArgs s_Wish___repr__) (defBody s_Wish___repr__) (defScope s_Wish___repr__) [] [] a.f_Wish___repr__ a.fd_Wish___repr__
  m_Wish___repr__ : Meth K a.C_Wish "__repr__" a.f_Wish___repr__
  F__law_made_words : FunD K "_law_made_words" "_law_made_words" (defArgs s__law_made_words) (defBody s__law_made_words) (defScope s__law_made_words) [] [] a.f__law_made_words a.fd__law_made_words
  g__law_made_words : mg "_law_made_words" = some (.ref a.f__law_made_words)
  F__law_wish : FunD K "_law_wish" "_law_wish" (defArgs s__law_wish) (defBody s__law_wish) (defScope s__law_wish) [] [] a.f__law_wish a.fd__law_wish
  g__law_wish : mg "_law_wish" = some (.ref a.f__law_wish)
  F__law_letters_of : FunD K "_law_letters_of" "_law_letters_of" (defArgs s__law_letters_of) (defBody s__law_letters_of) (defScope s__law_letters_of) [] [] a.f__law_letters_of a.fd__law_letters_of
  g__law_letters_of : mg "_law_letters_of" = some (.ref a.f__law_letters_of)
  F__law_like : FunD K "_law_like" "_law_like" (defArgs s__law_like) (defBody s__law_like) (defScope s__law_like) [] [] a.f__law_like a.fd__law_like
  g__law_like : mg "_law_like" = some (.ref a.f__law_like)
  F_law : FunD K "law" "law" (defArgs s_law) (defBody s_law) (defScope s_law) [] [] a.f_law a.fd_law
  g_law : mg "law" = some (.ref a.f_law)
  mt_Never_text : Meth K a.C_Never "text" a.f_Wish_text
  mt_Blocks_text : Meth K a.C_Blocks "text" a.f_Wish_text
  mt_Behind_text : Meth K a.C_Behind "text" a.f_Wish_text
  mt_Both_text : Meth K a.C_Both "text" a.f_Wish_text
  mt_Either_text : Meth K a.C_Either "text" a.f_Wish_text
  mt_Named_text : Meth K a.C_Named "text" a.f_Wish_text
  mt_Never_tokens : Meth K a.C_Never "tokens" a.f_Wish_tokens
  mt_Blocks_tokens : Meth K a.C_Blocks "tokens" a.f_Wish_tokens
  mt_Behind_tokens : Meth K a.C_Behind "tokens" a.f_Wish_tokens
  mt_Both_tokens : Meth K a.C_Both "tokens" a.f_Wish_tokens
  mt_Either_tokens : Meth K a.C_Either "tokens" a.f_Wish_tokens
  mt_Named_tokens : Meth K a.C_Named "tokens" a.f_Wish_tokens
  mt_Never_names : Meth K a.C_Never "names" a.f_Wish_names
  mt_Blocks_names : Meth K a.C_Blocks "names" a.f_Wish_names
  mt_Behind_names : Meth K a.C_Behind "names" a.f_Wish_names
  mt_Both_names : Meth K a.C_Both "names" a.f_Wish_names
  mt_Either_names : Meth K a.C_Either "names" a.f_Wish_names
  mt_Named_names : Meth K a.C_Named "names" a.f_Wish_names
  mt_Both_needed : Meth K a.C_Both "needed" a.f_Wish_needed
  mt_Either_needed : Meth K a.C_Either "needed" a.f_Wish_needed
  mt_Named_needed : Meth K a.C_Named "needed" a.f_Wish_needed
  mt_Never_needed : Meth K a.C_Never "needed" a.f_Words_needed
  mt_Blocks_needed : Meth K a.C_Blocks "needed" a.f_Words_needed
  eqa_Never : EqX K a.C_Never a.f_Wish___eq__
  eqa_Blocks : EqX K a.C_Blocks a.f_Wish___eq__
  eqa_Behind : EqX K a.C_Behind a.f_Wish___eq__
  eqa_Both : EqX K a.C_Both a.f_Wish___eq__
  eqa_Either : EqX K a.C_Either a.f_Wish___eq__
  eqa_Named : EqX K a.C_Named a.f_Wish___eq__
  nf2_Never_Never : PySem.W.notFirst K a.C_Never (.ref a.C_Never) = true
  nf2_Never_Blocks : PySem.W.notFirst K a.C_Never (.ref a.C_Blocks) = true
  nf2_Never_Behind : PySem.W.notFirst K a.C_Never (.ref a.C_Behind) = true
  nf2_Never_Both : PySem.W.notFirst K a.C_Never (.ref a.C_Both) = true
  nf2_Never_Either : PySem.W.notFirst K a.C_Never (.ref a.C_Either) = true
  nf2_Never_Named : PySem.W.notFirst K a.C_Never (.ref a.C_Named) = true
  nf2_Blocks_Never : PySem.W.notFirst K a.C_Blocks (.ref a.C_Never) = true
  nf2_Blocks_Blocks : PySem.W.notFirst K a.C_Blocks (.ref a.C_Blocks) = true
  nf2_Blocks_Behind : PySem.W.notFirst K a.C_Blocks (.ref a.C_Behind) = true
  nf2_Blocks_Both : PySem.W.notFirst K a.C_Blocks (.ref a.C_Both) = true
  nf2_Blocks_Either : PySem.W.notFirst K a.C_Blocks (.ref a.C_Either) = true
  nf2_Blocks_Named : PySem.W.notFirst K a.C_Blocks (.ref a.C_Named) = true
  nf2_Behind_Never : PySem.W.notFirst K a.C_Behind (.ref a.C_Never) = true
  nf2_Behind_Blocks : PySem.W.notFirst K a.C_Behind (.ref a.C_Blocks) = true
  nf2_Behind_Behind : PySem.W.notFirst K a.C_Behind (.ref a.C_Behind) = true
  nf2_Behind_Both : PySem.W.notFirst K a.C_Behind (.ref a.C_Both) = true
  nf2_Behind_Either : PySem.W.notFirst K a.C_Behind (.ref a.C_Either) = true
  nf2_Behind_Named : PySem.W.notFirst K a.C_Behind (.ref a.C_Named) = true
  nf2_Both_Never : PySem.W.notFirst K a.C_Both (.ref a.C_Never) = true
  nf2_Both_Blocks : PySem.W.notFirst K a.C_Both (.ref a.C_Blocks) = true
  nf2_Both_Behind : PySem.W.notFirst K a.C_Both (.ref a.C_Behind) = true
  nf2_Both_Both : PySem.W.notFirst K a.C_Both (.ref a.C_Both) = true
  nf2_Both_Either : PySem.W.notFirst K a.C_Both (.ref a.C_Either) = true
  nf2_Both_Named : PySem.W.notFirst K a.C_Both (.ref a.C_Named) = true
  nf2_Either_Never : PySem.W.notFirst K a.C_Either (.ref a.C_Never) = true
  nf2_Either_Blocks : PySem.W.notFirst K a.C_Either (.ref a.C_Blocks) = true
  nf2_Either_Behind : PySem.W.notFirst K a.C_Either (.ref a.C_Behind) = true
  nf2_Either_Both : PySem.W.notFirst K a.C_Either (.ref a.C_Both) = true
  nf2_Either_Either : PySem.W.notFirst K a.C_Either (.ref a.C_Either) = true
  nf2_Either_Named : PySem.W.notFirst K a.C_Either (.ref a.C_Named) = true
  nf2_Named_Never : PySem.W.notFirst K a.C_Named (.ref a.C_Never) = true
  nf2_Named_Blocks : PySem.W.notFirst K a.C_Named (.ref a.C_Blocks) = true
  nf2_Named_Behind : PySem.W.notFirst K a.C_Named (.ref a.C_Behind) = true
  nf2_Named_Both : PySem.W.notFirst K a.C_Named (.ref a.C_Both) = true
  nf2_Named_Either : PySem.W.notFirst K a.C_Named (.ref a.C_Either) = true
  nf2_Named_Named : PySem.W.notFirst K a.C_Named (.ref a.C_Named) = true
  sb_Never : PySem.W.subIn K (.ref a.C_Never) (.ref a.C_Wish) = some true
  sb_Blocks : PySem.W.subIn K (.ref a.C_Blocks) (.ref a.C_Wish) = some true
  sb_Behind : PySem.W.subIn K (.ref a.C_Behind) (.ref a.C_Wish) = some true
  sb_Both : PySem.W.subIn K (.ref a.C_Both) (.ref a.C_Wish) = some true
  sb_Either : PySem.W.subIn K (.ref a.C_Either) (.ref a.C_Wish) = some true
  sb_Named : PySem.W.subIn K (.ref a.C_Named) (.ref a.C_Wish) = some true
  oi_Never_BitAnd : OpI K a.C_Never .BitAnd a.f_Wish___and__
  oi_Blocks_BitAnd : OpI K a.C_Blocks .BitAnd a.f_Wish___and__
  oi_Behind_BitAnd : OpI K a.C_Behind .BitAnd a.f_Wish___and__
  oi_Both_BitAnd : OpI K a.C_Both .BitAnd a.f_Wish___and__
  oi_Either_BitAnd : OpI K a.C_Either .BitAnd a.f_Wish___and__
  oi_Named_BitAnd : OpI K a.C_Named .BitAnd a.f_Wish___and__
  oi_Never_BitOr : OpI K a.C_Never .BitOr a.f_Wish___or__
  oi_Blocks_BitOr : OpI K a.C_Blocks .BitOr a.f_Wish___or__
  oi_Behind_BitOr : OpI K a.C_Behind .BitOr a.f_Wish___or__
  oi_Both_BitOr : OpI K a.C_Both .BitOr a.f_Wish___or__
  oi_Either_BitOr : OpI K a.C_Either .BitOr a.f_Wish___or__
  oi_Named_BitOr : OpI K a.C_Named .BitOr a.f_Wish___or__
  spa_Never___repr__ : Spec1 K a.C_Never "__repr__" a.f_Wish___repr__
  spa_Blocks___repr__ : Spec1 K a.C_Blocks "__repr__" a.f_Wish___repr__
  spa_Behind___repr__ : Spec1 K a.C_Behind "__repr__" a.f_Wish___repr__
  spa_Both___repr__ : Spec1 K a.C_Both "__repr__" a.f_Wish___repr__
  spa_Either___repr__ : Spec1 K a.C_Either "__repr__" a.f_Wish___repr__
  spa_Named___repr__ : Spec1 K a.C_Named "__repr__" a.f_Wish___repr__
  g_Wish : mg "Wish" = some (.ref a.C_Wish)
  cl_Wish : Cls K a.C_Wish
  is_Wish : IsX K a.C_Wish
  mk_Wish : Mk K a.C_Wish a.f_Wish___init__
  eq_Wish : EqX K a.C_Wish a.f_Wish___eq__
  g_Words : mg "Words" = some (.ref a.C_Words)
  cl_Words : Cls K a.C_Words
  is_Words : IsX K a.C_Words
  g_Never : mg "Never" = some (.ref a.C_Never)
  cl_Never : Cls K a.C_Never
  is_Never : IsX K a.C_Never
  mk_Never : Mk K a.C_Never a.f_Never___init__
  no_Never_parts : NoAttr K a.C_Never "parts"
  no_Never_own_tokens : NoAttr K a.C_Never "own_tokens"
  no_Never_words : NoAttr K a.C_Never "words"
  g_Blocks : mg "Blocks" = some (.ref a.C_Blocks)
  cl_Blocks : Cls K a.C_Blocks
  is_Blocks : IsX K a.C_Blocks
  mk_Blocks : Mk K a.C_Blocks a.f_Blocks___init__
  no_Blocks_parts : NoAttr K a.C_Blocks "parts"
  no_Blocks_own_tokens : NoAttr K a.C_Blocks "own_tokens"
  no_Blocks_words : NoAttr K a.C_Blocks "words"
  g_Behind : mg "Behind" = some (.ref a.C_Behind)
  cl_Behind : Cls K a.C_Behind
  is_Behind : IsX K a.C_Behind
  mk_Behind : Mk K a.C_Behind a.f_Behind___init__
  no_Behind_parts : NoAttr K a.C_Behind "parts"
  no_Behind_own_tokens : NoAttr K a.C_Behind "own_tokens"
  no_Behind_word : NoAttr K a.C_Behind "word"
  g_Both : mg "Both" = some (.ref a.C_Both)
  cl_Both : Cls K a.C_Both
  is_Both : IsX K a.C_Both
  mk_Both : Mk K a.C_Both a.f_Both___init__
  no_Both_parts : NoAttr K a.C_Both "parts"
  no_Both_own_tokens : NoAttr K a.C_Both "own_tokens"
  g_Either : mg "Either" = some (.ref a.C_Either)
  cl_Either : Cls K a.C_Either
  is_Either : IsX K a.C_Either
  mk_Either : Mk K a.C_Either a.f_Either___init__
  no_Either_parts : NoAttr K a.C_Either "parts"
  no_Either_own_tokens : NoAttr K a.C_Either "own_tokens"
  g_Named : mg "Named" = some (.ref a.C_Named)
  cl_Named : Cls K a.C_Named
  is_Named : IsX K a.C_Named
  mk_Named : Mk K a.C_Named a.f_Named___init__
  no_Named_parts : NoAttr K a.C_Named "parts"
  no_Named_own_tokens : NoAttr K a.C_Named "own_tokens"
  no_Named_name : NoAttr K a.C_Named "name"
  sp_Wish___repr__ : Spec1 K a.C_Wish "__repr__" a.f_Wish___repr__
  co_Blocks_HEAD : ∃ u, Con K a.C_Blocks "HEAD" (.str "blocks") u
  co_Never_HEAD : ∃ u, Con K a.C_Never "HEAD" (.str "never") u
  c_LETTERS : ∃ t, mg "LETTERS" = some (.str "abcdefghijklmnopqrstuvwxyz" t)
  c_MOST_LETTERS : ∃ t, mg "MOST_LETTERS" = some (.int 200 t)
  c_MOST_TOKENS : ∃ t, mg "MOST_TOKENS" = some (.int 20 t)
  c_MOST_WORDS : ∃ t, mg "MOST_WORDS" = some (.int 4 t)
  c_MOST_LONG : ∃ t, mg "MOST_LONG" = some (.int 6 t)
  n_all : mg "all" = none
  n_bool : mg "bool" = none
  n_enumerate : mg "enumerate" = none
  n_int : mg "int" = none
  n_isinstance : mg "isinstance" = none
  n_len : mg "len" = none
  n_list : mg "list" = none
  n_min : mg "min" = none
  n_range : mg "range" = none
  n_repr : mg "repr" = none
  n_set : mg "set" = none
  n_sorted : mg "sorted" = none
  n_str : mg "str" = none
  n_super : mg "super" = none
  n_tuple : mg "tuple" = none
  n_zip : mg "zip" = none
section
variable {w : World} {K : PySem.W.Frag} {mg : Str → Option Value} {base : Heap} {a : Adr}
theorem k__law_draws (T : Txt K mg a) : PySem.W.keepIn K (.ref a.f__law_draws) = true := T.F__law_draws.kp
theorem k__law_pull (T : Txt K mg a) : PySem.W.keepIn K (.ref a.f__law_pull) = true := T.F__law_pull.kp
theorem b0__law_pull (T : Txt K mg a) : ∃ dsv, Vals [] dsv ∧ Binds K a.fd__law_pull ["_law_bag", "_law_sides"] dsv := ⟨[], .nil, T.F__law_pull.bindsN fun _ _ _ _ _ _ us hl => match us, hl with | [_, _], _ => rfl⟩
theorem k__law_any (T : Txt K mg a) : PySem.W.keepIn K (.ref a.f__law_any) = true := T.F__law_any.kp
theorem b0__law_any (T : Txt K mg a) : ∃ dsv, Vals [] dsv ∧ Binds K a.fd__law_any ["_law_bag", "_law_rows"] dsv := ⟨[], .nil, T.F__law_any.bindsN fun _ _ _ _ _ _ us hl => match us, hl with | [_, _], _ => rfl⟩
theorem k_is_word (T : Txt K mg a) : PySem.W.keepIn K (.ref a.f_is_word) = true := T.F_is_word.kp
theorem b0_is_word (T : Txt K mg a) : ∃ dsv, Vals [] dsv ∧ Binds K a.fd_is_word ["value", "most"] dsv := T.F_is_word.binds1 2 1 (by intro h; cases h) rfl fun _ _ _ _ _ _ _ us its hl hi => match us, its, hl, hi with | [_, _], [_], _, _ => ⟨_, rfl, rfl⟩
theorem k_is_name (T : Txt K mg a) : PySem.W.keepIn K (.ref a.f_is_name) = true := T.F_is_name.kp
theorem b0_is_name (T : Txt K mg a) : ∃ dsv, Vals [] dsv ∧ Binds K a.fd_is_name ["value"] dsv := ⟨[], .nil, T.F_is_name.bindsN fun _ _ _ _ _ _ us hl => match us, hl with | [_], _ => rfl⟩
theorem b0_Wish___init__ (T : Txt K mg a) : ∃ dsv, Vals [] dsv ∧ Binds K a.fd_Wish___init__ ["self", "parts", "last"] dsv := ⟨[], .nil, T.F_Wish___init__.bindsN fun _ _ _ _ _ _ us hl => match us, hl with | [_, _, _], _ => rfl⟩
theorem b0_Behind___init__ (T : Txt K mg a) : ∃ dsv, Vals [] dsv ∧ Binds K a.fd_Behind___init__ ["self", "word", "part"] dsv := ⟨[], .nil, T.F_Behind___init__.bindsN fun _ _ _ _ _ us hl => match us, hl with | [_, _, _], _ => rfl⟩
theorem b0_Both___init__ (T : Txt K mg a) : ∃ dsv, Vals [] dsv ∧ Binds K a.fd_Both___init__ ["self", "one", "other"] dsv := ⟨[], .nil, T.F_Both___init__.bindsN fun _ _ _ _ _ us hl => match us, hl with | [_, _, _], _ => rfl⟩
theorem b0_Either___init__ (T : Txt K mg a) : ∃ dsv, Vals [] dsv ∧ Binds K a.fd_Either___init__ ["self", "one", "other"] dsv := ⟨[], .nil, T.F_Either___init__.bindsN fun _ _ _ _ _ us hl => match us, hl with | [_, _, _], _ => rfl⟩
theorem b0_Named___init__ (T : Txt K mg a) : ∃ dsv, Vals [] dsv ∧ Binds K a.fd_Named___init__ ["self", "name"] dsv := ⟨[], .nil, T.F_Named___init__.bindsN fun _ _ _ _ _ us hl => match us, hl with | [_, _], _ => rfl⟩
theorem b0_Wish_text (T : Txt K mg a) : ∃ dsv, Vals [] dsv ∧ Binds K a.fd_Wish_text ["self"] dsv := ⟨[], .nil, T.F_Wish_text.bindsN fun _ _ _ _ _ _ us hl => match us, hl with | [_], _ => rfl⟩
theorem k_words_token (T : Txt K mg a) : PySem.W.keepIn K (.ref a.f_words_token) = true := T.F_words_token.kp
theorem b0_words_token (T : Txt K mg a) : ∃ dsv, Vals [] dsv ∧ Binds K a.fd_words_token ["token", "stack"] dsv := ⟨[], .nil, T.F_words_token.bindsN fun _ _ _ _ _ _ us hl => match us, hl with | [_, _], _ => rfl⟩
theorem k_token_read (T : Txt K mg a) : PySem.W.keepIn K (.ref a.f_token_read) = true := T.F_token_read.kp
theorem b0_token_read (T : Txt K mg a) : ∃ dsv, Vals [] dsv ∧ Binds K a.fd_token_read ["token", "stack"] dsv := ⟨[], .nil, T.F_token_read.bindsN fun _ _ _ _ _ _ us hl => match us, hl with | [_, _], _ => rfl⟩
theorem k_read_wish (T : Txt K mg a) : PySem.W.keepIn K (.ref a.f_read_wish) = true := T.F_read_wish.kp
theorem b0_read_wish (T : Txt K mg a) : ∃ dsv, Vals [] dsv ∧ Binds K a.fd_read_wish ["text"] dsv := ⟨[], .nil, T.F_read_wish.bindsN fun _ _ _ _ _ _ us hl => match us, hl with | [_], _ => rfl⟩
theorem k__law_alphabet (T : Txt K mg a) : PySem.W.keepIn K (.ref a.f__law_alphabet) = true := T.F__law_alphabet.kp
theorem b0__law_alphabet (T : Txt K mg a) : ∃ dsv, Vals [] dsv ∧ Binds K a.fd__law_alphabet ["_law_bag", "_law_most"] dsv := ⟨[], .nil, T.F__law_alphabet.bindsN fun _ _ _ _ _ _ us hl => match us, hl with | [_, _], _ => rfl⟩
theorem k__law_word (T : Txt K mg a) : PySem.W.keepIn K (.ref a.f__law_word) = true := T.F__law_word.kp
theorem b0__law_word (T : Txt K mg a) : ∃ dsv, Vals [] dsv ∧ Binds K a.fd__law_word ["_law_bag", "_law_alphabet_here", "_law_low", "_law_high"] dsv := ⟨[], .nil, T.F__law_word.bindsN fun _ _ _ _ _ _ us hl => match us, hl with | [_, _, _, _], _ => rfl⟩
theorem k__law_words (T : Txt K mg a) : PySem.W.keepIn K (.ref a.f__law_words) = true := T.F__law_words.kp
theorem b0__law_words (T : Txt K mg a) : ∃ dsv, Vals [] dsv ∧ Binds K a.fd__law_words ["_law_bag", "_law_alphabet_here", "_law_most"] dsv := ⟨[], .nil, T.F__law_words.bindsN fun _ _ _ _ _ _ us hl => match us, hl with | [_, _, _], _ => rfl⟩
theorem k__law_leaf (T : Txt K mg a) : PySem.W.keepIn K (.ref a.f__law_leaf) = true := T.F__law_leaf.kp
theorem b0__law_leaf (T : Txt K mg a) : ∃ dsv, Vals [] dsv ∧ Binds K a.fd__law_leaf ["_law_bag", "_law_alphabet_here", "_law_most", "_law_names_here"] dsv := ⟨[], .nil, T.F__law_leaf.bindsN fun _ _ _ _ _ _ us hl => match us, hl with | [_, _, _, _], _ => rfl⟩
theorem k__law_tree (T : Txt K mg a) : PySem.W.keepIn K (.ref a.f__law_tree) = true := T.F__law_tree.kp
theorem b0__law_tree (T : Txt K mg a) : ∃ dsv, Vals [] dsv ∧ Binds K a.fd__law_tree ["_law_bag", "_law_alphabet_here", "_law_most", "_law_names_here"] dsv := ⟨[], .nil, T.F__law_tree.bindsN fun _ _ _ _ _ _ us hl => match us, hl with | [_, _, _, _], _ => rfl⟩
theorem k__law_tokens (T : Txt K mg a) : PySem.W.keepIn K (.ref a.f__law_tokens) = true := T.F__law_tokens.kp
theorem b0__law_tokens (T : Txt K mg a) : ∃ dsv, Vals [] dsv ∧ Binds K a.fd__law_tokens ["_law_tree_here"] dsv := ⟨[], .nil, T.F__law_tokens.bindsN fun _ _ _ _ _ _ us hl => match us, hl with | [_], _ => rfl⟩
theorem k__law_mixed (T : Txt K mg a) : PySem.W.keepIn K (.ref a.f__law_mixed) = true := T.F__law_mixed.kp
theorem b0__law_mixed (T : Txt K mg a) : ∃ dsv, Vals [] dsv ∧ Binds K a.fd__law_mixed ["_law_bag", "_law_rows"] dsv := ⟨[], .nil, T.F__law_mixed.bindsN fun _ _ _ _ _ _ us hl => match us, hl with | [_, _], _ => rfl⟩
theorem k__law_names (T : Txt K mg a) : PySem.W.keepIn K (.ref a.f__law_names) = true := T.F__law_names.kp
theorem b0__law_names (T : Txt K mg a) : ∃ dsv, Vals [] dsv ∧ Binds K a.fd__law_names ["_law_bag", "_law_many"] dsv := ⟨[], .nil, T.F__law_names.bindsN fun _ _ _ _ _ _ us hl => match us, hl with | [_, _], _ => rfl⟩
theorem b0_Wish_tokens (T : Txt K mg a) : ∃ dsv, Vals [] dsv ∧ Binds K a.fd_Wish_tokens ["self"] dsv := ⟨[], .nil, T.F_Wish_tokens.bindsN fun _ _ _ _ _ _ us hl => match us, hl with | [_], _ => rfl⟩
theorem b0_Wish_names (T : Txt K mg a) : ∃ dsv, Vals [] dsv ∧ Binds K a.fd_Wish_names ["self"] dsv := ⟨[], .nil, T.F_Wish_names.bindsN fun _ _ _ _ _ _ us hl => match us, hl with | [_], _ => rfl⟩
theorem b0_Words_needed (T : Txt K mg a) : ∃ dsv, Vals [] dsv ∧ Binds K a.fd_Words_needed ["self"] dsv := ⟨[], .nil, T.F_Words_needed.bindsN fun _ _ _ _ _ _ us hl => match us, hl with | [_], _ => rfl⟩
theorem b0_Wish_needed (T : Txt K mg a) : ∃ dsv, Vals [] dsv ∧ Binds K a.fd_Wish_needed ["self"] dsv := ⟨[], .nil, T.F_Wish_needed.bindsN fun _ _ _ _ _ _ us hl => match us, hl with | [_], _ => rfl⟩
theorem b0_Behind_needed (T : Txt K mg a) : ∃ dsv, Vals [] dsv ∧ Binds K a.fd_Behind_needed ["self"] dsv := ⟨[], .nil, T.F_Behind_needed.bindsN fun _ _ _ _ _ us hl => match us, hl with | [_], _ => rfl⟩
theorem b0_Wish___and__ (T : Txt K mg a) : ∃ dsv, Vals [] dsv ∧ Binds K a.fd_Wish___and__ ["self", "other"] dsv := ⟨[], .nil, T.F_Wish___and__.bindsN fun _ _ _ _ _ _ us hl => match us, hl with | [_, _], _ => rfl⟩
theorem b0_Wish___or__ (T : Txt K mg a) : ∃ dsv, Vals [] dsv ∧ Binds K a.fd_Wish___or__ ["self", "other"] dsv := ⟨[], .nil, T.F_Wish___or__.bindsN fun _ _ _ _ _ _ us hl => match us, hl with | [_, _], _ => rfl⟩
theorem b0_Wish___eq__ (T : Txt K mg a) : ∃ dsv, Vals [] dsv ∧ Binds K a.fd_Wish___eq__ ["self", "other"] dsv := ⟨[], .nil, T.F_Wish___eq__.bindsN fun _ _ _ _ _ _ us hl => match us, hl with | [_, _], _ => rfl⟩
theorem b0_Wish___repr__ (T : Txt K mg a) : ∃ dsv, Vals [] dsv ∧ Binds K a.fd_Wish___repr__ ["self"] dsv := ⟨[], .nil, T.F_Wish___repr__.bindsN fun _ _ _ _ _ _ us hl => match us, hl with | [_], _ => rfl⟩
theorem k__law_made_words (T : Txt K mg a) : PySem.W.keepIn K (.ref a.f__law_made_words) = true := T.F__law_made_words.kp
theorem b0__law_made_words (T : Txt K mg a) : ∃ dsv, Vals [] dsv ∧ Binds K a.fd__law_made_words ["_law_tree_here"] dsv := ⟨[], .nil, T.F__law_made_words.bindsN fun _ _ _ _ _ _ us hl => match us, hl with | [_], _ => rfl⟩
theorem k__law_wish (T : Txt K mg a) : PySem.W.keepIn K (.ref a.f__law_wish) = true := T.F__law_wish.kp
theorem b0__law_wish (T : Txt K mg a) : ∃ dsv, Vals [] dsv ∧ Binds K a.fd__law_wish ["_law_bag", "_law_tree_here"] dsv := ⟨[], .nil, T.F__law_wish.bindsN fun _ _ _ _ _ _ us hl => match us, hl with | [_, _], _ => rfl⟩
theorem k__law_letters_of (T : Txt K mg a) : PySem.W.keepIn K (.ref a.f__law_letters_of) = true := T.F__law_letters_of.kp
theorem b0__law_letters_of (T : Txt K mg a) : ∃ dsv, Vals [] dsv ∧ Binds K a.fd__law_letters_of ["_law_tree_here"] dsv := ⟨[], .nil, T.F__law_letters_of.bindsN fun _ _ _ _ _ _ us hl => match us, hl with | [_], _ => rfl⟩
theorem k__law_like (T : Txt K mg a) : PySem.W.keepIn K (.ref a.f__law_like) = true := T.F__law_like.kp
theorem b0__law_like (T : Txt K mg a) : ∃ dsv, Vals [] dsv ∧ Binds K a.fd__law_like ["_law_a", "_law_b"] dsv := ⟨[], .nil, T.F__law_like.bindsN fun _ _ _ _ _ _ us hl => match us, hl with | [_, _], _ => rfl⟩
theorem kb0_read_wish (T : Txt K mg a) : KBp K a.fd_read_wish ["text"] 0 ["text"] [0] := kbp_none T.F_read_wish _ _ _ fun _ _ _ _ _ _ us ws h1 h2 => match us, ws, h1, h2 with | [], [_], _, _ => rfl
def tf__law_draws : TDF := fun ds Q => ds = [.raw .non] ∧ False
theorem cutV_map (ns : List Int) (lo hi : Option Int) : cutV (ns.map V.int) lo hi = (cut ns lo hi).map V.int := by
  unfold cutV cut
  rw [List.length_map, List.map_take, List.map_drop]
theorem cut_len {α : Type} (xs : List α) (lo hi : Option Int) : (cut xs lo hi).length ≤ xs.length := by
  unfold cut
  rw [List.length_take, List.length_drop]
  omega
def spDraws (K : PySem.W.Frag) : Sp := fun vs H Q _ => ∃ (s : Addr) (ns : List Int), vs = [.ref s] ∧ SqL K H s (ns.map V.int) ∧ ns.length ≤ 63 ∧ ∀ H' p l, Grow H H' → BagAt H' p l → Q (.ref p) H'
theorem ok__law_draws (T : Txt K mg a) : FnOk P w K mg base CX0 1 a.f__law_draws a.fd__law_draws ["_law_script"] (spDraws K) := by
  refine T.F__law_draws.ok sc__law_draws (fun vs H Q E h => ?_) (fun cdv A outer s H vs Q E hr h => ?_)
  · obtain ⟨s, ns, rfl, _⟩ := h
    rfl
  · obtain ⟨sc, ns, rfl, hS, hlen, q⟩ := h
    refine ⟨_, PSs.nox (pss_cons (ps_set (i := 1) sc__law_draws.nd rfl (Or.inl rfl) pe_int)
      (pss_cons (ps_for PassesOwn.never rfl (pi_list (pe_slice sl_list (pv 0) po_none (po_some pe_int))) (pg_name (i := 2) sc__law_draws.nd rfl (Or.inl rfl))
        (pss_one (ps_set (i := 1) sc__law_draws.nd rfl (Or.inl rfl) (pe_op op_mod (pe_callTy call_int1 (by rfl) T.n_int (by decide +kernel) (pa_cons (pe_op op_add (pe_op op_add (pe_op op_mul (pv 1) pe_int) (pe_op op_mod (pe_callTy call_int1 (by rfl) T.n_int (by decide +kernel) (pa_cons (pv 2) pa_nil)) pe_int)) pe_int) pa_nil)) pe_int))))
      (pss_one (ps_ret (pe_lst (pa_cons (pe_callTy call_list_of (by rfl) T.n_list (by decide +kernel) (pa_cons (pe_slice sl_list (pv 0) po_none (po_some pe_int)) pa_nil)) (pa_cons pe_int (pa_cons pe_int (pa_cons (pv 1) (pa_cons pe_int pa_nil)))))))))), ?_⟩
    refine ⟨.ref sc, rfl, 63, rfl, sc, _, rfl, hS, fun c hc => ?_⟩
    have g1 : Grow H (upd H c (.lst (cutV (ns.map V.int) none (some 63)))) := fun b o e => by rw [upd_ne (ne_of_none e hc)]; exact e
    generalize hH1 : upd H c (.lst (cutV (ns.map V.int) none (some 63))) = H1 at g1
    have hc1 : H1 c = some (.lst ((cut ns none (some 63)).map V.int)) := by rw [← hH1, upd_same, cutV_map]
    refine ⟨c, rfl, ⟨_, .of hc1⟩, for_list (xs := (cut ns none (some 63)).map V.int) (fun i σ H2 => ∃ (sd : Int) (c2 : Option V), σ = [some (.ref sc), some (.int sd), c2] ∧ H2 = H1 ∧ 0 ≤ sd ∧ sd < 2147483549) ⟨12013, none, rfl, rfl, by decide, by decide⟩ (fun i σ H2 _ hP => ?_) (fun i x σ H2 hx hP => ?_) (fun σ H2 hP => ?_)⟩
    · obtain ⟨_, _, _, rfl, _⟩ := hP
      exact .of hc1
    · obtain ⟨sd, c2, rfl, rfl, s0, s1⟩ := hP
      obtain ⟨n, rfl⟩ : ∃ n, x = .int n := by
        have := List.mem_of_getElem? hx
        simp only [List.mem_map] at this
        obtain ⟨n, _, rfl⟩ := this
        exact ⟨n, rfl⟩
      refine ⟨.int sd, rfl, sd, 44017, rfl, rfl, .inr ⟨by decide, by decide⟩, .int n, rfl, .inl ⟨n, rfl, n, 2147483353, rfl, rfl, (by show (0 : Int) < 2147483353; decide), _, _, rfl, rfl, _, 91, rfl, rfl, .inl ⟨_, rfl, _, 2147483549, rfl, rfl, (by show (0 : Int) < 2147483549; decide), ?_⟩⟩⟩
      exact ⟨_, some (.int n), rfl, rfl, Int.emod_nonneg _ (by decide), Int.emod_lt_of_pos _ (by decide)⟩
    · obtain ⟨sd, c2, rfl, rfl, s0, s1⟩ := hP
      have hS1 : SqL K H2 sc (ns.map V.int) := by
        rcases hS with hS | hS
        · rcases hS with e | ⟨o, e⟩
          · exact .inl (.inl (g1 _ _ e))
          · exact .inl (.inr ⟨o, g1 _ _ e⟩)
        · exact .inr hS
      refine ⟨.ref sc, rfl, 63, rfl, sc, _, rfl, hS1, fun c3 hc3 => ?_⟩
      refine ⟨c3, _, rfl, .inl (.of upd_same), fun l hl => ?_⟩
      refine ⟨.int sd, rfl, (by show 5 ≤ sizeLine; decide), fun p hp => ?_⟩
      have n1 : p ≠ l := by
        rintro rfl
        rw [upd_same] at hp
        cases hp
      refine q _ p l (fun b o e => ?_) ⟨n1, cut ns none (some 63), 0, 0, sd, 0, upd_same, ?_, Nat.le_trans (cut_len _ _ _) hlen, by decide, by decide, s0, s1, by decide⟩
      · have e1 := g1 b o e
        have m1 := ne_of_none e1 hc3
        have e2 : upd H2 c3 (.lst (cutV (ns.map V.int) none (some 63))) b = some o := by rw [upd_ne m1]; exact e1
        have m2 := ne_of_none e2 hl
        have e3 : upd (upd H2 c3 (.lst (cutV (ns.map V.int) none (some 63)))) l (.lst (cutV (ns.map V.int) none (some 63))) b = some o := by rw [upd_ne m2]; exact e2
        rw [upd_ne (ne_of_none e3 hp)]; exact e3
      · rw [upd_ne (Ne.symm n1), upd_same, cutV_map]
def tf__law_pull : TDF := fun ds Q => ∃ (s : Int), ds = [.bag, .int s] ∧ (0 < s ∧ s < 1073741824) ∧ ∀ n : Int, 0 ≤ n → n < s → Q (.int n)
theorem ar__law_pull : ∀ ds Q, tf__law_pull ds Q → ds.length = 2 := by
  rintro ds Q ⟨_, rfl, _⟩
  rfl
structure BS (H0 H : Hp) (a l : Addr) (ns : List Int) (at_ big seed cnt : Int) : Prop where
  ba : H a = some (.lst [.ref l, .int at_, .int big, .int seed, .int cnt])
  bl : H l = some (.lst (ns.map .int))
  oth : ∀ b o, b ≠ a → H0 b = some o → H b = some o
theorem BS.set {H0 H : Hp} {a l : Addr} {ns : List Int} {at_ big seed cnt at2 big2 seed2 cnt2 : Int} (h : BS H0 H a l ns at_ big seed cnt) (ne : a ≠ l) : BS H0 (upd H a (.lst [.ref l, .int at2, .int big2, .int seed2, .int cnt2])) a l ns at2 big2 seed2 cnt2 :=
  ⟨upd_same, by rw [upd_ne (Ne.symm ne)]; exact h.bl, fun b o n e => by rw [upd_ne n]; exact h.oth b o n e⟩
theorem BS.new {H0 H : Hp} {a l : Addr} {ns : List Int} {at_ big seed cnt : Int} (h : BS H0 H a l ns at_ big seed cnt) {p : Addr} {o : HO} (hp : H p = none) : BS H0 (upd H p o) a l ns at_ big seed cnt :=
  ⟨by rw [upd_ne (ne_of_none h.ba hp)]; exact h.ba, by rw [upd_ne (ne_of_none h.bl hp)]; exact h.bl, fun b u n e => by rw [upd_ne (ne_of_none (h.oth b u n e) hp)]; exact h.oth b u n e⟩
theorem seq_by {t u : TS} {D : Ends} {σ : St} {H : Hp} (R : St → Hp → Prop) (hu : ∀ σ2 H2, R σ2 H2 → u D σ2 H2) (ht : ∀ nx : St → Hp → Prop, (∀ σ2 H2, R σ2 H2 → nx σ2 H2) → t { D with nx := nx } σ H) : tSeq t u D σ H := ht _ hu
theorem ok__law_pull (T : Txt K mg a) : FnOk P w K mg base CX0 1 a.f__law_pull a.fd__law_pull ["_law_bag", "_law_sides"] (spE 2 tf__law_pull) := by
  refine T.F__law_pull.ok sc__law_pull (fun vs H Q E h => h.1) (fun cdv A outer s H vs Q E hr h => ?_)
  obtain ⟨hl, z, M, ds, Qd, Am, r, ⟨sd, rfl, ⟨hs0, hs1⟩, hq⟩, k⟩ := h
  rcases r with _ | ⟨r1, r2⟩
  rcases r2 with _ | ⟨r2, r3⟩
  cases r3
  cases r2
  cases r1 with
  | @bag b l ez =>
    have hB := Am.bag.bg b l ez
    obtain ⟨ne, ns, at_, big, seed, cnt, ba, bl, hns, h1, h2, h3, h4, h5⟩ := hB
    have B0 : BS H H b l ns at_ big seed cnt := ⟨ba, bl, fun _ _ _ e => e⟩
    have fin : ∀ (H' : Hp) (at_ big seed cnt n : Int), BS H H' b l ns at_ big seed cnt → 0 ≤ at_ → 0 ≤ big → 0 ≤ seed → seed < 2147483549 → 0 ≤ cnt → 0 ≤ n → n < sd → Q (.int n) H' := fun H' at_ big seed cnt n B g1 g2 g3 g4 g5 n0 n1 => by
      refine k (.int n) (.int n) H' (hq n n0 n1) (fun c o e nb => B.oth c o (fun h => nb (.inl ⟨l, by rw [h]; exact ez⟩)) e) ⟨fun p q e => ?_, fun P e => ?_, Am.bag.ap⟩ (.int n)
      · rw [ez] at e
        cases e
        exact ⟨ne, ns, at_, big, seed, cnt, B.ba, B.bl, hns, g1, g2, g3, g4, g5⟩
      · obtain ⟨ps, e1, e2, e3⟩ := Am.bag.tb P e
        have nP : P ≠ b := fun q => (Am.bag.ap b l P ez e).1 q.symm
        refine ⟨ps, B.oth P _ nP e1, e2, fun pos cv hc => ?_⟩
        obtain ⟨c, f1, f2⟩ := e3 pos cv hc
        refine ⟨c, f1, B.oth c _ (fun q => ?_) f2⟩
        subst q
        rw [ba] at f2
        cases f2
    refine ⟨_, PSs.nox (pss_cons (ps_asg (pe_op op_add (pe_ix ix_list (pv 0) pe_int (fun _ _ => rfl)) pe_int) (pg_sub (pv 0) pe_int set_list))
      (pss_cons (ps_if (PW.pt (pw_and (pt_cmpR op_eq (pe_ix ix_list (pv 0) pe_int (fun _ _ => rfl)) pe_int (nomark _)) (pw_and1 (pt_cmpR op_lt (pe_ix ix_list (pv 0) pe_int (fun _ _ => rfl)) (pe_callB call_len_seq (by rfl) T.n_len PySem.boot_len (pa_cons (pe_ix ix_list (pv 0) pe_int (fun _ _ => rfl)) pa_nil)) (nomark _)))))
        (pss_cons (ps_asg (pe_tup (pa_cons (pe_ix ix_list (pe_ix ix_list (pv 0) pe_int (fun _ _ => rfl)) (pe_ix ix_list (pv 0) pe_int (fun _ _ => rfl)) (fun _ _ => rfl)) (pa_cons (pe_op op_add (pe_ix ix_list (pv 0) pe_int (fun _ _ => rfl)) pe_int) pa_nil)))
            (pg_tup rfl (pgs_cons (pg_name (i := 2) sc__law_pull.nd rfl (Or.inl rfl)) (pgs_cons (pg_sub (pv 0) pe_int set_list) pgs_nil))))
        (pss_cons (ps_if (pt_cmpR op_ge (pv 2) (pe_op op_pow pe_int pe_int) (nomark _)) (pss_one (ps_asg (pv 2) (pg_sub (pv 0) pe_int set_list))) pss_nil)
        (pss_one (ps_asg (pe_op op_mod (pe_callTy call_int1 (by rfl) T.n_int (by decide +kernel) (pa_cons (pe_op op_add (pe_op op_add (pe_op op_mul (pe_ix ix_list (pv 0) pe_int (fun _ _ => rfl)) pe_int) (pe_op op_mul (pe_op op_mod (pe_callTy call_int1 (by rfl) T.n_int (by decide +kernel) (pa_cons (pv 2) pa_nil)) pe_int) pe_int)) pe_int) pa_nil)) pe_int) (pg_sub (pv 0) pe_int set_list)))))
        pss_nil)
      (pss_cons (ps_if (pt_cmpR op_gt (pe_ix ix_list (pv 0) pe_int (fun _ _ => rfl)) pe_int (nomark _))
        (pss_cons (ps_asg (pe_tup (pa_cons (pe_op op_mod (pe_callTy call_int1 (by rfl) T.n_int (by decide +kernel) (pa_cons (pe_ix ix_list (pv 0) pe_int (fun _ _ => rfl)) pa_nil)) (pv 1)) (pa_cons (pe_op op_fdiv (pe_ix ix_list (pv 0) pe_int (fun _ _ => rfl)) (pv 1)) pa_nil)))
            (pg_tup rfl (pgs_cons (pg_name (i := 3) sc__law_pull.nd rfl (Or.inl rfl)) (pgs_cons (pg_sub (pv 0) pe_int set_list) pgs_nil))))
          (pss_one (ps_ret (pv 3)))) pss_nil)
      (pss_cons (ps_set (i := 4) sc__law_pull.nd rfl (Or.inl rfl) (pe_ix ix_list (pv 0) pe_int (fun _ _ => rfl)))
      (pss_cons (ps_asg (pe_op op_mod (pe_callTy call_int1 (by rfl) T.n_int (by decide +kernel) (pa_cons (pe_op op_add (pe_op op_add (pe_op op_add (pe_op op_pow (pv 4) pe_int) (pe_op op_mul (pv 4) pe_int)) (pe_op op_mul (pe_ix ix_list (pv 0) pe_int (fun _ _ => rfl)) pe_int)) pe_int) pa_nil)) pe_int) (pg_sub (pv 0) pe_int set_list))
      (pss_one (ps_ret (pe_op op_mod (pe_callTy call_int1 (by rfl) T.n_int (by decide +kernel) (pa_cons (pe_op op_add (pe_op op_fdiv (pe_ix ix_list (pv 0) pe_int (fun _ _ => rfl)) pe_int) (pe_op op_mul (pe_op op_mod (pe_callTy call_int1 (by rfl) T.n_int (by decide +kernel) (pa_cons (pe_ix ix_list (pv 0) pe_int (fun _ _ => rfl)) pa_nil)) pe_int) pe_int)) pa_nil)) (pv 1))))))))), ?_⟩
    -- bag[4] = bag[4] + 1
    refine ⟨.ref b, rfl, b, _, 4, _, rfl, rfl, .of ba, rfl, _, _, rfl, rfl, .ref b, rfl, b, _, 4, 4, rfl, rfl, ba, rfl, ?_⟩
    have B1 := B0.set (at2 := at_) (big2 := big) (seed2 := seed) (cnt2 := cnt + 1) ne
    have hcnt : 0 ≤ cnt + 1 := by omega
    dsimp only
    refine seq_by (fun σ2 H2 => ∃ (at2 big2 seed2 : Int) (c2 : Option V), σ2 = [some (.ref b), some (.int sd), c2, none, none] ∧ BS H H2 b l ns at2 big2 seed2 (cnt + 1) ∧ 0 ≤ at2 ∧ 0 ≤ big2 ∧ 0 ≤ seed2 ∧ seed2 < 2147483549) (fun σ2 H2 hR => ?_) (fun nx hnx => ?_)
    · obtain ⟨at2, big2, seed2, c2, rfl, B2, g1, g2, g3, g4⟩ := hR
      refine ⟨.ref b, rfl, b, _, 2, _, rfl, rfl, .of B2.ba, rfl, _, _, rfl, rfl, _, rfl, ?_⟩
      refine ite2 (fun e1 => ?_) (fun e1 => ?_)
      · refine ⟨.ref b, rfl, b, _, 2, _, rfl, rfl, .of B2.ba, rfl, .inl ⟨big2, rfl, .int sd, rfl, big2, sd, rfl, rfl, hs0, .ref b, rfl, b, _, 2, _, rfl, rfl, .of B2.ba, rfl, .int sd, rfl, big2, sd, rfl, rfl, ⟨hs0, hs1⟩, (by show 2 ≤ sizeLine; decide), fun tp htp => ?_⟩⟩
        have B3 := B2.new (o := .tup [.int (big2 % sd), .int (big2 / sd)]) htp
        refine ⟨tp, _, rfl, .of upd_same, rfl, _, _, rfl, _, _, rfl, .ref b, rfl, b, _, 2, 2, rfl, rfl, B3.ba, rfl, rfl, ?_⟩
        have B4 := B3.set (at2 := at2) (big2 := big2 / sd) (seed2 := seed2) (cnt2 := cnt + 1) ne
        exact ⟨.int (big2 % sd), rfl, fin _ _ _ _ _ _ B4 g1 (Int.ediv_nonneg g2 (by omega)) g3 g4 hcnt (Int.emod_nonneg _ (by omega)) (Int.emod_lt_of_pos _ hs0)⟩
      · refine ⟨.ref b, rfl, b, _, 3, _, rfl, rfl, .of B2.ba, rfl, ?_⟩
        have hpow : CPow seed2 3 := ⟨by decide, by decide, by omega⟩
        refine ⟨.int seed2, rfl, seed2, 3, rfl, rfl, hpow, .int seed2, rfl, seed2, 36979, rfl, rfl, .inr ⟨by decide, by decide⟩, _, _, rfl, rfl, .ref b, rfl, b, _, 4, _, rfl, rfl, .of B2.ba, rfl, _, 1299827, rfl, rfl, .inr ⟨by decide, by decide⟩, _, _, rfl, rfl, _, 50021, rfl, rfl, .inl ⟨_, rfl, _, 2147483549, rfl, rfl, (by show (0 : Int) < 2147483549; decide), .ref b, rfl, b, _, 3, 3, rfl, rfl, B2.ba, rfl, ?_⟩⟩
        have B4 := B2.set (at2 := at2) (big2 := big2) (seed2 := (seed2 ^ (3 : Int).toNat + seed2 * 36979 + (cnt + 1) * 1299827 + 50021) % 2147483549) (cnt2 := cnt + 1) ne
        have hm : 0 ≤ (seed2 ^ (3 : Int).toNat + seed2 * 36979 + (cnt + 1) * 1299827 + 50021) % 2147483549 ∧ (seed2 ^ (3 : Int).toNat + seed2 * 36979 + (cnt + 1) * 1299827 + 50021) % 2147483549 < 2147483549 := ⟨Int.emod_nonneg _ (by decide), Int.emod_lt_of_pos _ (by decide)⟩
        refine ⟨.ref b, rfl, b, _, 3, _, rfl, rfl, .of B4.ba, rfl, _, 89, rfl, rfl, ⟨by decide, by decide⟩, .ref b, rfl, b, _, 3, _, rfl, rfl, .of B4.ba, rfl, .inl ⟨_, rfl, _, 7907, rfl, rfl, (by show (0 : Int) < 7907; decide), _, 61, rfl, rfl, .inr ⟨by decide, by decide⟩, _, _, rfl, rfl, .inl ⟨_, rfl, .int sd, rfl, _, sd, rfl, rfl, hs0, ?_⟩⟩⟩
        exact fin _ _ _ _ _ _ B4 g1 g2 hm.1 hm.2 hcnt (Int.emod_nonneg _ (by omega)) (Int.emod_lt_of_pos _ hs0)
    refine ⟨.ref b, rfl, b, _, 2, _, rfl, rfl, .of B1.ba, rfl, rfl, _, rfl, ?_⟩
    have e18 : ((10 : Int) ^ (18 : Int).toNat) = 1000000000000000000 := by decide
    refine ite2 (fun e1 => ?_) (fun e1 => ?_)
    · refine ⟨.ref b, rfl, b, _, 1, _, rfl, rfl, .of B1.ba, rfl, .ref b, rfl, b, _, 0, _, rfl, rfl, .of B1.ba, rfl, l, _, rfl, .inl (.of B1.bl), _, _, rfl, rfl, _, rfl, ?_⟩
      refine ite2 (fun e2 => ?_) (fun e2 => ?_)
      · have hlt : at_ < ((ns.map V.int).length : Int) := of_decide_eq_true e2
        rw [List.length_map] at hlt
        have hat : at_.toNat < ns.length := by omega
        have hix : atI (ns.map V.int) at_ = some (.int ns[at_.toNat]) := by
          have := atI_nat (xs := ns.map V.int) (j := at_.toNat) (v := .int ns[at_.toNat]) (by rw [List.getElem?_map, List.getElem?_eq_getElem hat]; rfl)
          rw [Int.toNat_of_nonneg h1] at this
          exact this
        generalize ns[at_.toNat] = cell at hix
        -- cell, bag[1] = bag[0][bag[1]], bag[1] + 1
        refine ⟨.ref b, rfl, b, _, 0, _, rfl, rfl, .of B1.ba, rfl, .ref b, rfl, b, _, 1, _, rfl, rfl, .of B1.ba, rfl, l, _, at_, .int cell, rfl, rfl, .of B1.bl, hix, .ref b, rfl, b, _, 1, _, rfl, rfl, .of B1.ba, rfl, _, _, rfl, rfl, (by show 2 ≤ sizeLine; decide), fun tp htp => ?_⟩
        have B2 := B1.new (o := .tup [.int cell, .int (at_ + 1)]) htp
        refine ⟨tp, _, rfl, .of upd_same, rfl, _, _, rfl, _, _, rfl, .ref b, rfl, b, _, 1, 1, rfl, rfl, B2.ba, rfl, rfl, ?_⟩
        have B3 := B2.set (at2 := at_ + 1) (big2 := big) (seed2 := seed) (cnt2 := cnt + 1) ne
        -- if cell >= 10 ** 18
        refine ⟨.int cell, rfl, 10, 18, rfl, rfl, ⟨by decide, by decide, by decide⟩, cell, _, rfl, rfl, _, rfl, ?_⟩
        have hmod : ∀ x : Int, 0 ≤ x % 2147483549 ∧ x % 2147483549 < 2147483549 := fun x => ⟨Int.emod_nonneg _ (by decide), Int.emod_lt_of_pos _ (by decide)⟩
        refine ite2 (fun e3 => ?_) (fun e3 => ?_)
        · have hcell : (1000000000000000000 : Int) ≤ cell := by rw [← e18]; exact of_decide_eq_true e3
          refine ⟨.int cell, rfl, .ref b, rfl, b, _, 2, 2, rfl, rfl, B3.ba, rfl, ?_⟩
          have B4 := B3.set (at2 := at_ + 1) (big2 := cell) (seed2 := seed) (cnt2 := cnt + 1) ne
          refine ⟨.ref b, rfl, b, _, 3, _, rfl, rfl, .of B4.ba, rfl, seed, 39217, rfl, rfl, .inr ⟨by decide, by decide⟩, .int cell, rfl, .inl ⟨cell, rfl, cell, 2147483353, rfl, rfl, (by show (0 : Int) < 2147483353; decide), _, 41231, rfl, rfl, .inr ⟨by decide, by decide⟩, _, _, rfl, rfl, _, 71, rfl, rfl, .inl ⟨_, rfl, _, 2147483549, rfl, rfl, (by show (0 : Int) < 2147483549; decide), .ref b, rfl, b, _, 3, 3, rfl, rfl, B4.ba, rfl, ?_⟩⟩⟩
          have hm := hmod (seed * 39217 + cell % 2147483353 * 41231 + 71)
          have B5 := B4.set (at2 := at_ + 1) (big2 := cell) (seed2 := (seed * 39217 + cell % 2147483353 * 41231 + 71) % 2147483549) (cnt2 := cnt + 1) ne
          exact hnx _ _ ⟨at_ + 1, cell, _, some (.int cell), rfl, B5, by omega, by omega, hm.1, hm.2⟩
        · refine ⟨.ref b, rfl, b, _, 3, _, rfl, rfl, .of B3.ba, rfl, seed, 39217, rfl, rfl, .inr ⟨by decide, by decide⟩, .int cell, rfl, .inl ⟨cell, rfl, cell, 2147483353, rfl, rfl, (by show (0 : Int) < 2147483353; decide), _, 41231, rfl, rfl, .inr ⟨by decide, by decide⟩, _, _, rfl, rfl, _, 71, rfl, rfl, .inl ⟨_, rfl, _, 2147483549, rfl, rfl, (by show (0 : Int) < 2147483549; decide), .ref b, rfl, b, _, 3, 3, rfl, rfl, B3.ba, rfl, ?_⟩⟩⟩
          have hm := hmod (seed * 39217 + cell % 2147483353 * 41231 + 71)
          have B5 := B3.set (at2 := at_ + 1) (big2 := big) (seed2 := (seed * 39217 + cell % 2147483353 * 41231 + 71) % 2147483549) (cnt2 := cnt + 1) ne
          exact hnx _ _ ⟨at_ + 1, big, _, some (.int cell), rfl, B5, by omega, by omega, hm.1, hm.2⟩
      · exact hnx _ _ ⟨at_, big, seed, none, rfl, B1, h1, h2, h3, h4⟩
    · exact hnx _ _ ⟨at_, big, seed, none, rfl, B1, h1, h2, h3, h4⟩
def tf__law_any : TDF := fun ds Q => ∃ (r : D) (rs : List D), ds = [.bag, r] ∧ itemsD r = some rs ∧ 0 < rs.length ∧ rs.length < 16777216 ∧ ∀ d ∈ rs, Q d
theorem ar__law_any : ∀ ds Q, tf__law_any ds Q → ds.length = 2 := by
  rintro ds Q ⟨_, _, rfl, _⟩
  rfl
theorem atI_some {α : Type} {xs : List α} {i : Int} (h0 : 0 ≤ i) (h1 : i < xs.length) : ∃ d, atI xs i = some d := by
  have hl : i.toNat < xs.length := by omega
  have := atI_nat (xs := xs) (j := i.toNat) (List.getElem?_eq_getElem hl)
  rw [Int.toNat_of_nonneg h0] at this
  exact ⟨_, this⟩
theorem atI_mem {α : Type} {xs : List α} {i : Int} {d : α} (h : atI xs i = some d) : d ∈ xs := by
  unfold atI at h
  cases e : ixN xs.length i with
  | none => rw [e] at h; cases h
  | some j => rw [e] at h; exact List.mem_of_getElem? h
def tf_is_word : TDF := fun ds Q => ∃ (d : D) (m : Int), ds = [d, .int m] ∧ ((tyN d).isSome = true ∧ lenOk d) ∧ Q (.bl (isWordD d m))
theorem ar_is_word : ∀ ds Q, tf_is_word ds Q → ds.length = 2 := by
  rintro ds Q ⟨_, _, rfl, _⟩
  rfl
inductive Wi where
  | lf (b : Bool) (ws : List (List Nat))
  | bh (w : List Nat) (t : Wi)
  | jn (b : Bool) (t u : Wi)
  | nm (s : List Nat)
abbrev nvL : List Nat := [110, 101, 118, 101, 114]
abbrev blL : List Nat := [98, 108, 111, 99, 107, 115]
abbrev bhL : List Nat := [98, 101, 104, 105, 110, 100]
abbrev boL : List Nat := [98, 111, 116, 104]
abbrev eiL : List Nat := [101, 105, 116, 104, 101, 114]
theorem never_eq : (Str.ofString "never").cps.toList = nvL := by decide +kernel
theorem blocks_eq : (Str.ofString "blocks").cps.toList = blL := by decide +kernel
theorem behind_eq : (Str.ofString "behind").cps.toList = bhL := by decide +kernel
theorem behindc_eq : (Str.ofString "behind:").cps.toList = bhL ++ [58] := by decide +kernel
theorem both_eq : (Str.ofString "both").cps.toList = boL := by decide +kernel
theorem either_eq : (Str.ofString "either").cps.toList = eiL := by decide +kernel
theorem colon_eq : (Str.ofString ":").cps.toList = [58] := by decide +kernel
theorem comma_eq : (Str.ofString ",").cps.toList = [44] := by decide +kernel
theorem spc_eq : (Str.ofString " ").cps.toList = [32] := by decide +kernel
def hdW (b : Bool) : List Nat := if b then nvL else blL
def jnW (b : Bool) : List Nat := if b then boL else eiL
def tokW : Wi → List (List Nat)
  | .lf b ws => [hdW b ++ [58] ++ joinL [44] ws]
  | .bh w t => tokW t ++ [bhL ++ [58] ++ w]
  | .jn b t u => tokW t ++ tokW u ++ [jnW b]
  | .nm s => [s]
/-- the words in order, each once -/
def insW (x : List Nat) : List (List Nat) → List (List Nat)
  | [] => [x]
  | y :: r => if x < y then x :: y :: r else if x = y then y :: r else y :: insW x r
def srtW : List (List Nat) → List (List Nat)
  | [] => []
  | x :: r => insW x (srtW r)
theorem mem_insW {x z : List Nat} : ∀ {r : List (List Nat)}, z ∈ insW x r ↔ z = x ∨ z ∈ r
  | [] => by simp [insW]
  | y :: r => by
    unfold insW
    by_cases h1 : x < y
    · rw [if_pos h1, List.mem_cons]
    · rw [if_neg h1]
      by_cases h2 : x = y
      · rw [if_pos h2, h2]; simp
      · rw [if_neg h2, List.mem_cons, mem_insW, List.mem_cons]
        constructor
        · rintro (h | h | h)
          · exact .inr (.inl h)
          · exact .inl h
          · exact .inr (.inr h)
        · rintro (h | h | h)
          · exact .inr (.inl h)
          · exact .inl h
          · exact .inr (.inr h)
theorem lt_of_nl {x y : List Nat} (h : ¬ x < y) (n : x ≠ y) : y < x := by
  by_cases h2 : y < x
  · exact h2
  · exact absurd (List.le_antisymm (List.not_lt.mp h2) (List.not_lt.mp h)) n
theorem sorted_insW {x : List Nat} : ∀ {r : List (List Nat)}, r.Pairwise (· < ·) → (insW x r).Pairwise (· < ·)
  | [], _ => by simp [insW]
  | y :: r, h => by
    obtain ⟨h1, h2⟩ := List.pairwise_cons.mp h
    unfold insW
    by_cases g1 : x < y
    · rw [if_pos g1]
      refine List.pairwise_cons.mpr ⟨fun z hz => ?_, h⟩
      rcases List.mem_cons.mp hz with rfl | hz
      · exact g1
      · exact List.lt_trans g1 (h1 z hz)
    · rw [if_neg g1]
      by_cases g2 : x = y
      · rw [if_pos g2]; exact h
      · rw [if_neg g2]
        refine List.pairwise_cons.mpr ⟨fun z hz => ?_, sorted_insW h2⟩
        rcases mem_insW.mp hz with rfl | hz
        · exact lt_of_nl g1 g2
        · exact h1 z hz
theorem mem_srtW {z : List Nat} : ∀ {r : List (List Nat)}, z ∈ srtW r ↔ z ∈ r
  | [] => Iff.rfl
  | x :: r => by rw [srtW, mem_insW, mem_srtW, List.mem_cons]
theorem sorted_srtW : ∀ r : List (List Nat), (srtW r).Pairwise (· < ·)
  | [] => .nil
  | x :: r => sorted_insW (sorted_srtW r)
theorem sorted_one : ∀ {l m : List (List Nat)}, l.Pairwise (· < ·) → m.Pairwise (· < ·) → (∀ x, x ∈ l ↔ x ∈ m) → l = m
  | [], [], _, _, _ => rfl
  | [], y :: m, _, _, h => by cases (h y).mpr (by simp)
  | x :: l, [], _, _, h => by cases (h x).mp (by simp)
  | x :: l, y :: m, h1, h2, h => by
    obtain ⟨a1, a2⟩ := List.pairwise_cons.mp h1
    obtain ⟨b1, b2⟩ := List.pairwise_cons.mp h2
    have e : x = y := by
      rcases List.mem_cons.mp ((h x).mp (by simp)) with e | hx
      · exact e
      · rcases List.mem_cons.mp ((h y).mpr (by simp)) with e | hy
        · exact e.symm
        · exact absurd (List.lt_trans (a1 y hy) (b1 x hx)) (List.lt_irrefl x)
    subst e
    rw [sorted_one a2 b2 fun z => ?_]
    constructor
    · intro hz
      rcases List.mem_cons.mp ((h z).mp (List.mem_cons_of_mem _ hz)) with e | hz2
      · subst e; exact absurd (a1 z hz) (List.lt_irrefl z)
      · exact hz2
    · intro hz
      rcases List.mem_cons.mp ((h z).mpr (List.mem_cons_of_mem _ hz)) with e | hz2
      · subst e; exact absurd (b1 z hz) (List.lt_irrefl z)
      · exact hz2
theorem srtW_eq {ws us : List (List Nat)} (h1 : us.Pairwise (· < ·)) (h2 : ∀ x, x ∈ us ↔ x ∈ ws) : us = srtW ws := sorted_one h1 (sorted_srtW ws) fun x => (h2 x).trans mem_srtW.symm
theorem insW_len (x : List Nat) : ∀ r : List (List Nat), (insW x r).length ≤ r.length + 1
  | [] => Nat.le_refl _
  | y :: r => by
    unfold insW
    by_cases h1 : x < y
    · rw [if_pos h1]; simp
    · rw [if_neg h1]
      by_cases h2 : x = y
      · rw [if_pos h2]; simp
      · rw [if_neg h2]; have := insW_len x r; simp; exact this
theorem srtW_len : ∀ r : List (List Nat), (srtW r).length ≤ r.length
  | [] => Nat.le_refl _
  | x :: r => by have := insW_len x (srtW r); have := srtW_len r; simp [srtW]; omega
def wiD (a : Adr) : Wi → D
  | .lf b ws => .ins (if b then a.C_Never else a.C_Blocks) ["words", "parts", "own_tokens"] [.tup (ws.map .str), .tup [], .lst ((tokW (.lf b ws)).map .str)]
  | .bh w t => .ins a.C_Behind ["parts", "own_tokens", "word"] [.tup [wiD a t], .lst ((tokW (.bh w t)).map .str), .str w]
  | .jn b t u => .ins (if b then a.C_Both else a.C_Either) ["parts", "own_tokens"] [.tup [wiD a t, wiD a u], .lst ((tokW (.jn b t u)).map .str)]
  | .nm s => .ins a.C_Named ["parts", "own_tokens", "name"] [.tup [], .lst ((tokW (.nm s)).map .str), .str s]
def WiC (a : Adr) (C : Addr) : Prop := C = a.C_Never ∨ C = a.C_Blocks ∨ C = a.C_Behind ∨ C = a.C_Both ∨ C = a.C_Either ∨ C = a.C_Named
theorem WiC.cls (T : Txt K mg a) {C : Addr} (h : WiC a C) : Cls K C := by
  rcases h with rfl | rfl | rfl | rfl | rfl | rfl
  · exact T.cl_Never
  · exact T.cl_Blocks
  · exact T.cl_Behind
  · exact T.cl_Both
  · exact T.cl_Either
  · exact T.cl_Named
theorem WiC.parts (T : Txt K mg a) {C : Addr} (h : WiC a C) : NoAttr K C "parts" := by
  rcases h with rfl | rfl | rfl | rfl | rfl | rfl
  · exact T.no_Never_parts
  · exact T.no_Blocks_parts
  · exact T.no_Behind_parts
  · exact T.no_Both_parts
  · exact T.no_Either_parts
  · exact T.no_Named_parts
theorem WiC.toks (T : Txt K mg a) {C : Addr} (h : WiC a C) : NoAttr K C "own_tokens" := by
  rcases h with rfl | rfl | rfl | rfl | rfl | rfl
  · exact T.no_Never_own_tokens
  · exact T.no_Blocks_own_tokens
  · exact T.no_Behind_own_tokens
  · exact T.no_Both_own_tokens
  · exact T.no_Either_own_tokens
  · exact T.no_Named_own_tokens
theorem wiD_ins (a : Adr) (t : Wi) : ∃ C ns vs, wiD a t = .ins C ns vs ∧ WiC a C ∧ getF ns vs "own_tokens" = some (.lst ((tokW t).map .str)) := by
  cases t with
  | lf b ws => exact ⟨_, _, _, rfl, by cases b <;> simp [WiC], rfl⟩
  | bh w t => exact ⟨_, _, _, rfl, by simp [WiC], rfl⟩
  | jn b t u => exact ⟨_, _, _, rfl, by cases b <;> simp [WiC], rfl⟩
  | nm s => exact ⟨_, _, _, rfl, by simp [WiC], rfl⟩
theorem not_putN {f : Str} (hf : ("" : Str) ≠ f) : ∀ {ns : List Str}, ("" : Str) ∉ ns → ("" : Str) ∉ putN f ns
  | [], _ => by simpa [putN] using hf
  | n :: ns, h => by
    rw [List.mem_cons, not_or] at h
    unfold putN
    by_cases e : n = f
    · rw [if_pos e, List.mem_cons, not_or]; exact h
    · rw [if_neg e, List.mem_cons, not_or]; exact ⟨h.1, not_putN hf h.2⟩
theorem putN_len (f : Str) : ∀ ns : List Str, (putN f ns).length ≤ ns.length + 1
  | [] => Nat.le_refl _
  | n :: ns => by
    unfold putN
    by_cases e : n = f
    · rw [if_pos e]; simp
    · rw [if_neg e]; have := putN_len f ns; simp; omega
theorem okS {s : List Nat} : okD (.str s) = true ↔ ∀ c ∈ s, c < 1114112 := by
  simp [okD, plainD, dep]
theorem isWd {s : List Nat} {m : Int} (h : isWordD (.str s) m = true) : (s.length : Int) ≤ m ∧ ∀ c ∈ s, lowL c = true := by
  unfold isWordD at h
  rw [Bool.and_eq_true, decide_eq_true_iff] at h
  exact ⟨h.1, List.all_eq_true.mp h.2⟩
theorem isWd_ok {s : List Nat} {m : Int} (h : isWordD (.str s) m = true) : okD (.str s) = true := okS.mpr fun c hc => by
  have := lowL_iff.mp ((isWd h).2 c hc)
  omega
theorem name_any (s : List Nat) : (![D.str [], .str boL, .str eiL].any fun z => deqv z (.str s)) = !decide (s ∈ [[], boL, eiL]) := by
  congr 1
  rw [Bool.eq_iff_iff, decide_eq_true_iff, List.any_eq_true]
  constructor
  · rintro ⟨z, hz, e⟩
    simp only [List.mem_cons, List.not_mem_nil, or_false] at hz
    rcases hz with rfl | rfl | rfl <;> rw [deqv_str, decide_eq_true_iff] at e <;> subst e <;> simp
  · intro h
    refine ⟨.str s, ?_, by rw [deqv_str]; simp⟩
    simp only [List.mem_cons, List.not_mem_nil, or_false] at h
    rcases h with rfl | rfl | rfl <;> simp
theorem mem_flat_len {α β : Type} {f : α → List β} : ∀ {l : List α} {t : α}, t ∈ l → (f t).length ≤ (l.flatMap f).length
  | x :: l, t, h => by
    rw [List.flatMap_cons, List.length_append]
    rcases List.mem_cons.mp h with rfl | h
    · omega
    · have := mem_flat_len (f := f) h; omega
theorem joinL_len (b : List Nat) : ∀ ys : List (List Nat), (joinL b ys).length ≤ (ys.map (·.length)).sum + ys.length * b.length
  | [] => by simp [joinL]
  | [x] => by simp [joinL]
  | x :: y :: r => by
    have := joinL_len b (y :: r)
    simp only [joinL, List.length_append, List.map_cons, List.sum_cons, List.length_cons, Nat.succ_mul] at this ⊢
    omega
theorem sum_le {n : Nat} : ∀ {l : List (List Nat)}, (∀ x ∈ l, x.length ≤ n) → (l.map (·.length)).sum ≤ l.length * n
  | [], _ => by simp
  | x :: l, h => by
    have h1 := h x (by simp)
    have h2 := sum_le (l := l) fun y hy => h y (by simp [hy])
    simp only [List.map_cons, List.sum_cons, List.length_cons, Nat.succ_mul]
    omega
theorem wfn_e_words : ((Str.ofString "") = (Str.ofString "words")) = False := eq_false (by decide +kernel)
theorem wfn_e_parts : ((Str.ofString "") = (Str.ofString "parts")) = False := eq_false (by decide +kernel)
theorem wfn_e_own_tokens : ((Str.ofString "") = (Str.ofString "own_tokens")) = False := eq_false (by decide +kernel)
theorem wfn_e_word : ((Str.ofString "") = (Str.ofString "word")) = False := eq_false (by decide +kernel)
theorem wfn_e_name : ((Str.ofString "") = (Str.ofString "name")) = False := eq_false (by decide +kernel)
theorem wfn_words_e : ((Str.ofString "words") = (Str.ofString "")) = False := eq_false (by decide +kernel)
theorem wfn_words_parts : ((Str.ofString "words") = (Str.ofString "parts")) = False := eq_false (by decide +kernel)
theorem wfn_words_own_tokens : ((Str.ofString "words") = (Str.ofString "own_tokens")) = False := eq_false (by decide +kernel)
theorem wfn_words_word : ((Str.ofString "words") = (Str.ofString "word")) = False := eq_false (by decide +kernel)
theorem wfn_words_name : ((Str.ofString "words") = (Str.ofString "name")) = False := eq_false (by decide +kernel)
theorem wfn_parts_e : ((Str.ofString "parts") = (Str.ofString "")) = False := eq_false (by decide +kernel)
theorem wfn_parts_words : ((Str.ofString "parts") = (Str.ofString "words")) = False := eq_false (by decide +kernel)
theorem wfn_parts_own_tokens : ((Str.ofString "parts") = (Str.ofString "own_tokens")) = False := eq_false (by decide +kernel)
theorem wfn_parts_word : ((Str.ofString "parts") = (Str.ofString "word")) = False := eq_false (by decide +kernel)
theorem wfn_parts_name : ((Str.ofString "parts") = (Str.ofString "name")) = False := eq_false (by decide +kernel)
theorem wfn_own_tokens_e : ((Str.ofString "own_tokens") = (Str.ofString "")) = False := eq_false (by decide +kernel)
theorem wfn_own_tokens_words : ((Str.ofString "own_tokens") = (Str.ofString "words")) = False := eq_false (by decide +kernel)
theorem wfn_own_tokens_parts : ((Str.ofString "own_tokens") = (Str.ofString "parts")) = False := eq_false (by decide +kernel)
theorem wfn_own_tokens_word : ((Str.ofString "own_tokens") = (Str.ofString "word")) = False := eq_false (by decide +kernel)
theorem wfn_own_tokens_name : ((Str.ofString "own_tokens") = (Str.ofString "name")) = False := eq_false (by decide +kernel)
theorem wfn_word_e : ((Str.ofString "word") = (Str.ofString "")) = False := eq_false (by decide +kernel)
theorem wfn_word_words : ((Str.ofString "word") = (Str.ofString "words")) = False := eq_false (by decide +kernel)
theorem wfn_word_parts : ((Str.ofString "word") = (Str.ofString "parts")) = False := eq_false (by decide +kernel)
theorem wfn_word_own_tokens : ((Str.ofString "word") = (Str.ofString "own_tokens")) = False := eq_false (by decide +kernel)
theorem wfn_word_name : ((Str.ofString "word") = (Str.ofString "name")) = False := eq_false (by decide +kernel)
theorem wfn_name_e : ((Str.ofString "name") = (Str.ofString "")) = False := eq_false (by decide +kernel)
theorem wfn_name_words : ((Str.ofString "name") = (Str.ofString "words")) = False := eq_false (by decide +kernel)
theorem wfn_name_parts : ((Str.ofString "name") = (Str.ofString "parts")) = False := eq_false (by decide +kernel)
theorem wfn_name_own_tokens : ((Str.ofString "name") = (Str.ofString "own_tokens")) = False := eq_false (by decide +kernel)
theorem wfn_name_word : ((Str.ofString "name") = (Str.ofString "word")) = False := eq_false (by decide +kernel)
theorem hd_nv : cpsOfBytes 0 0 "never".toByteArray.data.toList = nvL := by decide +kernel
theorem hd_bl : cpsOfBytes 0 0 "blocks".toByteArray.data.toList = blL := by decide +kernel
def isNameD (d : D) : Bool := isWordD d 8 && (match d with | .str s => !decide (s ∈ [[], boL, eiL]) | _ => false)
def tf_is_name : TDF := fun ds Q => ∃ (d : D), ds = [d] ∧ ((tyN d).isSome = true ∧ lenOk d) ∧ Q (.bl (isNameD d))
theorem ar_is_name : ∀ ds Q, tf_is_name ds Q → ds.length = 1 := by
  rintro ds Q ⟨_, rfl, _⟩
  rfl
def tf_Wish___init__ (a : Adr) : TDF := fun ds Q => ∃ (C : Addr) (ns : List Str) (vs : List D) (ps : List Wi) (l : List Nat), ds = [.ins C ns vs, .tup (ps.map (wiD a)), .str l] ∧ (WiC a C ∧ ("" : Str) ∉ ns ∧ ns.length < 900 ∧ ps.length ≤ 2 ∧ (ps.flatMap tokW).length < 1000000) ∧ Q (.ins C (putN "own_tokens" (putN "parts" ns)) (putV "own_tokens" (.lst ((ps.flatMap tokW ++ [l]).map .str)) (putN "parts" ns) (putV "parts" (.tup (ps.map (wiD a))) ns vs)))
theorem ar_Wish___init__ {a : Adr} : ∀ ds Q, tf_Wish___init__ a ds Q → ds.length = 3 := by
  rintro ds Q ⟨_, _, _, _, _, rfl, _⟩
  rfl
def tf_Never___init__ (a : Adr) : TDF := fun ds Q => ∃ (ws : List (List Nat)), ds = ws.map .str ∧ ((∀ w ∈ ws, isWordD (.str w) 6 = true ∧ w ≠ []) ∧ 1 ≤ ws.length ∧ ws.length ≤ 4) ∧ Q (wiD a (.lf true (srtW ws)))
def tf_Blocks___init__ (a : Adr) : TDF := fun ds Q => ∃ (ws : List (List Nat)), ds = ws.map .str ∧ ((∀ w ∈ ws, isWordD (.str w) 6 = true ∧ w ≠ []) ∧ 1 ≤ ws.length ∧ ws.length ≤ 4) ∧ Q (wiD a (.lf false (srtW ws)))
def tf_Behind___init__ (a : Adr) : TDF := fun ds Q => ∃ (w : List Nat) (t : Wi), ds = [.str w, wiD a t] ∧ ((isWordD (.str w) 6 = true ∧ w ≠ []) ∧ (tokW t).length < 1000000) ∧ Q (wiD a (.bh w t))
theorem ar_Behind___init__ {a : Adr} : ∀ ds Q, tf_Behind___init__ a ds Q → ds.length = 2 := by
  rintro ds Q ⟨_, _, rfl, _⟩
  rfl
def tf_Both___init__ (a : Adr) : TDF := fun ds Q => ∃ (t : Wi) (u : Wi), ds = [wiD a t, wiD a u] ∧ ((tokW t).length + (tokW u).length < 1000000) ∧ Q (wiD a (.jn true t u))
theorem ar_Both___init__ {a : Adr} : ∀ ds Q, tf_Both___init__ a ds Q → ds.length = 2 := by
  rintro ds Q ⟨_, _, rfl, _⟩
  rfl
def tf_Either___init__ (a : Adr) : TDF := fun ds Q => ∃ (t : Wi) (u : Wi), ds = [wiD a t, wiD a u] ∧ ((tokW t).length + (tokW u).length < 1000000) ∧ Q (wiD a (.jn false t u))
theorem ar_Either___init__ {a : Adr} : ∀ ds Q, tf_Either___init__ a ds Q → ds.length = 2 := by
  rintro ds Q ⟨_, _, rfl, _⟩
  rfl
def tf_Named___init__ (a : Adr) : TDF := fun ds Q => ∃ (s : List Nat), ds = [.str s] ∧ (isNameD (.str s) = true) ∧ Q (wiD a (.nm s))
theorem ar_Named___init__ {a : Adr} : ∀ ds Q, tf_Named___init__ a ds Q → ds.length = 1 := by
  rintro ds Q ⟨_, rfl, _⟩
  rfl
def tf_Wish_text (a : Adr) : TDF := fun ds Q => ∃ (t : Wi), ds = [wiD a t] ∧ ((tokW t).map (·.length)).sum + (tokW t).length ≤ 16777216 ∧ Q (.str (joinL [32] (tokW t)))
theorem ar_Wish_text {a : Adr} : ∀ ds Q, tf_Wish_text a ds Q → ds.length = 1 := by
  rintro ds Q ⟨_, rfl, _⟩
  rfl
def okWd (w : List Nat) : Bool := isWordD (.str w) 6 && !decide (w = [])
def wdsL (tk : List Nat) : List (List Nat) := splitL 44 [] (prtL 58 tk).2.2
/-- the stack behind a token, the last wish first -/
def tokR (tk : List Nat) (st : List Wi) : Option (List Wi) :=
  if 58 ∈ tk then
    if ((wdsL tk).all okWd = true ∧ (wdsL tk).length ≤ 4) then
      if (prtL 58 tk).1 = nvL ∨ (prtL 58 tk).1 = blL then some (.lf (decide ((prtL 58 tk).1 = nvL)) (srtW (wdsL tk)) :: st)
      else if (prtL 58 tk).1 = bhL ∧ (wdsL tk).length ≤ 1 then
        match st with
        | [] => none
        | t :: r => some (.bh ((wdsL tk).headD []) t :: r)
      else none
    else none
  else if tk = boL ∨ tk = eiL then
    match st with
    | u :: t :: r => some (.jn (decide (tk = boL)) t u :: r)
    | _ => none
  else if isNameD (.str tk) = true then some (.nm tk :: st) else none
def stD (a : Adr) : Option (List Wi) → D
  | some st => .lst (st.reverse.map (wiD a))
  | none => .non
/-- the stack behind the tokens, or the place of the first wrong one -/
def goR : Nat → List (List Nat) → List Wi → List Wi ⊕ Nat
  | _, [], st => .inl st
  | n, tk :: r, st => if 20 ≤ n then .inr n else match tokR tk st with
    | none => .inr n
    | some st' => goR (n + 1) r st'
def endR : List Wi ⊕ Nat → Wi ⊕ Int
  | .inl [t] => .inl t
  | .inl _ => .inr (-1)
  | .inr n => .inr n
def readD : D → Wi ⊕ Int
  | .str s => if s = [] then .inr (-1) else endR (goR 0 (splitL 32 [] s) [])
  | _ => .inr (-1)
theorem prt_in {c : Nat} {s : List Nat} (h : c ∈ s) : ∃ l m, s = l ++ c :: m ∧ prtL c s = (l, [c], m) := by
  obtain ⟨l, m, e, hn⟩ := List.eq_append_cons_of_mem h
  refine ⟨l, m, e, ?_⟩
  subst e
  unfold prtL
  rw [parL_app c l [] m hn]
  simp
theorem split_len {c : Nat} : ∀ {s acc : List Nat}, (splitL c acc s).length ≤ s.length + 1 := by
  intro s
  induction s with
  | nil => intro acc; simp [splitL]
  | cons x r ih =>
    intro acc
    unfold splitL
    by_cases h : x = c
    · simp only [h, if_true, List.length_cons]; have := ih (acc := []); omega
    · simp only [h, if_false, List.length_cons]; have := ih (acc := acc ++ [x]); omega
theorem split_ne {c : Nat} : ∀ {s acc : List Nat}, splitL c acc s ≠ [] := by
  intro s
  induction s with
  | nil => intro acc; simp [splitL]
  | cons x r ih =>
    intro acc
    unfold splitL
    by_cases h : x = c
    · simp [h]
    · simp only [h, if_false]; exact ih
theorem split_sub {c : Nat} : ∀ {s acc w : List Nat}, w ∈ splitL c acc s → w.length ≤ acc.length + s.length := by
  intro s
  induction s with
  | nil => intro acc w h; simp [splitL] at h; rw [h]; simp
  | cons x r ih =>
    intro acc w h
    unfold splitL at h
    by_cases hx : x = c
    · simp only [hx, if_true, List.mem_cons] at h
      rcases h with rfl | h
      · omega
      · have := ih h; simp at this ⊢; omega
    · simp only [hx, if_false] at h
      have := ih h; simp at this ⊢; omega
theorem split_mem {c : Nat} : ∀ {s acc w : List Nat} {x : Nat}, w ∈ splitL c acc s → x ∈ w → x ∈ acc ++ s := by
  intro s
  induction s with
  | nil => intro acc w x h hx; simp [splitL] at h; subst h; simpa using hx
  | cons y r ih =>
    intro acc w x h hx
    unfold splitL at h
    by_cases hy : y = c
    · simp only [hy, if_true, List.mem_cons] at h
      rcases h with rfl | h
      · simp [hx]
      · have := ih h hx
        simp at this ⊢
        exact .inr (.inr this)
    · simp only [hy, if_false] at h
      have := ih h hx
      simp only [List.append_assoc, List.singleton_append] at this
      exact this
theorem cutE1 {α : Type} (L : List α) (x : α) : cut (L ++ [x]) none (some (-1)) = L := by
  have e : HT.sIx (L ++ [x]).length (L ++ [x]).length (some (-1)) = L.length := by
    simp only [HT.sIx]
    rw [if_pos (by decide)]
    simp
    try omega
  have e0 : HT.sIx (L ++ [x]).length 0 none = 0 := by simp [HT.sIx]
  unfold cut
  rw [e, e0]
  simp
theorem cutE2 {α : Type} (L : List α) (x y : α) : cut (L ++ [x, y]) none (some (-2)) = L := by
  have e : HT.sIx (L ++ [x, y]).length (L ++ [x, y]).length (some (-2)) = L.length := by
    simp only [HT.sIx]
    rw [if_pos (by decide)]
    simp
    try omega
  have e0 : HT.sIx (L ++ [x, y]).length 0 none = 0 := by simp [HT.sIx]
  unfold cut
  rw [e, e0]
  simp
theorem cutE3 {α : Type} (L : List α) (x y : α) : cut (L ++ [x, y]) (some (-2)) none = [x, y] := by
  have e : HT.sIx (L ++ [x, y]).length 0 (some (-2)) = L.length := by
    simp only [HT.sIx]
    rw [if_pos (by decide)]
    simp
    try omega
  have e0 : HT.sIx (L ++ [x, y]).length (L ++ [x, y]).length none = L.length + 2 := by simp [HT.sIx]
  unfold cut
  rw [e, e0, List.drop_left, Nat.add_sub_cancel_left]
  rfl
theorem atE1 {α : Type} (l : List α) (x : α) : atI (l ++ [x]) (-1) = some x := by
  have e : ixN (l ++ [x]).length (-1) = some l.length := by
    unfold ixN
    simp
    try omega
  unfold atI
  rw [e]
  simp
theorem okWd_len {w : List Nat} (h : okWd w = true) : w.length ≤ 6 := by
  unfold okWd at h
  rw [Bool.and_eq_true] at h
  have := (isWd h.1).1
  omega
theorem tokR_le {tk : List Nat} {st st' : List Wi} (h : tokR tk st = some st') (hs : ∀ t ∈ st, ∀ x ∈ tokW t, x.length ≤ 40) :
    (st'.flatMap tokW).length ≤ (st.flatMap tokW).length + 1 ∧ (∀ t ∈ st', ∀ x ∈ tokW t, x.length ≤ 40) ∧ st'.length ≤ st.length + 1 := by
  have lf : ∀ b ws, ws.all okWd = true → ws.length ≤ 4 → ∀ x ∈ tokW (.lf b (srtW ws)), x.length ≤ 40 := fun b ws h1 h2 x hx => by
    simp only [tokW, List.mem_singleton] at hx
    subst hx
    have h6 : ∀ x ∈ srtW ws, x.length ≤ 6 := fun x hx => okWd_len (List.all_eq_true.mp h1 x (mem_srtW.mp hx))
    have a1 := sum_le h6
    have a2 := joinL_len [44] (srtW ws)
    have a3 := srtW_len ws
    simp only [List.length_append, List.length_cons, List.length_nil] at a2 ⊢
    have a4 : (hdW b).length ≤ 6 := by cases b <;> decide
    omega
  unfold tokR at h
  by_cases h58 : 58 ∈ tk
  · rw [if_pos h58] at h
    by_cases hc : (wdsL tk).all okWd = true ∧ (wdsL tk).length ≤ 4
    · rw [if_pos hc] at h
      by_cases hh : (prtL 58 tk).1 = nvL ∨ (prtL 58 tk).1 = blL
      · rw [if_pos hh] at h
        cases h
        refine ⟨by simp [tokW] <;> omega, fun t ht => ?_, by simp⟩
        rcases List.mem_cons.mp ht with rfl | ht
        · exact lf _ _ hc.1 hc.2
        · exact hs t ht
      · rw [if_neg hh] at h
        by_cases hb : (prtL 58 tk).1 = bhL ∧ (wdsL tk).length ≤ 1
        · rw [if_pos hb] at h
          match st, h, hs with
          | t :: r, h, hs =>
            cases h
            refine ⟨by simp [tokW] <;> omega, fun u hu => ?_, by simp⟩
            rcases List.mem_cons.mp hu with rfl | hu
            · intro x hx
              simp only [tokW, List.mem_append, List.mem_singleton] at hx
              rcases hx with hx | rfl
              · exact hs t (by simp) x hx
              · have : ((wdsL tk).headD []).length ≤ 6 := by
                  cases hw : wdsL tk with
                  | nil => simp
                  | cons w r2 => exact okWd_len (List.all_eq_true.mp hc.1 w (by rw [hw]; simp))
                simp only [List.length_append, List.length_cons, List.length_nil]
                omega
            · exact hs u (List.mem_cons_of_mem _ hu)
        · rw [if_neg hb] at h; cases h
    · rw [if_neg hc] at h; cases h
  · rw [if_neg h58] at h
    by_cases hb : tk = boL ∨ tk = eiL
    · rw [if_pos hb] at h
      match st, h, hs with
      | u :: t :: r, h, hs =>
        cases h
        refine ⟨by simp [tokW] <;> omega, fun v hv => ?_, by simp⟩
        rcases List.mem_cons.mp hv with rfl | hv
        · intro x hx
          simp only [tokW, List.mem_append, List.mem_singleton] at hx
          rcases hx with (hx | hx) | rfl
          · exact hs t (by simp) x hx
          · exact hs u (by simp) x hx
          · unfold jnW; split <;> decide
        · exact hs v (by simp [hv])
    · rw [if_neg hb] at h
      by_cases hn : isNameD (.str tk) = true
      · rw [if_pos hn] at h
        cases h
        refine ⟨by simp [tokW] <;> omega, fun v hv => ?_, by simp⟩
        rcases List.mem_cons.mp hv with rfl | hv
        · intro x hx
          simp only [tokW, List.mem_singleton] at hx
          subst hx
          unfold isNameD at hn
          rw [Bool.and_eq_true] at hn
          have := (isWd hn.1).1
          omega
        · exact hs v hv
      · rw [if_neg hn] at h; cases h
theorem readD_str {s : List Nat} (h : s ≠ []) : readD (.str s) = endR (goR 0 (splitL 32 [] s) []) := by
  show (if s = [] then _ else _) = _
  rw [if_neg h]
def tf_words_token (a : Adr) : TDF := fun ds Q => ∃ (tk : List Nat) (st : List Wi), ds = [.str tk, .lst (st.reverse.map (wiD a))] ∧ (58 ∈ tk ∧ okD (.str tk) = true ∧ tk.length ≤ 1000000 ∧ st.length ≤ 1000 ∧ ∀ t ∈ st, (tokW t).length ≤ 1000) ∧ Q (stD a (tokR tk st))
theorem ar_words_token {a : Adr} : ∀ ds Q, tf_words_token a ds Q → ds.length = 2 := by
  rintro ds Q ⟨_, _, rfl, _⟩
  rfl
def tf_token_read (a : Adr) : TDF := fun ds Q => ∃ (tk : List Nat) (st : List Wi), ds = [.str tk, .lst (st.reverse.map (wiD a))] ∧ (okD (.str tk) = true ∧ tk.length ≤ 1000000 ∧ st.length ≤ 1000 ∧ ∀ t ∈ st, (tokW t).length ≤ 1000) ∧ Q (stD a (tokR tk st))
theorem ar_token_read {a : Adr} : ∀ ds Q, tf_token_read a ds Q → ds.length = 2 := by
  rintro ds Q ⟨_, _, rfl, _⟩
  rfl
def tf_read_wish (a : Adr) : TDF := fun ds Q => ∃ (s : List Nat) (t : Wi), ds = [.str s] ∧ ((okD (.str s) = true ∧ s.length ≤ 900000) ∧ readD (.str s) = .inl t) ∧ (((tokW t).length ≤ 20 ∧ ∀ x ∈ tokW t, x.length ≤ 40) → Q (wiD a t))
theorem ar_read_wish {a : Adr} : ∀ ds Q, tf_read_wish a ds Q → ds.length = 1 := by
  rintro ds Q ⟨_, _, rfl, _⟩
  rfl
def tf__law_alphabet : TDF := fun ds Q => ∃ (m : Int), ds = [.bag, .int m] ∧ (1 ≤ m ∧ m ≤ 3) ∧ ∀ s : List Nat, isAlphaD (.str s) = true → s.length ≤ m → Q (.str s)
theorem ar__law_alphabet : ∀ ds Q, tf__law_alphabet ds Q → ds.length = 2 := by
  rintro ds Q ⟨_, rfl, _⟩
  rfl
def tf__law_word : TDF := fun ds Q => ∃ (abc : List Nat) (lo : Int) (hi : Int), ds = [.bag, .str abc, .int lo, .int hi] ∧ (0 < abc.length ∧ abc.length < 1000 ∧ 0 ≤ lo ∧ lo ≤ hi ∧ hi < 1000) ∧ ∀ s : List Nat, (∀ c ∈ s, c ∈ abc) → lo ≤ s.length → s.length ≤ hi → Q (.str s)
theorem ar__law_word : ∀ ds Q, tf__law_word ds Q → ds.length = 4 := by
  rintro ds Q ⟨_, _, _, rfl, _⟩
  rfl
def tnD : Wi → D
  | .lf b ws => .lst [.str (hdW b), .lst (ws.map .str)]
  | .bh w t => .lst [.str bhL, .str w, tnD t]
  | .jn b t u => .lst [.str (jnW b), tnD t, tnD u]
  | .nm s => .lst [.str [110, 97, 109, 101], .str s]
theorem name_eq : (Str.ofString "name").cps.toList = [110, 97, 109, 101] := by decide +kernel
def nrmW : Wi → Wi
  | .lf b ws => .lf b (srtW ws)
  | .bh w t => .bh w (nrmW t)
  | .jn b t u => .jn b (nrmW t) (nrmW u)
  | .nm s => .nm s
def dpW : Wi → Nat
  | .lf _ _ => 0
  | .bh _ t => dpW t + 1
  | .jn _ t u => max (dpW t) (dpW u) + 1
  | .nm _ => 0
def szW : Wi → Nat
  | .lf _ _ => 1
  | .bh _ t => szW t + 1
  | .jn _ t u => szW t + szW u + 1
  | .nm _ => 1
def OkT : Wi → Prop
  | .lf _ ws => (∀ w ∈ ws, okWd w = true) ∧ 1 ≤ ws.length ∧ ws.length ≤ 4
  | .bh w t => okWd w = true ∧ OkT t
  | .jn _ t u => OkT t ∧ OkT u
  | .nm s => isNameD (.str s) = true
theorem tok_sz : ∀ t : Wi, (tokW (nrmW t)).length = szW t
  | .lf _ _ => rfl
  | .bh w t => by simp [nrmW, tokW, szW, tok_sz t]
  | .jn b t u => by simp [nrmW, tokW, szW, tok_sz t, tok_sz u] <;> omega
  | .nm _ => rfl
theorem lf_len {b : Bool} {ws : List (List Nat)} (h1 : ∀ w ∈ ws, okWd w = true) (h2 : ws.length ≤ 4) : (hdW b ++ [58] ++ joinL [44] (srtW ws)).length ≤ 40 := by
  have h6 : ∀ x ∈ srtW ws, x.length ≤ 6 := fun x hx => okWd_len (h1 x (mem_srtW.mp hx))
  have a1 := sum_le h6
  have a2 := joinL_len [44] (srtW ws)
  have a3 := srtW_len ws
  simp only [List.length_append, List.length_cons, List.length_nil] at a2 ⊢
  have a4 : (hdW b).length ≤ 6 := by cases b <;> decide
  omega
theorem tok_len : ∀ {t : Wi}, OkT t → ∀ x ∈ tokW (nrmW t), x.length ≤ 40
  | .lf b ws, h, x, hx => by
    simp only [nrmW, tokW, List.mem_singleton] at hx
    subst hx
    exact lf_len h.1 h.2.2
  | .bh w t, h, x, hx => by
    simp only [nrmW, tokW, List.mem_append, List.mem_singleton] at hx
    rcases hx with hx | rfl
    · exact tok_len h.2 x hx
    · have := okWd_len h.1
      simp only [List.length_append, List.length_cons, List.length_nil]
      omega
  | .jn b t u, h, x, hx => by
    simp only [nrmW, tokW, List.mem_append, List.mem_singleton] at hx
    rcases hx with (hx | hx) | rfl
    · exact tok_len h.1 x hx
    · exact tok_len h.2 x hx
    · cases b <;> decide
  | .nm s, h, x, hx => by
    simp only [nrmW, tokW, List.mem_singleton] at hx
    subst hx
    unfold OkT isNameD at h
    rw [Bool.and_eq_true] at h
    have := (isWd h.1).1
    omega
theorem draw_all {α : Type} {f : α → D} {P : α → Prop} : ∀ {rs : List D}, (∀ r ∈ rs, ∃ x, P x ∧ r = f x) → ∃ xs : List α, rs = xs.map f ∧ ∀ x ∈ xs, P x
  | [], _ => ⟨[], rfl, fun _ h => nomatch h⟩
  | r :: rs, h => by
    obtain ⟨x, hx, rfl⟩ := h r (by simp)
    obtain ⟨xs, rfl, hs⟩ := draw_all (rs := rs) fun r hr => h r (by simp [hr])
    exact ⟨x :: xs, rfl, fun y hy => (List.mem_cons.mp hy).elim (fun e => e ▸ hx) (hs y)⟩
def LineI (k : Nat) (ts : List Wi) : Prop := ts ≠ [] ∧ (∀ t ∈ ts, OkT t ∧ dpW t ≤ k) ∧ (ts.map szW).sum ≤ 3 + k ∧ ts.length ≤ 3
theorem ends1 {α : Type} {l : List α} (h : l ≠ []) : ∃ r x, l = r ++ [x] := ⟨l.dropLast, l.getLast h, (List.dropLast_concat_getLast h).symm⟩
theorem ends2 {α : Type} {l : List α} (h : 1 < l.length) : ∃ r x y, l = r ++ [x, y] := by
  obtain ⟨r, y, rfl⟩ := ends1 (l := l) (by rintro rfl; simp at h)
  obtain ⟨r2, x, rfl⟩ := ends1 (l := r) (by rintro rfl; simp at h)
  exact ⟨r2, x, y, by simp⟩
theorem atE2 {α : Type} (l : List α) (x y : α) : atI (l ++ [x, y]) (-2) = some x := by
  have e : ixN (l ++ [x, y]).length (-2) = some l.length := by
    unfold ixN
    simp
    try omega
  unfold atI
  rw [e]
  simp
theorem atE3 {α : Type} (l : List α) (x y : α) : atI (l ++ [x, y]) (-1) = some y := by
  have := atE1 (l ++ [x]) y
  simpa using this
theorem LineI.behind {k : Nat} {r : List Wi} {t : Wi} {w : List Nat} (h : LineI k (r ++ [t])) (hw : okWd w = true) : LineI (k + 1) (r ++ [.bh w t]) := by
  obtain ⟨_, h2, h3, h4⟩ := h
  refine ⟨by simp, fun u hu => ?_, ?_, by simpa using h4⟩
  · rcases List.mem_append.mp hu with hu | hu
    · have := h2 u (by simp [hu]); exact ⟨this.1, by omega⟩
    · have hu := List.mem_singleton.mp hu
      subst hu
      have := h2 t (by simp)
      exact ⟨⟨hw, this.1⟩, by simp only [dpW]; omega⟩
  · simp only [List.map_append, List.map_cons, List.map_nil, List.sum_append, List.sum_cons, List.sum_nil, szW] at h3 ⊢
    omega
theorem LineI.join {k : Nat} {r : List Wi} {t u : Wi} {b : Bool} (h : LineI k (r ++ [t, u])) : LineI (k + 1) (r ++ [.jn b t u]) := by
  obtain ⟨_, h2, h3, h4⟩ := h
  refine ⟨by simp, fun v hv => ?_, ?_, by simp at h4 ⊢; omega⟩
  · rcases List.mem_append.mp hv with hv | hv
    · have := h2 v (by simp [hv]); exact ⟨this.1, by omega⟩
    · have hv := List.mem_singleton.mp hv
      subst hv
      have a1 := h2 t (by simp)
      have a2 := h2 u (by simp)
      exact ⟨⟨a1.1, a2.1⟩, by simp only [dpW]; omega⟩
  · simp only [List.map_append, List.map_cons, List.map_nil, List.sum_append, List.sum_cons, List.sum_nil, szW] at h3 ⊢
    omega
theorem LineI.le {k m : Nat} {ts : List Wi} (h : LineI k ts) (hk : k ≤ m) : LineI m ts := ⟨h.1, fun t ht => ⟨(h.2.1 t ht).1, Nat.le_trans (h.2.1 t ht).2 hk⟩, by have := h.2.2.1; omega, h.2.2.2⟩
theorem cutD1 {α : Type} {l : List α} {k : Nat} (h : k ≤ l.length) : cut l (some (k : Int)) none = l.drop k := by
  have e : HT.sIx l.length 0 (some (k : Int)) = k := by
    simp only [HT.sIx]
    rw [if_neg (by omega)]
    simp
    try omega
  have e0 : HT.sIx l.length l.length none = l.length := by simp [HT.sIx]
  unfold cut
  rw [e, e0, List.take_of_length_le (by simp)]
theorem atZ {α : Type} (x : α) (l : List α) : atI (x :: l) 0 = some x := by
  have e : ixN (x :: l).length 0 = some 0 := by
    unfold ixN
    simp
    try omega
  unfold atI
  rw [e]
  rfl
def tf__law_words : TDF := fun ds Q => ∃ (abc : List Nat) (m : Int), ds = [.bag, .str abc, .int m] ∧ (0 < abc.length ∧ abc.length < 1000 ∧ 1 ≤ m ∧ m ≤ 6 ∧ ∀ c ∈ abc, lowL c = true) ∧ ∀ ws : List (List Nat), (∀ w ∈ ws, okWd w = true ∧ w.length ≤ m ∧ ∀ c ∈ w, c ∈ abc) → 1 ≤ ws.length → ws.length ≤ 4 → Q (.lst (ws.map .str))
theorem ar__law_words : ∀ ds Q, tf__law_words ds Q → ds.length = 3 := by
  rintro ds Q ⟨_, _, rfl, _⟩
  rfl
def NmIn (ns : List (List Nat)) : Wi → Prop
  | .lf _ _ => True
  | .bh _ t => NmIn ns t
  | .jn _ t u => NmIn ns t ∧ NmIn ns u
  | .nm s => s ∈ ns
def OkN (ns : List (List Nat)) (t : Wi) : Prop := OkT t ∧ NmIn ns t
def LineN (ns : List (List Nat)) (k : Nat) (ts : List Wi) : Prop := ts ≠ [] ∧ (∀ t ∈ ts, OkN ns t ∧ dpW t ≤ k) ∧ (ts.map szW).sum ≤ 3 + k ∧ ts.length ≤ 3
theorem LineN.behind {ns : List (List Nat)} {k : Nat} {r : List Wi} {t : Wi} {w : List Nat} (h : LineN ns k (r ++ [t])) (hw : okWd w = true) : LineN ns (k + 1) (r ++ [.bh w t]) := by
  obtain ⟨_, h2, h3, h4⟩ := h
  refine ⟨by simp, fun u hu => ?_, ?_, by simpa using h4⟩
  · rcases List.mem_append.mp hu with hu | hu
    · have := h2 u (by simp [hu]); exact ⟨this.1, by omega⟩
    · have hu := List.mem_singleton.mp hu
      subst hu
      have := h2 t (by simp)
      exact ⟨⟨⟨hw, this.1.1⟩, this.1.2⟩, by simp only [dpW]; omega⟩
  · simp only [List.map_append, List.map_cons, List.map_nil, List.sum_append, List.sum_cons, List.sum_nil, szW] at h3 ⊢
    omega
theorem LineN.join {ns : List (List Nat)} {k : Nat} {r : List Wi} {t u : Wi} {b : Bool} (h : LineN ns k (r ++ [t, u])) : LineN ns (k + 1) (r ++ [.jn b t u]) := by
  obtain ⟨_, h2, h3, h4⟩ := h
  refine ⟨by simp, fun v hv => ?_, ?_, by simp at h4 ⊢; omega⟩
  · rcases List.mem_append.mp hv with hv | hv
    · have := h2 v (by simp [hv]); exact ⟨this.1, by omega⟩
    · have hv := List.mem_singleton.mp hv
      subst hv
      have a1 := h2 t (by simp)
      have a2 := h2 u (by simp)
      exact ⟨⟨⟨a1.1.1, a2.1.1⟩, a1.1.2, a2.1.2⟩, by simp only [dpW]; omega⟩
  · simp only [List.map_append, List.map_cons, List.map_nil, List.sum_append, List.sum_cons, List.sum_nil, szW] at h3 ⊢
    omega
theorem LineN.le {ns : List (List Nat)} {k m : Nat} {ts : List Wi} (h : LineN ns k ts) (hk : k ≤ m) : LineN ns m ts := ⟨h.1, fun t ht => ⟨(h.2.1 t ht).1, Nat.le_trans (h.2.1 t ht).2 hk⟩, by have := h.2.2.1; omega, h.2.2.2⟩
def tf__law_leaf : TDF := fun ds Q => ∃ (abc : List Nat) (m : Int) (ns : List (List Nat)), ds = [.bag, .str abc, .int m, .lst (ns.map .str)] ∧ ((0 < abc.length ∧ abc.length < 1000 ∧ 1 ≤ m ∧ m ≤ 6 ∧ ∀ c ∈ abc, lowL c = true) ∧ ns.length < 1000 ∧ ∀ s ∈ ns, isNameD (.str s) = true) ∧ ∀ t : Wi, OkN ns t → dpW t = 0 → szW t = 1 → Q (tnD t)
theorem ar__law_leaf : ∀ ds Q, tf__law_leaf ds Q → ds.length = 4 := by
  rintro ds Q ⟨_, _, _, rfl, _⟩
  rfl
def tf__law_tree : TDF := fun ds Q => ∃ (abc : List Nat) (m : Int) (ns : List (List Nat)), ds = [.bag, .str abc, .int m, .lst (ns.map .str)] ∧ ((0 < abc.length ∧ abc.length < 1000 ∧ 1 ≤ m ∧ m ≤ 6 ∧ ∀ c ∈ abc, lowL c = true) ∧ ns.length < 1000 ∧ ∀ s ∈ ns, isNameD (.str s) = true) ∧ ∀ t : Wi, OkN ns t → dpW t ≤ 4 → szW t ≤ 7 → Q (tnD t)
theorem ar__law_tree : ∀ ds Q, tf__law_tree ds Q → ds.length = 4 := by
  rintro ds Q ⟨_, _, _, rfl, _⟩
  rfl
def tf__law_tokens : TDF := fun ds Q => ∃ (t : Wi), ds = [tnD t] ∧ False
def tT (n : Nat) : TDF := fun ds Q => ∃ t, ds = [tnD t] ∧ (OkT t ∧ dpW t < n ∧ szW t ≤ 1000) ∧ Q (.lst ((tokW (nrmW t)).map .str))
theorem ar_tT (n : Nat) : ∀ ds Q, tT n ds Q → ds.length = 1 := by
  rintro ds Q ⟨_, rfl, _⟩
  rfl
theorem ins_perm {ys xs : List D} {d : D} {j : Nat} (p : ys.Perm (xs.take j)) (hj : xs[j]? = some d) (k : Nat) : (ys.take k ++ [d] ++ ys.drop k).Perm (xs.take (j + 1)) := by
  rw [List.take_add_one, hj, Option.toList_some]
  refine List.Perm.trans ?_ (p.append_right [d])
  rw [List.append_assoc, List.singleton_append]
  refine (List.perm_middle).trans ?_
  rw [List.take_append_drop]
  exact List.perm_append_singleton d ys |>.symm
def tf__law_mixed : TDF := fun ds Q => ∃ (xs : List D), ds = [.bag, .lst xs] ∧ xs.length ≤ 100000 ∧ ∀ ys : List D, ys.Perm xs → Q (.lst ys)
theorem ar__law_mixed : ∀ ds Q, tf__law_mixed ds Q → ds.length = 2 := by
  rintro ds Q ⟨_, rfl, _⟩
  rfl
def tf__law_names : TDF := fun ds Q => ∃ (k : Int), ds = [.bag, .int k] ∧ (1 ≤ k ∧ k ≤ 5) ∧ ∀ ns : List (List Nat), ns.length = k → (∀ s ∈ ns, isNameD (.str s) = true) → Q (.lst (ns.map .str))
theorem ar__law_names : ∀ ds Q, tf__law_names ds Q → ds.length = 2 := by
  rintro ds Q ⟨_, rfl, _⟩
  rfl
def tf_Wish_tokens (a : Adr) : TDF := fun ds Q => ∃ (t : Wi), ds = [wiD a t] ∧ ((tokW t).length ≤ 1000000) ∧ Q (.lst ((tokW t).map .str))
theorem ar_Wish_tokens {a : Adr} : ∀ ds Q, tf_Wish_tokens a ds Q → ds.length = 1 := by
  rintro ds Q ⟨_, rfl, _⟩
  rfl
def tf_Wish_names (a : Adr) : TDF := fun ds Q => ∃ (t : Wi), ds = [wiD a t] ∧ ((tokW t).length ≤ 1000 ∧ (∀ x ∈ tokW t, x.length ≤ 1000)) ∧ Q (.lst ((srtW ((tokW t).filter fun x => isNameD (.str x))).map .str))
theorem ar_Wish_names {a : Adr} : ∀ ds Q, tf_Wish_names a ds Q → ds.length = 1 := by
  rintro ds Q ⟨_, rfl, _⟩
  rfl
def ltW : Wi → List Nat
  | .lf _ ws => ws.flatten
  | .bh w t => ltW t ++ w
  | .jn _ t u => ltW t ++ ltW u
  | .nm _ => []
def ptW : Wi → List Wi
  | .lf _ _ => []
  | .bh _ t => [t]
  | .jn _ t u => [t, u]
  | .nm _ => []
def abcF (l : List Nat) : List Nat := abcL.filter fun c => decide (c ∈ l)
def ndL (t : Wi) : List Nat := abcF (ltW t)
theorem abcF_len (l : List Nat) : (abcF l).length ≤ 26 := List.length_filter_le _ _
theorem abcF_congr {l m : List Nat} (h : ∀ c ∈ abcL, (c ∈ l ↔ c ∈ m)) : abcF l = abcF m := List.filter_congr fun c hc => by
  rw [Bool.eq_iff_iff, decide_eq_true_iff, decide_eq_true_iff]
  exact h c hc
theorem mem_abcF {c : Nat} {l : List Nat} : c ∈ abcF l ↔ c ∈ abcL ∧ c ∈ l := by
  unfold abcF
  rw [List.mem_filter, decide_eq_true_iff]
theorem flt_text (p : Nat → Bool) (l : List Nat) : l.flatMap (fun c => if p c = true then [D.str [c]] else []) = ((l.filter p).map fun c => [c]).map D.str := by
  induction l with
  | nil => rfl
  | cons x l ih =>
    rw [List.flatMap_cons, ih, List.filter_cons]
    by_cases h : p x = true
    · rw [if_pos h, if_pos h]; rfl
    · rw [if_neg h, if_neg h]; rfl
theorem OkT.nrm : ∀ {t : Wi}, OkT t → OkT (nrmW t)
  | .lf b ws, h => ⟨fun w hw => h.1 w (mem_srtW.mp hw), by
      cases ws with
      | nil => have := h.2.1; simp at this
      | cons x r =>
        have : x ∈ srtW (x :: r) := mem_srtW.mpr (by simp)
        exact List.length_pos_of_mem this, Nat.le_trans (srtW_len ws) h.2.2⟩
  | .bh w t, h => ⟨h.1, h.2.nrm⟩
  | .jn b t u, h => ⟨h.1.nrm, h.2.nrm⟩
  | .nm s, h => h
theorem dp_nrm : ∀ t : Wi, dpW (nrmW t) = dpW t
  | .lf _ _ => rfl
  | .bh _ t => by simp [nrmW, dpW, dp_nrm t]
  | .jn _ t u => by simp [nrmW, dpW, dp_nrm t, dp_nrm u]
  | .nm _ => rfl
theorem wiD_parts (a : Adr) (t : Wi) : ∃ C ns vs, wiD a t = .ins C ns vs ∧ WiC a C ∧ getF ns vs "parts" = some (.tup ((ptW t).map (wiD a))) := by
  cases t with
  | lf b ws => exact ⟨_, _, _, rfl, by cases b <;> simp [WiC], rfl⟩
  | bh w t => exact ⟨_, _, _, rfl, by simp [WiC], rfl⟩
  | jn b t u => exact ⟨_, _, _, rfl, by cases b <;> simp [WiC], rfl⟩
  | nm s => exact ⟨_, _, _, rfl, by simp [WiC], rfl⟩
theorem ok_parts {t u : Wi} (h : OkT t) (hu : u ∈ ptW t) : OkT u ∧ dpW u < dpW t := by
  cases t with
  | lf b ws => cases hu
  | nm s => cases hu
  | bh w v =>
    rw [List.mem_singleton.mp hu]
    exact ⟨h.2, by simp only [dpW]; omega⟩
  | jn b v z =>
    simp only [ptW, List.mem_cons, List.not_mem_nil, or_false] at hu
    rcases hu with rfl | rfl
    · exact ⟨h.1, by simp only [dpW]; omega⟩
    · exact ⟨h.2, by simp only [dpW]; omega⟩
theorem lt_parts (t : Wi) (h : ∀ b ws, t ≠ .lf b ws) (hb : ∀ w u, t ≠ .bh w u) : (ptW t).flatMap ltW = ltW t := by
  cases t with
  | lf b ws => exact absurd rfl (h b ws)
  | bh w u => exact absurd rfl (hb w u)
  | jn b u v => simp [ptW, ltW]
  | nm s => rfl
theorem pt_len (t : Wi) : (ptW t).length ≤ 2 := by cases t <;> simp [ptW]
theorem flat_sum (ys : List (List Nat)) : ys.flatten.length = (ys.map (·.length)).sum := by simp [List.length_flatten]
theorem walk_flt {f : D → (List D → Prop) → Prop} {y : List Nat} {Q : D → Prop} (hf : ∀ c, ∀ k : List D → Prop, k (if decide (c ∈ y) = true then [D.str [c]] else []) → f (.str [c]) k) (h : Q (.str (abcF y))) :
    (abcL.map fun c => D.str [c]).length ≤ sizeLine ∧ wpMap f (abcL.map fun c => D.str [c]) fun rs => ∃ ys, strsD rs = some ys ∧ (ys.map (·.length)).sum + ys.length * 0 ≤ 16777216 ∧ Q (.str (joinL [] ys)) := by
  refine ⟨by decide, wpMap_onF (kf := fun c => D.str [c]) (fun c => if decide (c ∈ y) = true then [D.str [c]] else []) (fun c _ k q => hf c k q) ?_⟩
  rw [flt_text]
  refine ⟨_, strsD_map _, ?_, ?_⟩
  · rw [sum_ones]
    have := abcF_len y
    simp only [abcF] at this
    omega
  · rw [joinL_nil, flat_ones]
    exact h
theorem if_in {c : Nat} {y : List Nat} {k : List D → Prop} (q : k (if decide (c ∈ y) = true then [D.str [c]] else [])) : if inStr [c] y = true then k [D.str [c]] else k [] := by
  by_cases h : c ∈ y
  · rw [if_pos (decide_eq_true h)] at q
    rw [if_pos (by simpa [inStr] using h)]
    exact q
  · rw [if_neg (by simpa using h)] at q
    rw [if_neg (by simpa [inStr] using h)]
    exact q
def NotLB (t : Wi) : Prop := (∀ b ws, t ≠ .lf b ws) ∧ ∀ w u, t ≠ .bh w u
theorem wi_need (T : Txt K mg a) (t : Wi) :
    (∃ b ws, t = .lf b ws ∧ ∃ C, Cls K C ∧ Meth K C "needed" a.f_Words_needed ∧ ∃ ns vs, wiD a t = .ins C ns vs ∧ ("needed" : Str) ∉ ns) ∨
    (∃ w u, t = .bh w u ∧ ∃ C, Cls K C ∧ Meth K C "needed" a.f_Behind_needed ∧ ∃ ns vs, wiD a t = .ins C ns vs ∧ ("needed" : Str) ∉ ns) ∨
    (NotLB t ∧ ∃ C, Cls K C ∧ Meth K C "needed" a.f_Wish_needed ∧ ∃ ns vs, wiD a t = .ins C ns vs ∧ ("needed" : Str) ∉ ns) := by
  cases t with
  | lf b ws =>
    refine .inl ⟨b, ws, rfl, ?_⟩
    cases b
    · exact ⟨_, T.cl_Blocks, T.mt_Blocks_needed, _, _, rfl, by decide⟩
    · exact ⟨_, T.cl_Never, T.mt_Never_needed, _, _, rfl, by decide⟩
  | bh w t => exact .inr (.inl ⟨w, t, rfl, _, T.cl_Behind, T.m_Behind_needed, _, _, rfl, by decide⟩)
  | jn b t u =>
    refine .inr (.inr ⟨⟨fun _ _ h => (by cases h), fun _ _ h => (by cases h)⟩, ?_⟩)
    cases b
    · exact ⟨_, T.cl_Either, T.mt_Either_needed, _, _, rfl, by decide⟩
    · exact ⟨_, T.cl_Both, T.mt_Both_needed, _, _, rfl, by decide⟩
  | nm s => exact .inr (.inr ⟨⟨fun _ _ h => (by cases h), fun _ _ h => (by cases h)⟩, _, T.cl_Named, T.mt_Named_needed, _, _, rfl, by decide⟩)
theorem mem_ltW : ∀ {t : Wi}, OkT t → ∀ c ∈ ltW t, c ∈ abcL
  | .lf b ws, h, c, hc => by
    obtain ⟨w, hw, hcw⟩ := List.mem_flatten.mp hc
    have := h.1 w hw
    unfold okWd at this
    rw [Bool.and_eq_true] at this
    exact of_decide_eq_true ((isWd this.1).2 c hcw)
  | .bh w t, h, c, hc => by
    rcases List.mem_append.mp hc with hc | hc
    · exact mem_ltW h.2 c hc
    · have := h.1
      unfold okWd at this
      rw [Bool.and_eq_true] at this
      exact of_decide_eq_true ((isWd this.1).2 c hc)
  | .jn b t u, h, c, hc => by
    rcases List.mem_append.mp hc with hc | hc
    · exact mem_ltW h.1 c hc
    · exact mem_ltW h.2 c hc
  | .nm s, h, c, hc => by cases hc
theorem WiC.isx (T : Txt K mg a) {C : Addr} (h : WiC a C) : IsX K C := by
  rcases h with rfl | rfl | rfl | rfl | rfl | rfl
  · exact T.is_Never
  · exact T.is_Blocks
  · exact T.is_Behind
  · exact T.is_Both
  · exact T.is_Either
  · exact T.is_Named
theorem WiC.kit (T : Txt K mg a) {C : Addr} (h : WiC a C) : PySem.W.kitOne K (.ref C) (.ref a.C_Wish) = some true := kit_sub T.is_Wish (by
  rcases h with rfl | rfl | rfl | rfl | rfl | rfl
  · exact T.sb_Never
  · exact T.sb_Blocks
  · exact T.sb_Behind
  · exact T.sb_Both
  · exact T.sb_Either
  · exact T.sb_Named)
theorem deqv_strs : ∀ l m : List (List Nat), deqv (.lst (l.map .str)) (.lst (m.map .str)) = decide (l = m) := by
  have key : ∀ l m : List (List Nat), deqvL (l.map .str) (m.map .str) = decide (l = m) := fun l => by
    induction l with
    | nil => intro m; cases m <;> rfl
    | cons x l ih =>
      intro m
      cases m with
      | nil => rfl
      | cons y m =>
        show (deqv (.str x) (.str y) && deqvL (l.map .str) (m.map .str)) = _
        rw [ih m, deqv_str, Bool.eq_iff_iff]
        simp
  intro l m
  exact key l m
def tf_Words_needed (a : Adr) : TDF := fun ds Q => ∃ (b : Bool) (ws : List (List Nat)), ds = [wiD a (.lf b ws)] ∧ (OkT (.lf b ws)) ∧ Q (.str (ndL (.lf b ws)))
theorem ar_Words_needed {a : Adr} : ∀ ds Q, tf_Words_needed a ds Q → ds.length = 1 := by
  rintro ds Q ⟨_, _, rfl, _⟩
  rfl
def tf_Wish_needed (a : Adr) : TDF := fun ds Q => ∃ (t : Wi), ds = [wiD a t] ∧ (OkT t ∧ dpW t < 10) ∧ Q (.str (abcF ((ptW t).flatMap ltW)))
theorem ar_Wish_needed {a : Adr} : ∀ ds Q, tf_Wish_needed a ds Q → ds.length = 1 := by
  rintro ds Q ⟨_, rfl, _⟩
  rfl
def tfWN (a : Adr) (n : Nat) : TDF := fun ds Q => ∃ t, ds = [wiD a t] ∧ (OkT t ∧ dpW t < n) ∧ Q (.str (abcF ((ptW t).flatMap ltW)))
def tfBN (a : Adr) (n : Nat) : TDF := fun ds Q => ∃ w t, ds = [wiD a (.bh w t)] ∧ (OkT (.bh w t) ∧ dpW (.bh w t) < n) ∧ Q (.str (ndL (.bh w t)))
theorem ar_tfWN {a : Adr} (n : Nat) : ∀ ds Q, tfWN a n ds Q → ds.length = 1 := by
  rintro ds Q ⟨_, rfl, _⟩
  rfl
theorem ar_tfBN {a : Adr} (n : Nat) : ∀ ds Q, tfBN a n ds Q → ds.length = 1 := by
  rintro ds Q ⟨_, _, rfl, _⟩
  rfl
def tf_Behind_needed (a : Adr) : TDF := fun ds Q => ∃ (w : List Nat) (t : Wi), ds = [wiD a (.bh w t)] ∧ (OkT (.bh w t) ∧ dpW (.bh w t) < 10) ∧ Q (.str (ndL (.bh w t)))
theorem ar_Behind_needed {a : Adr} : ∀ ds Q, tf_Behind_needed a ds Q → ds.length = 1 := by
  rintro ds Q ⟨_, _, rfl, _⟩
  rfl
def tf_Wish___and__ (a : Adr) : TDF := fun ds Q => ∃ (t : Wi) (u : Wi), ds = [wiD a t, wiD a u] ∧ ((tokW t).length + (tokW u).length < 1000000) ∧ Q (wiD a (.jn true t u))
def tf_Wish___or__ (a : Adr) : TDF := fun ds Q => ∃ (t : Wi) (u : Wi), ds = [wiD a t, wiD a u] ∧ ((tokW t).length + (tokW u).length < 1000000) ∧ Q (wiD a (.jn false t u))
def tf_Wish___eq__ (a : Adr) : TDF := fun ds Q => ∃ (t : Wi) (v : D), ds = [wiD a t, v] ∧ ((∀ x ∈ tokW t, okD (.str x) = true) ∧ ((∃ u, v = wiD a u ∧ (∀ x ∈ tokW u, okD (.str x) = true) ∧ Q (.bl (decide (tokW t = tokW u)))) ∨ ((tyN v).isSome = true ∧ Q (.bl false))))
def tf_Wish___repr__ (a : Adr) : TDF := fun ds Q => ∃ (t : Wi), ds = [wiD a t] ∧ (((tokW t).map (·.length)).sum + (tokW t).length ≤ 16000000) ∧ Q (.str ([87, 105, 115, 104, 40] ++ joinL [32] (tokW t) ++ [41]))
theorem split_no {c : Nat} : ∀ {x acc : List Nat}, c ∉ x → splitL c acc x = [acc ++ x]
  | [], acc, _ => by simp [splitL]
  | y :: x, acc, h => by
    rw [List.mem_cons, not_or] at h
    unfold splitL
    rw [if_neg (fun q => h.1 q.symm), split_no h.2]
    simp
theorem split_app {c : Nat} : ∀ {x acc m : List Nat}, c ∉ x → splitL c acc (x ++ c :: m) = (acc ++ x) :: splitL c [] m
  | [], acc, m, _ => by simp [splitL]
  | y :: x, acc, m, h => by
    rw [List.mem_cons, not_or] at h
    show (if y = c then acc :: splitL c [] (x ++ c :: m) else splitL c (acc ++ [y]) (x ++ c :: m)) = _
    rw [if_neg (fun q => h.1 q.symm), split_app h.2]
    simp
theorem split_join {c : Nat} : ∀ {us : List (List Nat)}, us ≠ [] → (∀ u ∈ us, c ∉ u) → splitL c [] (joinL [c] us) = us
  | [], h, _ => absurd rfl h
  | [x], _, h => by
    show splitL c [] x = [x]
    rw [split_no (h x (by simp))]; rfl
  | x :: y :: r, _, h => by
    show splitL c [] (x ++ [c] ++ joinL [c] (y :: r)) = _
    rw [List.append_assoc, List.singleton_append, split_app (h x (by simp)), split_join (by simp) fun u hu => h u (by simp [hu])]
    rfl
theorem prt_app {c : Nat} {l m : List Nat} (h : c ∉ l) : prtL c (l ++ [c] ++ m) = (l, [c], m) := by
  unfold prtL
  rw [List.append_assoc, List.singleton_append, parL_app c l [] m h]
  simp
/-- tokens of a wish, with the words of never and blocks in any order and as often as one likes -/
def TokV : Wi → List (List Nat) → Prop
  | .lf b ws, ts => ∃ us : List (List Nat), (∀ u, u ∈ us ↔ u ∈ ws) ∧ us.length ≤ 4 ∧ ts = [hdW b ++ [58] ++ joinL [44] us]
  | .bh w t, ts => ∃ ts', TokV t ts' ∧ ts = ts' ++ [bhL ++ [58] ++ w]
  | .jn b t u, ts => ∃ t1 t2, TokV t t1 ∧ TokV u t2 ∧ ts = t1 ++ t2 ++ [jnW b]
  | .nm s, ts => ts = [s]
theorem okWd_no {w : List Nat} (h : okWd w = true) : (∀ c ∈ w, lowL c = true) ∧ w ≠ [] := by
  unfold okWd at h
  rw [Bool.and_eq_true] at h
  exact ⟨(isWd h.1).2, by simpa using h.2⟩
theorem low_no {w : List Nat} (h : ∀ c ∈ w, lowL c = true) {c : Nat} (hc : lowL c = false) : c ∉ w := fun q => by
  rw [h c q] at hc; cases hc
theorem hd_no (b : Bool) : 58 ∉ hdW b := by cases b <;> decide
theorem hd_or (b : Bool) : hdW b = nvL ∨ hdW b = blL := by cases b <;> decide
theorem hd_low (b : Bool) : ∀ c ∈ hdW b, lowL c = true := by cases b <;> decide
theorem bh_low : ∀ c ∈ bhL, lowL c = true := by decide
theorem tokR_lf {b : Bool} {us : List (List Nat)} {st : List Wi} (h1 : ∀ u ∈ us, okWd u = true) (h2 : us ≠ []) (h4 : us.length ≤ 4) : tokR (hdW b ++ [58] ++ joinL [44] us) st = some (.lf b (srtW us) :: st) := by
  have ep : prtL 58 (hdW b ++ [58] ++ joinL [44] us) = (hdW b, [58], joinL [44] us) := prt_app (hd_no b)
  have ew : wdsL (hdW b ++ [58] ++ joinL [44] us) = us := by
    unfold wdsL
    rw [ep]
    exact split_join h2 fun u hu => low_no (okWd_no (h1 u hu)).1 (by decide)
  unfold tokR
  rw [ew, ep, if_pos (by simp), if_pos ⟨List.all_eq_true.mpr h1, h4⟩, if_pos (hd_or b)]
  cases b <;> rfl
theorem tokR_bh {w : List Nat} {t : Wi} {st : List Wi} (h : okWd w = true) : tokR (bhL ++ [58] ++ w) (t :: st) = some (.bh w t :: st) := by
  have ep : prtL 58 (bhL ++ [58] ++ w) = (bhL, [58], w) := prt_app (by decide)
  have ew : wdsL (bhL ++ [58] ++ w) = [w] := by
    unfold wdsL
    rw [ep]
    exact split_no (low_no (okWd_no h).1 (by decide))
  unfold tokR
  rw [ew, ep, if_pos (by simp), if_pos ⟨by simp [h], by simp⟩, if_neg (by show ¬ (bhL = nvL ∨ bhL = blL); decide), if_pos ⟨rfl, by simp⟩]
  rfl
theorem tokR_jn {b : Bool} {t u : Wi} {st : List Wi} : tokR (jnW b) (u :: t :: st) = some (.jn b t u :: st) := by
  unfold tokR
  rw [if_neg (by cases b <;> decide), if_pos (by cases b <;> decide)]
  cases b <;> rfl
theorem nameD {s : List Nat} (h : isNameD (.str s) = true) : (∀ c ∈ s, lowL c = true) ∧ s ≠ [] ∧ ¬ (s = boL ∨ s = eiL) := by
  unfold isNameD at h
  rw [Bool.and_eq_true] at h
  have h2 : s ∉ [[], boL, eiL] := by simpa using h.2
  refine ⟨(isWd h.1).2, fun q => h2 (by rw [q]; simp), fun q => h2 ?_⟩
  rcases q with rfl | rfl <;> simp
theorem tokR_nm {s : List Nat} {st : List Wi} (h : isNameD (.str s) = true) : tokR s st = some (.nm s :: st) := by
  obtain ⟨h1, _, h3⟩ := nameD h
  unfold tokR
  rw [if_neg (low_no h1 (by decide)), if_neg h3, if_pos h]
theorem goR_step {n : Nat} {tk : List Nat} {r : List (List Nat)} {st st' : List Wi} (hn : n < 20) (h : tokR tk st = some st') : goR n (tk :: r) st = goR (n + 1) r st' := by
  rw [goR, if_neg (by omega), h]
theorem parse : ∀ (t : Wi), OkT t → ∀ (ts : List (List Nat)), TokV t ts → ∀ (n : Nat) (r : List (List Nat)) (st : List Wi), n + ts.length ≤ 20 → goR n (ts ++ r) st = goR (n + ts.length) r (nrmW t :: st)
  | .lf b ws, ho, ts, ⟨us, hu, h4, e⟩, n, r, st, hn => by
    subst e
    have hne : us ≠ [] := by
      rintro rfl
      cases ws with
      | nil => have := ho.2.1; simp at this
      | cons x _ => exact absurd ((hu x).mpr (by simp)) (by simp)
    have es : srtW us = srtW ws := srtW_eq (sorted_srtW us) fun x => mem_srtW.trans (hu x)
    rw [List.singleton_append, goR_step (by simp at hn; omega) (tokR_lf (fun u h => ho.1 u ((hu u).mp h)) hne h4), es]
    rfl
  | .bh w t, ho, ts, ⟨ts', h', e⟩, n, r, st, hn => by
    subst e
    rw [List.length_append, List.length_singleton] at hn ⊢
    rw [List.append_assoc, parse t ho.2 ts' h' n _ st (by omega), List.singleton_append, goR_step (by omega) (tokR_bh ho.1)]
    rfl
  | .jn b t u, ho, ts, ⟨t1, t2, h1, h2, e⟩, n, r, st, hn => by
    subst e
    rw [List.length_append, List.length_append, List.length_singleton] at hn ⊢
    rw [List.append_assoc, List.append_assoc, parse t ho.1 t1 h1 n _ st (by omega), parse u ho.2 t2 h2 _ _ _ (by omega), List.singleton_append, goR_step (by omega) tokR_jn]
    rw [show n + t1.length + t2.length + 1 = n + (t1.length + t2.length + 1) by omega]
    rfl
  | .nm s, ho, ts, e, n, r, st, hn => by
    obtain rfl : ts = [s] := e
    rw [List.singleton_append, goR_step (by simp at hn; omega) (tokR_nm ho)]
    rfl
/-- the signs of tokens -/
def SgT (x : List Nat) : Prop := x ≠ [] ∧ ∀ c ∈ x, lowL c = true ∨ c = 58 ∨ c = 44
theorem SgT.no {x : List Nat} (h : SgT x) : 32 ∉ x := fun q => by
  rcases h.2 32 q with h | h | h
  · exact absurd h (by decide)
  · cases h
  · cases h
theorem SgT.asc {x : List Nat} (h : SgT x) : ∀ c ∈ x, c < 128 := fun c hc => by
  rcases h.2 c hc with h | rfl | rfl
  · have := lowL_iff.mp h; omega
  · decide
  · decide
theorem join_sg {us : List (List Nat)} (h : ∀ u ∈ us, ∀ c ∈ u, lowL c = true) : ∀ c ∈ joinL [44] us, lowL c = true ∨ c = 58 ∨ c = 44 := by
  induction us with
  | nil => intro c hc; cases hc
  | cons x M ih =>
    cases M with
    | nil => exact fun c hc => .inl (h x (by simp) c hc)
    | cons y M =>
      intro c hc
      have hc : c ∈ x ++ [44] ++ joinL [44] (y :: M) := hc
      rcases List.mem_append.mp hc with hc | hc
      · rcases List.mem_append.mp hc with hc | hc
        · exact .inl (h x (by simp) c hc)
        · exact .inr (.inr (List.mem_singleton.mp hc))
      · exact ih (fun u hu => h u (by simp [hu])) c hc
theorem lf_sg {b : Bool} {us : List (List Nat)} (h : ∀ u ∈ us, okWd u = true) : SgT (hdW b ++ [58] ++ joinL [44] us) := by
  refine ⟨by simp, fun c hc => ?_⟩
  rcases List.mem_append.mp hc with hc | hc
  · rcases List.mem_append.mp hc with hc | hc
    · exact .inl (hd_low b c hc)
    · exact .inr (.inl (List.mem_singleton.mp hc))
  · exact join_sg (fun u hu => (okWd_no (h u hu)).1) c hc
theorem bh_sg {w : List Nat} (h : okWd w = true) : SgT (bhL ++ [58] ++ w) := by
  refine ⟨by simp, fun c hc => ?_⟩
  rcases List.mem_append.mp hc with hc | hc
  · rcases List.mem_append.mp hc with hc | hc
    · exact .inl (bh_low c hc)
    · exact .inr (.inl (List.mem_singleton.mp hc))
  · exact .inl ((okWd_no h).1 c hc)
theorem jn_sg (b : Bool) : SgT (jnW b) := by
  refine ⟨by cases b <;> decide, fun c hc => .inl ?_⟩
  revert c
  cases b <;> decide
theorem tokV_sg : ∀ {t : Wi}, OkT t → ∀ {ts : List (List Nat)}, TokV t ts → ts ≠ [] ∧ ∀ x ∈ ts, SgT x
  | .lf b ws, ho, ts, ⟨us, hu, h4, e⟩ => by
    subst e
    refine ⟨by simp, fun x hx => ?_⟩
    rw [List.mem_singleton.mp hx]
    exact lf_sg fun u h => ho.1 u ((hu u).mp h)
  | .bh w t, ho, ts, ⟨ts', h', e⟩ => by
    subst e
    refine ⟨by simp, fun x hx => ?_⟩
    rcases List.mem_append.mp hx with hx | hx
    · exact (tokV_sg ho.2 h').2 x hx
    · rw [List.mem_singleton.mp hx]; exact bh_sg ho.1
  | .jn b t u, ho, ts, ⟨t1, t2, h1, h2, e⟩ => by
    subst e
    refine ⟨by simp, fun x hx => ?_⟩
    rcases List.mem_append.mp hx with hx | hx
    · rcases List.mem_append.mp hx with hx | hx
      · exact (tokV_sg ho.1 h1).2 x hx
      · exact (tokV_sg ho.2 h2).2 x hx
    · rw [List.mem_singleton.mp hx]; exact jn_sg b
  | .nm s, ho, ts, e => by
    obtain rfl : ts = [s] := e
    obtain ⟨a1, a2, _⟩ := nameD ho
    refine ⟨by simp, fun x hx => ?_⟩
    rw [List.mem_singleton.mp hx]
    exact ⟨a2, fun c hc => .inl (a1 c hc)⟩
theorem tokV_self : ∀ {t : Wi}, OkT t → TokV t (tokW (nrmW t))
  | .lf b ws, ho => ⟨srtW ws, fun u => mem_srtW, Nat.le_trans (srtW_len ws) ho.2.2, rfl⟩
  | .bh w t, ho => ⟨_, tokV_self ho.2, rfl⟩
  | .jn b t u, ho => ⟨_, _, tokV_self ho.1, tokV_self ho.2, rfl⟩
  | .nm s, ho => rfl
theorem joinL_ne {b x : List Nat} (hx : x ≠ []) : ∀ r : List (List Nat), joinL b (x :: r) ≠ []
  | [] => hx
  | y :: r => by
    show x ++ b ++ joinL b (y :: r) ≠ []
    simp [hx]
/-- a text of tokens is read as the wish -/
theorem read_tok {t : Wi} (ho : OkT t) {ts : List (List Nat)} (h : TokV t ts) (hn : ts.length ≤ 20) : readD (.str (joinL [32] ts)) = .inl (nrmW t) := by
  obtain ⟨h1, h2⟩ := tokV_sg ho h
  have hne : joinL [32] ts ≠ [] := by
    cases ts with
    | nil => exact absurd rfl h1
    | cons x r => exact joinL_ne (h2 x (by simp)).1 r
  rw [readD_str hne, split_join h1 fun u hu => (h2 u hu).no]
  have := parse t ho ts h 0 [] [] (by omega)
  rw [List.append_nil] at this
  rw [this]
  rfl
theorem WiC.nf (T : Txt K mg a) {C C2 : Addr} (h : WiC a C) (h2 : WiC a C2) : PySem.W.notFirst K C (.ref C2) = true := by
  rcases h with rfl | rfl | rfl | rfl | rfl | rfl <;> rcases h2 with rfl | rfl | rfl | rfl | rfl | rfl
  all_goals first
    | exact T.nf2_Never_Never
    | exact T.nf2_Never_Blocks
    | exact T.nf2_Never_Behind
    | exact T.nf2_Never_Both
    | exact T.nf2_Never_Either
    | exact T.nf2_Never_Named
    | exact T.nf2_Blocks_Never
    | exact T.nf2_Blocks_Blocks
    | exact T.nf2_Blocks_Behind
    | exact T.nf2_Blocks_Both
    | exact T.nf2_Blocks_Either
    | exact T.nf2_Blocks_Named
    | exact T.nf2_Behind_Never
    | exact T.nf2_Behind_Blocks
    | exact T.nf2_Behind_Behind
    | exact T.nf2_Behind_Both
    | exact T.nf2_Behind_Either
    | exact T.nf2_Behind_Named
    | exact T.nf2_Both_Never
    | exact T.nf2_Both_Blocks
    | exact T.nf2_Both_Behind
    | exact T.nf2_Both_Both
    | exact T.nf2_Both_Either
    | exact T.nf2_Both_Named
    | exact T.nf2_Either_Never
    | exact T.nf2_Either_Blocks
    | exact T.nf2_Either_Behind
    | exact T.nf2_Either_Both
    | exact T.nf2_Either_Either
    | exact T.nf2_Either_Named
    | exact T.nf2_Named_Never
    | exact T.nf2_Named_Blocks
    | exact T.nf2_Named_Behind
    | exact T.nf2_Named_Both
    | exact T.nf2_Named_Either
    | exact T.nf2_Named_Named
theorem WiC.andO (T : Txt K mg a) {C : Addr} (h : WiC a C) : OpI K C .BitAnd a.f_Wish___and__ := by
  rcases h with rfl | rfl | rfl | rfl | rfl | rfl
  · exact T.oi_Never_BitAnd
  · exact T.oi_Blocks_BitAnd
  · exact T.oi_Behind_BitAnd
  · exact T.oi_Both_BitAnd
  · exact T.oi_Either_BitAnd
  · exact T.oi_Named_BitAnd
theorem WiC.orO (T : Txt K mg a) {C : Addr} (h : WiC a C) : OpI K C .BitOr a.f_Wish___or__ := by
  rcases h with rfl | rfl | rfl | rfl | rfl | rfl
  · exact T.oi_Never_BitOr
  · exact T.oi_Blocks_BitOr
  · exact T.oi_Behind_BitOr
  · exact T.oi_Both_BitOr
  · exact T.oi_Either_BitOr
  · exact T.oi_Named_BitOr
theorem wi_op (T : Txt K mg a) (t u : Wi) : ∃ C C2, (∃ ns vs, wiD a t = .ins C ns vs) ∧ (∃ ns vs, wiD a u = .ins C2 ns vs) ∧ PySem.W.notFirst K C (.ref C2) = true ∧
    (OpI K C .BitAnd a.f_Wish___and__ ∧ OpI K C2 .BitAnd a.f_Wish___and__) ∧ OpI K C .BitOr a.f_Wish___or__ ∧ OpI K C2 .BitOr a.f_Wish___or__ := by
  obtain ⟨C, ns, vs, e, hc, _⟩ := wiD_ins a t
  obtain ⟨C2, ns2, vs2, e2, hc2, _⟩ := wiD_ins a u
  exact ⟨C, C2, ⟨ns, vs, e⟩, ⟨ns2, vs2, e2⟩, hc.nf T hc2, ⟨hc.andO T, hc2.andO T⟩, hc.orO T, hc2.orO T⟩
def ltT (x : List Nat) : List Nat := (splitL 44 [] (prtL 58 x).2.2).flatten
def lts (ts : List (List Nat)) : List Nat := ((ts.filter fun x => decide (58 ∈ x)).map ltT).flatten
theorem lts_app (a b : List (List Nat)) : lts (a ++ b) = lts a ++ lts b := by simp [lts]
theorem us_no {us : List (List Nat)} (h : ∀ u ∈ us, okWd u = true) {c : Nat} (hc : lowL c = false) : ∀ u ∈ us, c ∉ u := fun u hu => low_no (okWd_no (h u hu)).1 hc
theorem ltT_lf {b : Bool} {us : List (List Nat)} (h1 : ∀ u ∈ us, okWd u = true) (h2 : us ≠ []) : ltT (hdW b ++ [58] ++ joinL [44] us) = us.flatten := by
  unfold ltT
  rw [prt_app (hd_no b), split_join h2 (us_no h1 (by decide))]
theorem ltT_bh {w : List Nat} (h : okWd w = true) : ltT (bhL ++ [58] ++ w) = w := by
  unfold ltT
  rw [prt_app (by decide), split_no (low_no (okWd_no h).1 (by decide))]
  simp
theorem lts_one {x : List Nat} (h : 58 ∈ x) : lts [x] = ltT x := by simp [lts, h]
theorem lts_no {x : List Nat} (h : 58 ∉ x) : lts [x] = [] := by simp [lts, h]
/-- what a token can be -/
def TokF (x : List Nat) : Prop := (58 ∉ x) ∨ (∃ (b : Bool) (us : List (List Nat)), x = hdW b ++ [58] ++ joinL [44] us ∧ (∀ u ∈ us, okWd u = true) ∧ us ≠ [] ∧ us.length ≤ 4) ∨ ∃ w, x = bhL ++ [58] ++ w ∧ okWd w = true
theorem tok_form : ∀ {t : Wi}, OkT t → ∀ x ∈ tokW (nrmW t), TokF x
  | .lf b ws, h, x, hx => by
    simp only [nrmW, tokW, List.mem_singleton] at hx
    refine .inr (.inl ⟨b, srtW ws, hx, fun u hu => h.1 u (mem_srtW.mp hu), fun q => ?_, Nat.le_trans (srtW_len ws) h.2.2⟩)
    cases ws with
    | nil => have := h.2.1; simp at this
    | cons y r => exact absurd (mem_srtW.mpr (show y ∈ y :: r by simp)) (by rw [q]; simp)
  | .bh w t, h, x, hx => by
    simp only [nrmW, tokW, List.mem_append, List.mem_singleton] at hx
    rcases hx with hx | hx
    · exact tok_form h.2 x hx
    · exact .inr (.inr ⟨w, hx, h.1⟩)
  | .jn b t u, h, x, hx => by
    simp only [nrmW, tokW, List.mem_append, List.mem_singleton] at hx
    rcases hx with (hx | hx) | hx
    · exact tok_form h.1 x hx
    · exact tok_form h.2 x hx
    · exact .inl (by rw [hx]; cases b <;> decide)
  | .nm s, h, x, hx => by
    simp only [nrmW, tokW, List.mem_singleton] at hx
    exact .inl (by rw [hx]; exact low_no (nameD h).1 (by decide))
theorem mem_lts : ∀ {t : Wi}, OkT t → ∀ c, c ∈ lts (tokW (nrmW t)) ↔ c ∈ ltW t
  | .lf b ws, h, c => by
    have hne : srtW ws ≠ [] := fun q => by
      cases ws with
      | nil => have := h.2.1; simp at this
      | cons y r => exact absurd (mem_srtW.mpr (show y ∈ y :: r by simp)) (by rw [q]; simp)
    show c ∈ lts [hdW b ++ [58] ++ joinL [44] (srtW ws)] ↔ c ∈ ws.flatten
    rw [lts_one (by simp), ltT_lf (fun u hu => h.1 u (mem_srtW.mp hu)) hne]
    constructor
    · intro hc
      obtain ⟨l, hl, hcl⟩ := List.mem_flatten.mp hc
      exact List.mem_flatten.mpr ⟨l, mem_srtW.mp hl, hcl⟩
    · intro hc
      obtain ⟨l, hl, hcl⟩ := List.mem_flatten.mp hc
      exact List.mem_flatten.mpr ⟨l, mem_srtW.mpr hl, hcl⟩
  | .bh w t, h, c => by
    show c ∈ lts (tokW (nrmW t) ++ [bhL ++ [58] ++ w]) ↔ c ∈ ltW t ++ w
    rw [lts_app, List.mem_append, List.mem_append, mem_lts h.2 c, lts_one (by simp), ltT_bh h.1]
  | .jn b t u, h, c => by
    show c ∈ lts (tokW (nrmW t) ++ tokW (nrmW u) ++ [jnW b]) ↔ c ∈ ltW t ++ ltW u
    rw [lts_app, lts_app, List.mem_append, List.mem_append, List.mem_append, mem_lts h.1 c, mem_lts h.2 c, lts_no (by cases b <;> decide)]
    simp
  | .nm s, h, c => by
    show c ∈ lts [s] ↔ c ∈ []
    rw [lts_no (low_no (nameD h).1 (by decide))]
theorem abcF_sorted (l : List Nat) : ((abcF l).map fun c => [c]).Pairwise (· < ·) := by
  rw [List.pairwise_map]
  have h : abcL.Pairwise (· < ·) := by decide
  exact (h.filter _).imp fun hab => by simpa [List.cons_lt_cons_iff] using hab
theorem sort_text {t : Wi} (ho : OkT t) {us : List (List Nat)} (h1 : us.Pairwise (· < ·)) (h2 : ∀ x, x ∈ us ↔ x ∈ (lts (tokW (nrmW t))).map fun c => [c]) : us = (ndL t).map fun c => [c] := by
  refine sorted_one h1 (abcF_sorted _) fun x => ?_
  rw [h2, List.mem_map, List.mem_map]
  constructor
  · rintro ⟨c, hc, rfl⟩
    have := (mem_lts ho c).mp hc
    exact ⟨c, mem_abcF.mpr ⟨mem_ltW ho c this, this⟩, rfl⟩
  · rintro ⟨c, hc, rfl⟩
    exact ⟨c, (mem_lts ho c).mpr (mem_abcF.mp hc).2, rfl⟩
theorem lts_len {t : Wi} (ho : OkT t) : ((((tokW (nrmW t)).filter fun x => decide (58 ∈ x)).map ltT).map (·.length)).sum ≤ szW t * 24 := by
  have h1 : ∀ x ∈ ((tokW (nrmW t)).filter fun x => decide (58 ∈ x)).map ltT, x.length ≤ 24 := fun x hx => by
    obtain ⟨y, hy, rfl⟩ := List.mem_map.mp hx
    have hy := (List.mem_filter.mp hy)
    rcases tok_form ho y hy.1 with h | ⟨b, us, rfl, g1, g2, g3⟩ | ⟨w, rfl, g1⟩
    · exact absurd (of_decide_eq_true hy.2) h
    · rw [ltT_lf g1 g2, flat_sum]
      have := sum_le (n := 6) fun u hu => okWd_len (g1 u hu)
      omega
    · rw [ltT_bh g1]
      have := okWd_len g1
      omega
  have h2 := sum_le h1
  have h3 := List.length_filter_le (fun x => decide (58 ∈ x)) (tokW (nrmW t))
  rw [tok_sz] at h3
  rw [List.length_map] at h2
  exact Nat.le_trans h2 (Nat.mul_le_mul_right _ h3)
theorem join_low {us : List (List Nat)} (h : ∀ u ∈ us, okWd u = true) : ∀ c ∈ joinL [44] us, lowL c = true ∨ c = 44 := by
  induction us with
  | nil => intro c hc; cases hc
  | cons x M ih =>
    cases M with
    | nil => exact fun c hc => .inl ((okWd_no (h x (by simp))).1 c hc)
    | cons y M =>
      intro c hc
      have hc : c ∈ x ++ [44] ++ joinL [44] (y :: M) := hc
      rcases List.mem_append.mp hc with hc | hc
      · rcases List.mem_append.mp hc with hc | hc
        · exact .inl ((okWd_no (h x (by simp))).1 c hc)
        · exact .inr (List.mem_singleton.mp hc)
      · exact ih (fun u hu => h u (by simp [hu])) c hc
theorem join_n58 {us : List (List Nat)} (h : ∀ u ∈ us, okWd u = true) : 58 ∉ joinL [44] us := fun hc => by
  rcases join_low h 58 hc with z | z
  · exact absurd z (by decide)
  · cases z
theorem lts_flat (ts : List (List Nat)) : ts.flatMap (fun x => if decide (58 ∈ x) = true then [D.str (ltT x)] else []) = ((ts.filter fun x => decide (58 ∈ x)).map ltT).map D.str := by
  induction ts with
  | nil => rfl
  | cons x l ih =>
    rw [List.flatMap_cons, ih, List.filter_cons]
    by_cases h : decide (58 ∈ x) = true
    · rw [if_pos h, if_pos h]; rfl
    · rw [if_neg h, if_neg h]; rfl
def tf__law_made_words (a : Adr) : TDF := fun ds Q => ∃ (b : Bool) (ws : List (List Nat)), ds = [tnD (.lf b ws)] ∧ (OkT (.lf b ws)) ∧ Q (wiD a (.lf b (srtW ws)))
theorem ar__law_made_words {a : Adr} : ∀ ds Q, tf__law_made_words a ds Q → ds.length = 1 := by
  rintro ds Q ⟨_, _, rfl, _⟩
  rfl
def tf__law_wish (a : Adr) : TDF := fun ds Q => ∃ (t : Wi), ds = [.bag, tnD t] ∧ False
def tWs (a : Adr) (n : Nat) : TDF := fun ds Q => ∃ t, ds = [.bag, tnD t] ∧ (OkT t ∧ dpW t < n ∧ szW t ≤ 1000) ∧ Q (wiD a (nrmW t))
theorem ar_tWs {a : Adr} (n : Nat) : ∀ ds Q, tWs a n ds Q → ds.length = 2 := by
  rintro ds Q ⟨_, rfl, _⟩
  rfl
def tf__law_letters_of : TDF := fun ds Q => ∃ (t : Wi), ds = [tnD t] ∧ (OkT t ∧ dpW t < 5 ∧ szW t ≤ 100) ∧ Q (.str (ndL t))
theorem ar__law_letters_of : ∀ ds Q, tf__law_letters_of ds Q → ds.length = 1 := by
  rintro ds Q ⟨_, rfl, _⟩
  rfl
def tf__law_like : TDF := fun ds Q => ∃ (n : Nat) (d : D), ds = [d, d] ∧ n = 64 ∧ okD d = true ∧ Q (.bl true)
mutual
def smD : D → Bool
  | .lst xs => decide (xs.length ≤ 16777216) && smL xs
  | .tup xs => decide (xs.length ≤ 16777216) && smL xs
  | _ => true
def smL : List D → Bool
  | [] => true
  | x :: xs => smD x && smL xs
end
theorem smL_mem : ∀ {ds : List D} {d : D}, smL ds = true → d ∈ ds → smD d = true
  | x :: xs, d, s, h => by
    simp only [smL, Bool.and_eq_true] at s
    rcases List.mem_cons.mp h with rfl | h
    · exact s.1
    · exact smL_mem s.2 h
def tL (n : Nat) : TDF := fun ds Q => ∃ d, ds = [d, d] ∧ (plainD d = true ∧ smD d = true ∧ dep d < n) ∧ Q (.bl true)
theorem ar_tL (n : Nat) : ∀ ds Q, tL n ds Q → ds.length = 2 := by
  rintro ds Q ⟨_, rfl, _⟩
  rfl
theorem zipD_self : ∀ xs : List D, zipD xs xs = xs.map fun d => .tup [d, d]
  | [] => rfl
  | x :: xs => by simp [zipD, zipD_self xs]
theorem bools_ones : ∀ (n : Nat), bools (List.replicate n (.bl true)) = some (List.replicate n true)
  | 0 => rfl
  | n + 1 => by simp [List.replicate_succ, bools, bools_ones n]
theorem depL_mem : ∀ {ds : List D} {d : D}, d ∈ ds → dep d ≤ depL ds
  | x :: xs, d, h => by
    rcases List.mem_cons.mp h with rfl | h
    · simp only [depL]; omega
    · have := depL_mem h
      simp only [depL]; omega
theorem plainL_mem {ds : List D} (h : plainL ds = true) {d : D} (m : d ∈ ds) : plainD d = true := plainL_iff.mp h d m
def tf_law : TDF := fun ds Q => ds = [.non] ∧ False
def spLaw (K : PySem.W.Frag) : Sp := fun vs H Q _ => ∃ (s : Addr) (ns : List Int), vs = [.ref s] ∧ SqL K H s (ns.map V.int) ∧ ns.length ≤ 63 ∧ ∀ H', Q (.bl true) H'
def Asc (s : List Nat) : Prop := ∀ c ∈ s, c < 128
theorem ascii_ok {s : List Nat} (h : Asc s) : okD (.str s) = true := by
  unfold okD
  rw [Bool.and_eq_true]
  refine ⟨?_, rfl⟩
  simp only [plainD, List.all_eq_true, decide_eq_true_eq]
  intro c hc
  have := h c hc
  omega
theorem Asc.app {s t : List Nat} (h : Asc s) (k : Asc t) : Asc (s ++ t) := fun c hc => (List.mem_append.mp hc).elim (h c) (k c)
theorem LowS.asc {s : List Nat} (h : LowS s) : Asc s := fun c hc => by have := lowL_iff.mp (h c hc); omega
def valB (d : D) : Bool := (tyN d).isSome && decide (lenOk d) && okD d && plainD d && smD d && decide (dep d < 10)
theorem valB_of {d : D} (h : valB d = true) : (tyN d).isSome = true ∧ lenOk d ∧ okD d = true ∧ plainD d = true ∧ smD d = true ∧ dep d < 10 := by
  unfold valB at h
  simp only [Bool.and_eq_true, decide_eq_true_eq] at h
  obtain ⟨⟨⟨⟨⟨h1, h2⟩, h3⟩, h4⟩, h5⟩, h6⟩ := h
  exact ⟨h1, h2, h3, h4, h5, h6⟩
def Gv (n : Nat) (d : D) : Prop := plainD d = true ∧ smD d = true ∧ dep d < n
def GvL (n : Nat) : List D → Prop
  | [] => True
  | x :: xs => Gv n x ∧ GvL n xs
theorem GvL.all {n : Nat} : ∀ {xs : List D}, GvL (n + 1) xs → plainL xs = true ∧ smL xs = true ∧ depL xs < n + 1
  | [], _ => ⟨rfl, rfl, by simp [depL]⟩
  | x :: xs, h => by
    obtain ⟨⟨a, b, c⟩, r⟩ := h
    obtain ⟨a', b', c'⟩ := GvL.all r
    simp only [plainL, smL, depL, a, b, a', b', Bool.and_self, true_and]
    omega
theorem Gv.lst {n : Nat} {xs : List D} (h : GvL (n + 1) xs) (hl : xs.length ≤ 16777216 := by simp only [List.length_cons, List.length_nil]; omega) : Gv (n + 2) (.lst xs) := by
  obtain ⟨a, b, c⟩ := h.all
  refine ⟨a, ?_, by simp only [dep]; omega⟩
  simp only [smD, b, Bool.and_true]
  exact decide_eq_true hl
theorem Gv.tup {n : Nat} {xs : List D} (h : GvL (n + 1) xs) (hl : xs.length ≤ 16777216 := by simp only [List.length_cons, List.length_nil]; omega) : Gv (n + 2) (.tup xs) := by
  obtain ⟨a, b, c⟩ := h.all
  refine ⟨a, ?_, by simp only [dep]; omega⟩
  simp only [smD, b, Bool.and_true]
  exact decide_eq_true hl
theorem Gv.asc {n : Nat} {s : List Nat} (h : Asc s) : Gv (n + 1) (.str s) := ⟨okD.plain (ascii_ok h), rfl, by simp only [dep]; omega⟩
theorem Gv.of {n : Nat} {d : D} (h : valB d = true) (hn : 10 ≤ n) : Gv n d := by
  obtain ⟨_, _, _, a, b, c⟩ := valB_of h
  exact ⟨a, b, by omega⟩
theorem Gv.le {n m : Nat} {d : D} (h : Gv n d) (hl : n ≤ m) : Gv m d := ⟨h.1, h.2.1, Nat.lt_of_lt_of_le h.2.2 hl⟩
inductive RelL (R : List Nat → List Nat → Prop) : List (List Nat) → List (List Nat) → Prop
  | nil : RelL R [] []
  | cons {x z xs zs} : R x z → RelL R xs zs → RelL R (x :: xs) (z :: zs)
theorem wpMap_rel {R : List Nat → List Nat → Prop} {f : D → (List D → Prop) → Prop} : ∀ {ts : List (List Nat)} {Q : List D → Prop}, (∀ x ∈ ts, ∀ k : List D → Prop, (∀ z, R x z → k [.str z]) → f (.str x) k) → (∀ zs, RelL R ts zs → Q (zs.map .str)) → wpMap f (ts.map .str) Q
  | [], Q, _, h => h [] .nil
  | x :: ts, Q, hf, h => by
    show f (.str x) fun r => wpMap f (ts.map .str) fun rs => Q (r ++ rs)
    refine hf x (by simp) _ fun z hz => ?_
    exact wpMap_rel (fun y hy => hf y (by simp [hy])) fun zs hzs => h (z :: zs) (.cons hz hzs)
theorem RelL.app {R : List Nat → List Nat → Prop} : ∀ {a b zs : List (List Nat)}, RelL R (a ++ b) zs → ∃ z1 z2, zs = z1 ++ z2 ∧ RelL R a z1 ∧ RelL R b z2
  | [], b, zs, h => ⟨[], zs, rfl, .nil, h⟩
  | x :: a, b, zs, h => by
    have h : RelL R (x :: (a ++ b)) zs := h
    cases h with
    | cons h1 h2 =>
      obtain ⟨z1, z2, rfl, g1, g2⟩ := h2.app
      exact ⟨_ :: z1, z2, rfl, .cons h1 g1, g2⟩
theorem RelL.one {R : List Nat → List Nat → Prop} {x : List Nat} {zs : List (List Nat)} (h : RelL R [x] zs) : ∃ z, zs = [z] ∧ R x z := by
  cases h with
  | cons h1 h2 => cases h2; exact ⟨_, rfl, h1⟩
def LooseR (x z : List Nat) : Prop := z = x ∨ ∃ (b : Bool) (us vs : List (List Nat)), x = hdW b ++ [58] ++ joinL [44] us ∧ (∀ u ∈ us, okWd u = true) ∧ us ≠ [] ∧ z = hdW b ++ [58] ++ joinL [44] vs ∧ (∀ u, u ∈ vs ↔ u ∈ us) ∧ vs.length ≤ 4
theorem hd_inj {b c : Bool} (h : hdW b = hdW c) : b = c := by
  cases b <;> cases c <;> first | rfl | exact absurd h (by decide)
theorem loose_tokV : ∀ {t : Wi}, OkT t → ∀ {zs : List (List Nat)}, RelL LooseR (tokW (nrmW t)) zs → TokV t zs
  | .lf b ws, h, zs, hz => by
    obtain ⟨z, rfl, hr⟩ := RelL.one hz
    unfold LooseR at hr
    rcases hr with rfl | ⟨c, us, vs, e, h1, h2, rfl, h3, h4⟩
    · exact ⟨srtW ws, fun u => mem_srtW, Nat.le_trans (srtW_len ws) h.2.2, rfl⟩
    · have e1 : prtL 58 (hdW b ++ [58] ++ joinL [44] (srtW ws)) = prtL 58 (hdW c ++ [58] ++ joinL [44] us) := by rw [e]
      rw [prt_app (hd_no b), prt_app (hd_no c)] at e1
      have e2 : hdW b = hdW c := (Prod.mk.inj e1).1
      have e3 : joinL [44] (srtW ws) = joinL [44] us := (Prod.mk.inj (Prod.mk.inj e1).2).2
      have hb := hd_inj e2
      subst hb
      have hne : srtW ws ≠ [] := fun q => by
        cases ws with
        | nil => have := h.2.1; simp at this
        | cons y r => exact absurd (mem_srtW.mpr (show y ∈ y :: r by simp)) (by rw [q]; simp)
      have e4 : srtW ws = us := by
        rw [← split_join (c := 44) hne (us_no (fun u hu => h.1 u (mem_srtW.mp hu)) (by decide)), e3, split_join h2 (us_no h1 (by decide))]
      exact ⟨vs, fun u => by rw [h3, ← e4, mem_srtW], h4, rfl⟩
  | .bh w t, h, zs, hz => by
    have hz : RelL LooseR (tokW (nrmW t) ++ [bhL ++ [58] ++ w]) zs := hz
    obtain ⟨z1, z2, rfl, g1, g2⟩ := RelL.app hz
    obtain ⟨z, rfl, hr⟩ := RelL.one g2
    unfold LooseR at hr
    rcases hr with rfl | ⟨c, us, vs, e, _⟩
    · exact ⟨z1, loose_tokV h.2 g1, rfl⟩
    · have e1 : prtL 58 (bhL ++ [58] ++ w) = prtL 58 (hdW c ++ [58] ++ joinL [44] us) := by rw [e]
      rw [prt_app (by decide), prt_app (hd_no c)] at e1
      have := (Prod.mk.inj e1).1
      cases c <;> exact absurd this (by decide)
  | .jn b t u, h, zs, hz => by
    have hz : RelL LooseR (tokW (nrmW t) ++ tokW (nrmW u) ++ [jnW b]) zs := hz
    obtain ⟨z1, z2, rfl, g1, g2⟩ := RelL.app hz
    obtain ⟨z3, z4, rfl, g3, g4⟩ := RelL.app g1
    obtain ⟨z, rfl, hr⟩ := RelL.one g2
    unfold LooseR at hr
    rcases hr with rfl | ⟨c, us, vs, e, _⟩
    · exact ⟨z3, z4, loose_tokV h.1 g3, loose_tokV h.2 g4, rfl⟩
    · have : 58 ∈ jnW b := by rw [e]; simp
      cases b <;> exact absurd this (by decide)
  | .nm s, h, zs, hz => by
    have hz : RelL LooseR [s] zs := hz
    obtain ⟨z, rfl, hr⟩ := RelL.one hz
    unfold LooseR at hr
    rcases hr with rfl | ⟨c, us, vs, e, _⟩
    · rfl
    · have : 58 ∈ s := by rw [e]; simp
      exact absurd this (low_no (nameD h).1 (by decide))
theorem lfv_len {b : Bool} {vs : List (List Nat)} (h1 : ∀ w ∈ vs, okWd w = true) (h2 : vs.length ≤ 4) : (hdW b ++ [58] ++ joinL [44] vs).length ≤ 40 := by
  have a1 := sum_le (n := 6) fun x hx => okWd_len (h1 x hx)
  have a2 := joinL_len [44] vs
  simp only [List.length_append, List.length_cons, List.length_nil] at a2 ⊢
  have a4 : (hdW b).length ≤ 6 := by cases b <;> decide
  omega
theorem tokV_len : ∀ {t : Wi}, OkT t → ∀ {ts : List (List Nat)}, TokV t ts → ts.length = szW t ∧ ∀ x ∈ ts, x.length ≤ 40
  | .lf b ws, ho, ts, ⟨us, hu, h4, e⟩ => by
    subst e
    refine ⟨rfl, fun x hx => ?_⟩
    rw [List.mem_singleton.mp hx]
    exact lfv_len (fun u h => ho.1 u ((hu u).mp h)) h4
  | .bh w t, ho, ts, ⟨ts', h', e⟩ => by
    subst e
    obtain ⟨a1, a2⟩ := tokV_len ho.2 h'
    refine ⟨by rw [List.length_append, a1]; rfl, fun x hx => ?_⟩
    rcases List.mem_append.mp hx with hx | hx
    · exact a2 x hx
    · rw [List.mem_singleton.mp hx]
      have := okWd_len ho.1
      simp only [List.length_append, List.length_cons, List.length_nil]
      omega
  | .jn b t u, ho, ts, ⟨t1, t2, h1, h2, e⟩ => by
    subst e
    obtain ⟨a1, a2⟩ := tokV_len ho.1 h1
    obtain ⟨b1, b2⟩ := tokV_len ho.2 h2
    refine ⟨by rw [List.length_append, List.length_append, a1, b1]; rfl, fun x hx => ?_⟩
    rcases List.mem_append.mp hx with hx | hx
    · rcases List.mem_append.mp hx with hx | hx
      · exact a2 x hx
      · exact b2 x hx
    · rw [List.mem_singleton.mp hx]; cases b <;> decide
  | .nm s, ho, ts, e => by
    obtain rfl : ts = [s] := e
    refine ⟨rfl, fun x hx => ?_⟩
    rw [List.mem_singleton.mp hx]
    unfold OkT isNameD at ho
    rw [Bool.and_eq_true] at ho
    have := (isWd ho.1).1
    omega
/-- what a text of tokens is good for -/
theorem tokV_text {t : Wi} (ho : OkT t) {ts : List (List Nat)} (h : TokV t ts) (hs : szW t ≤ 20) : readD (.str (joinL [32] ts)) = .inl (nrmW t) ∧ okD (.str (joinL [32] ts)) = true ∧ (joinL [32] ts).length ≤ 1000 ∧ (ts.map (·.length)).sum + ts.length * 1 ≤ 1000 := by
  obtain ⟨a1, a2⟩ := tokV_len ho h
  have b1 := sum_le a2
  have b2 := joinL_len [32] ts
  simp only [List.length_cons, List.length_nil] at b2
  refine ⟨read_tok ho h (by omega), ascii_ok ?_, by omega, by omega⟩
  have key : ∀ L : List (List Nat), (∀ x ∈ L, Asc x) → Asc (joinL [32] L) := fun L => by
    induction L with
    | nil => intro _ c hc; cases hc
    | cons x M ih =>
      intro hL
      cases M with
      | nil => exact hL x (by simp)
      | cons y M =>
        show Asc (x ++ [32] ++ joinL [32] (y :: M))
        exact Asc.app (Asc.app (hL x (by simp)) (by intro c hc; rw [List.mem_singleton.mp hc]; decide)) (ih fun t ht => hL t (by simp [ht]))
  exact key ts fun x hx => ((tokV_sg ho h).2 x hx).asc
theorem count_join {c : Nat} : ∀ us : List (List Nat), us.length ≤ (joinL [c] us).count c + 1
  | [] => by simp
  | [x] => by simp
  | x :: y :: r => by
    have := count_join (c := c) (y :: r)
    show _ ≤ (x ++ [c] ++ joinL [c] (y :: r)).count c + 1
    rw [List.count_append, List.count_append]
    simp at this ⊢
    omega
theorem perm_str {ys : List D} {l : List (List Nat)} (h : ys.Perm (l.map .str)) : ∃ vs : List (List Nat), ys = vs.map .str ∧ vs.Perm l := by
  obtain ⟨vs, rfl, _⟩ := draw_all (f := D.str) (P := fun _ => True) fun r hr => by
    obtain ⟨w, _, e⟩ := List.mem_map.mp (h.mem_iff.mp hr)
    exact ⟨w, trivial, e.symm⟩
  refine ⟨vs, rfl, ?_⟩
  have := h.map (fun d => match d with | .str s => s | _ => [])
  simpa [List.map_map, Function.comp_def] using this
theorem Gv.strs {n : Nat} {l : List (List Nat)} (h : ∀ x ∈ l, Asc x) (hl : l.length ≤ 1000) : Gv (n + 3) (.lst (l.map .str)) := by
  have key : ∀ l : List (List Nat), (∀ x ∈ l, Asc x) → GvL (n + 2) (l.map .str) := fun l => by
    induction l with
    | nil => intro _; trivial
    | cons x l ih => intro h; exact ⟨.asc (h x (by simp)), ih fun y hy => h y (by simp [hy])⟩
  exact .lst (key l h) (by rw [List.length_map]; omega)
theorem okL_strs {l : List (List Nat)} (hl : ∀ x ∈ l, okD (.str x) = true) : okD (.lst (l.map .str)) = true := by
  unfold okD
  rw [Bool.and_eq_true]
  refine ⟨plainL_iff.mpr fun d hd => ?_, ?_⟩
  · obtain ⟨s, hs, rfl⟩ := List.mem_map.mp hd
    exact okD.plain (hl s hs)
  · rw [decide_eq_true_iff]
    have : ∀ l : List (List Nat), depL (l.map D.str) ≤ 1 := fun l => by
      induction l with
      | nil => simp [depL]
      | cons x l ih => simp [depL, dep]; omega
    have := this l
    simp only [dep]
    omega
theorem any_str {l : List (List Nat)} {x : List Nat} : ((l.map D.str).any fun z => deqv z (.str x)) = true ↔ x ∈ l := by
  rw [List.any_eq_true]
  constructor
  · rintro ⟨z, hz, e⟩
    obtain ⟨y, hy, rfl⟩ := List.mem_map.mp hz
    rw [deqv_str, decide_eq_true_iff] at e
    exact e ▸ hy
  · intro h
    exact ⟨.str x, List.mem_map.mpr ⟨x, h, rfl⟩, by rw [deqv_str]; simp⟩
theorem tok_nm {ns : List (List Nat)} : ∀ {t : Wi}, OkT t → NmIn ns t → ∀ x ∈ tokW (nrmW t), isNameD (.str x) = true → x ∈ ns
  | .lf b ws, h, _, x, hx, hn => by
    simp only [nrmW, tokW, List.mem_singleton] at hx
    exact absurd (show 58 ∈ x by rw [hx]; simp) (low_no (nameD hn).1 (by decide))
  | .bh w t, h, hi, x, hx, hn => by
    simp only [nrmW, tokW, List.mem_append, List.mem_singleton] at hx
    rcases hx with hx | hx
    · exact tok_nm h.2 hi x hx hn
    · exact absurd (show 58 ∈ x by rw [hx]; simp) (low_no (nameD hn).1 (by decide))
  | .jn b t u, h, hi, x, hx, hn => by
    simp only [nrmW, tokW, List.mem_append, List.mem_singleton] at hx
    rcases hx with (hx | hx) | hx
    · exact tok_nm h.1 hi.1 x hx hn
    · exact tok_nm h.2 hi.2 x hx hn
    · exact absurd (show x = boL ∨ x = eiL by rw [hx]; cases b <;> decide) (nameD hn).2.2
  | .nm s, h, hi, x, hx, hn => by
    simp only [nrmW, tokW, List.mem_singleton] at hx
    rw [hx]
    exact hi
theorem name_flat (l : List (List Nat)) : l.flatMap (fun x => if isNameD (.str x) = true then [D.str x] else []) = (l.filter fun x => isNameD (.str x)).map D.str := by
  induction l with
  | nil => rfl
  | cons x l ih =>
    rw [List.flatMap_cons, ih, List.filter_cons]
    by_cases hc : isNameD (.str x) = true
    · rw [if_pos hc, if_pos hc]; rfl
    · rw [if_neg hc, if_neg hc]; rfl
theorem WiC.m_text (T : Txt K mg a) {C : Addr} (h : WiC a C) : Meth K C "text" a.f_Wish_text := by
  rcases h with rfl | rfl | rfl | rfl | rfl | rfl
  · exact T.mt_Never_text
  · exact T.mt_Blocks_text
  · exact T.mt_Behind_text
  · exact T.mt_Both_text
  · exact T.mt_Either_text
  · exact T.mt_Named_text
theorem WiC.m_tokens (T : Txt K mg a) {C : Addr} (h : WiC a C) : Meth K C "tokens" a.f_Wish_tokens := by
  rcases h with rfl | rfl | rfl | rfl | rfl | rfl
  · exact T.mt_Never_tokens
  · exact T.mt_Blocks_tokens
  · exact T.mt_Behind_tokens
  · exact T.mt_Both_tokens
  · exact T.mt_Either_tokens
  · exact T.mt_Named_tokens
theorem WiC.m_names (T : Txt K mg a) {C : Addr} (h : WiC a C) : Meth K C "names" a.f_Wish_names := by
  rcases h with rfl | rfl | rfl | rfl | rfl | rfl
  · exact T.mt_Never_names
  · exact T.mt_Blocks_names
  · exact T.mt_Behind_names
  · exact T.mt_Both_names
  · exact T.mt_Either_names
  · exact T.mt_Named_names
theorem WiC.eqx (T : Txt K mg a) {C : Addr} (h : WiC a C) : EqX K C a.f_Wish___eq__ := by
  rcases h with rfl | rfl | rfl | rfl | rfl | rfl
  · exact T.eqa_Never
  · exact T.eqa_Blocks
  · exact T.eqa_Behind
  · exact T.eqa_Both
  · exact T.eqa_Either
  · exact T.eqa_Named
theorem WiC.rep (T : Txt K mg a) {C : Addr} (h : WiC a C) : Spec1 K C "__repr__" a.f_Wish___repr__ := by
  rcases h with rfl | rfl | rfl | rfl | rfl | rfl
  · exact T.spa_Never___repr__
  · exact T.spa_Blocks___repr__
  · exact T.spa_Behind___repr__
  · exact T.spa_Both___repr__
  · exact T.spa_Either___repr__
  · exact T.spa_Named___repr__
theorem wi_all (a : Adr) (t : Wi) : ∃ C ns vs, wiD a t = .ins C ns vs ∧ WiC a C ∧ ("text" : Str) ∉ ns ∧ ("tokens" : Str) ∉ ns ∧ ("names" : Str) ∉ ns ∧ ("needed" : Str) ∉ ns := by
  cases t with
  | lf b ws => exact ⟨_, _, _, rfl, by cases b <;> simp [WiC], by decide, by decide, by decide, by decide⟩
  | bh w t => exact ⟨_, _, _, rfl, by simp [WiC], by decide, by decide, by decide, by decide⟩
  | jn b t u => exact ⟨_, _, _, rfl, by cases b <;> simp [WiC], by decide, by decide, by decide, by decide⟩
  | nm s => exact ⟨_, _, _, rfl, by simp [WiC], by decide, by decide, by decide, by decide⟩
theorem lt_nrm : ∀ (t : Wi) (c : Nat), c ∈ ltW (nrmW t) ↔ c ∈ ltW t
  | .lf b ws, c => by
    show c ∈ (srtW ws).flatten ↔ c ∈ ws.flatten
    rw [List.mem_flatten, List.mem_flatten]
    exact ⟨fun ⟨l, h1, h2⟩ => ⟨l, mem_srtW.mp h1, h2⟩, fun ⟨l, h1, h2⟩ => ⟨l, mem_srtW.mpr h1, h2⟩⟩
  | .bh w t, c => by
    show c ∈ ltW (nrmW t) ++ w ↔ c ∈ ltW t ++ w
    rw [List.mem_append, List.mem_append, lt_nrm t c]
  | .jn b t u, c => by
    show c ∈ ltW (nrmW t) ++ ltW (nrmW u) ↔ c ∈ ltW t ++ ltW u
    rw [List.mem_append, List.mem_append, lt_nrm t c, lt_nrm u c]
  | .nm s, c => Iff.rfl
theorem nd_nrm (t : Wi) : ndL (nrmW t) = ndL t := abcF_congr fun c _ => lt_nrm t c
theorem asc_join {L : List (List Nat)} {b : List Nat} (hb : Asc b) (h : ∀ t ∈ L, Asc t) : Asc (joinL b L) := by
  induction L with
  | nil => intro c hc; cases hc
  | cons x M ih =>
    cases M with
    | nil => exact h x (by simp)
    | cons y M =>
      show Asc (x ++ b ++ joinL b (y :: M))
      exact Asc.app (Asc.app (h x (by simp)) hb) (ih fun t ht => h t (by simp [ht]))
theorem abcF_asc (l : List Nat) : Asc (abcF l) := fun c hc => by
  have : ∀ c ∈ abcL, c < 128 := by decide
  exact this c (mem_abcF.mp hc).1
theorem okA_wi (T : Txt K mg a) {C : Addr} (h : WiC a C) (u : Wi) : okOtherA K C (wiD a u) := by
  obtain ⟨C2, ns, vs, e, h2, _⟩ := wi_all a u
  rw [e]
  exact ⟨h2.isx T, h.nf T h2⟩
local macro_rules | `(tactic| walk_at "go") => `(tactic| simp (maxSteps := 3000000) only [tf__law_draws, tf__law_pull, tf__law_any, tf_is_word, tf_is_name, tf_Wish___init__, tf_Never___init__, tf_Blocks___init__, tf_Behind___init__, tf_Both___init__, tf_Either___init__, tf_Named___init__, tf_Wish_text, tf_words_token, tf_token_read, tf_read_wish, tf__law_alphabet, tf__law_word, tf__law_words, tf__law_leaf, tf__law_tree, tf__law_tokens, tf__law_mixed, tf__law_names, tf_Wish_tokens, tf_Wish_names, tf_Words_needed, tf_Wish_needed, tf_Behind_needed, tf_Wish___and__, tf_Wish___or__, tf_Wish___eq__, tf_Wish___repr__, tf__law_made_words, tf__law_wish, tf__law_letters_of, tf__law_like, tf_law, fn_alphabet_size, fn_alphabet_initial, fn_alphabet_own_moves, fn_size_alphabet, fn_size_initial, fn_size_own_moves, fn_initial_alphabet, fn_initial_size, fn_initial_own_moves, fn_own_moves_alphabet, fn_own_moves_size, fn_own_moves_initial, ati0, ati1, ati2, ati3, dLRg, dIndex, dFnX, dsRaise, dMethX, dMethKF, daCons, daNil, dsAppF, dOwn1, dMakeCp, dFldA, dsFldA, dMethA, dMkV, dMkS, dSSTp, rSSTp, rPartD, rSplitD, dM1, dsSup, dCon, dAlt, rIsiS, dEqA, dNeA, dOpI, dReprA, dsSupA, rEqNil, dgLst, rStartsD, rCountD, dsNil, dsSeq, dsDrop, dsRet, dsRetF, dsRetN, dsRetO, dsIf, dsSet, dsOwn, dsFrz, dsPar, dsMul, setK, dkE, dkF, dkNil, rLenSet, rSortD, rMaxD, dFnK, dsAug, augD, dsApp, dsAsg, dsFor, dsBreak, dsCont, dgName, dgTup, dgCons, dgNil, dVar, dPeek, dC, d1, d2, d3, dAnd, dOr, dNot, dTest, dTestB, truD, dtAnd, dtOr, dtNot, dIf, dLst, dTup, dCall, dFn, daCons, daNil, rAddD, rMulD, rMulF, rII, rEqDD, rNeDD, rOrdD, rInDD, rIxD, rSlD, dSl, dSlF, doSome, doNone, rLenD, rIntD, rMM, rAllD, rListD, rTupD, rStrI, rIsiD, rIsiLT, rNegD, dJoin, rJoinD, diSeq, diRng1, diRng2, diEnum, diZip, itemsD, dLc, lcF, dtsNil, dLc2, lcF2, Sl.dat, tyN, isNon, knownD, isIntD, isBoolD, isStrD, isListD, isTupD, isSeqD, List.getElem?_cons_succ, List.getElem?_cons_zero, List.set_cons_succ, List.set_cons_zero, List.cons_append, List.nil_append, List.append_nil, List.replicate_succ, List.replicate_zero, List.length_cons, List.length_nil, Nat.reduceAdd, Nat.reduceSub, Int.reduceToNat, Int.reducePow, wipeS, List.map_cons, List.map_nil, Option.bind_some, Option.some.injEq, D.int.injEq, D.bl.injEq, D.str.injEq, D.lst.injEq, D.tup.injEq, Sl.val.injEq, Sl.own.injEq, List.cons.injEq, and_true, true_and, ex_eq, exists_eq_left, exists_eq_left', exists_eq, exists_eq', and_assoc, exists_and_left, if_true, if_false, ite_true, ite_false, Bool.false_eq_true, Bool.not_true, Bool.not_false, reduceCtorEq, ↓reduceIte, Option.isSome_some, Option.isSome_none, false_and, and_false, exists_false, D.ins.injEq, D.raw.injEq, V.ref.injEq, eq_self, dFld, dsFld, dMeth, dOp2, dRadd, dGet, dEqI, rIsiC, rIsiX, dFmt, dFmtR, dJoined, dJs, dOwn1, rStrO, rLenO, rReprS, rListS, dSS, rSS, dEqX, dNeX, okOther, dsDput, dGetR, dInR, dsFrzL, dLk, diKeys, dDc, dcF, dDc2, dcF2, dsIns, rEqDic, rLenDic, D.dic.injEq, id, getF, putN, putV, permL_cons, permL_nil, Option.toList_some, iteAnd, iteOr, wpFor, wpMap])
theorem ok__law_any (T : Txt K mg a) : FnOk P w K mg base CX0 2 a.f__law_any a.fd__law_any ["_law_bag", "_law_rows"] (spE 2 tf__law_any) := by
  refine ok_E T.F__law_any sc__law_any rfl (fun cdv A outer s H E hr => ⟨_, (ds_one (ds_ret (de_item (dp_var (pv 1)) (PE.toP (de_fn (ok__law_pull T) (hr.mono (by first | decide | omega)) T.g__law_pull (k__law_pull T) (b0__law_pull T) (fun _ _ _ => .nil) (da_cons (de_var (pv 0)) (da_cons (de_len T.n_len (dap_cons (dp_var (pv 1)) dap_nil)) da_nil)) ar__law_pull))))), fun ds Qd hd h => ?_⟩)
  obtain ⟨r, rs, rfl, h⟩ := h
  simp only [List.map_cons, List.map_nil]
  obtain ⟨e1, e2, e3, q⟩ := h
  cases r <;> simp only [itemsD, reduceCtorEq, Option.some.injEq] at e1 <;> subst e1 <;> walk_at "go"
  · rename_i s
    simp only [List.length_map] at e2 e3
    have hs : s.length ≤ sizeLine := by show s.length ≤ 16777216; omega
    refine ⟨hs, by omega, by omega, fun n h0 h1 => ⟨hs, ?_⟩⟩
    obtain ⟨d, hd⟩ := atI_some (xs := s) h0 (by omega)
    exact ⟨d, hd, q _ (List.mem_map.mpr ⟨d, atI_mem hd, rfl⟩)⟩
  all_goals
    rename_i s
    refine ⟨by omega, by omega, fun n h0 h1 => ?_⟩
    obtain ⟨d, hd⟩ := atI_some (xs := s) h0 (by omega)
    exact ⟨d, hd, q d (atI_mem hd)⟩
theorem ok_is_word (T : Txt K mg a) : FnOk P w K mg base CX0 1 a.f_is_word a.fd_is_word ["value", "most"] (spE 2 tf_is_word) := by
  refine ok_E T.F_is_word sc_is_word rfl (fun cdv A outer s H E hr => ⟨_, (ds_one (ds_ret (de_and (PE.toP (de_isi tab_str T.n_isinstance (dap_cons (dp_var (pv 0)) (dap_cons (PE.toP (de_ty (T := "str") T.n_str (by decide +kernel))) dap_nil)))) (de_and (PE.toP (de_le (PE.toP (de_len T.n_len (dap_cons (dp_var (pv 0)) dap_nil))) (dp_var (pv 1)))) (de_one (de_all T.n_all (dap_cons (PE.toP (PE.toE (df_lc (own := [("letter", 2)]) (di_seq (de_var (pv 0))) sc_is_word.nd (blkOk_by (own := [("letter", 2)]) (N := N_is_word) (sc := defScope s_is_word) (by decide +kernel)) (fun _ _ _ _ _ => (dg_name (i := 2) sc_is_word.nd rfl (Or.inl rfl))) (fun _ _ _ _ _ => dts_nil) (fun _ _ _ _ _ => (de_in (u65 hr) (dp_var (pv 2)) (PE.toP (de_gstr T.c_LETTERS))))))) dap_nil))))))), fun ds Qd hd h => ?_⟩)
  obtain ⟨d, m, rfl, h⟩ := h
  simp only [List.map_cons, List.map_nil]
  obtain ⟨⟨h1, h2⟩, h⟩ := h
  cases d <;> (try cases h1) <;> walk_at "go" <;> first | exact h | skip
  rename_i s
  refine ⟨h2, ?_⟩
  simp only [letters_eq]
  by_cases c : (s.length : Int) ≤ m
  · rw [if_pos (decide_eq_true c)]
    refine ⟨by simpa [lenOk] using h2, wpMap_map (fun d => .bl (match d with | .str x => inStr x abcL | _ => false)) (fun d hd k q => ?_) ⟨s.map lowL, ?_, ?_⟩⟩
    · obtain ⟨e, _, rfl⟩ := List.mem_map.mp hd
      exact q
    · rw [List.map_map]
      exact bools_map lowL s
    · simp only [isWordD, decide_eq_true c, Bool.true_and] at h
      rw [List.all_map]
      exact h
  · rw [if_neg (by simp; omega)]
    simpa only [isWordD, decide_eq_false c, Bool.false_and] using h
local macro_rules | `(tactic| walk_at "go") => `(tactic| simp (maxSteps := 3000000) only [tf__law_draws, tf__law_pull, tf__law_any, tf_is_word, tf_is_name, tf_Wish___init__, tf_Never___init__, tf_Blocks___init__, tf_Behind___init__, tf_Both___init__, tf_Either___init__, tf_Named___init__, tf_Wish_text, tf_words_token, tf_token_read, tf_read_wish, tf__law_alphabet, tf__law_word, tf__law_words, tf__law_leaf, tf__law_tree, tf__law_tokens, tf__law_mixed, tf__law_names, tf_Wish_tokens, tf_Wish_names, tf_Words_needed, tf_Wish_needed, tf_Behind_needed, tf_Wish___and__, tf_Wish___or__, tf_Wish___eq__, tf_Wish___repr__, tf__law_made_words, tf__law_wish, tf__law_letters_of, tf__law_like, tf_law, fn_alphabet_size, fn_alphabet_initial, fn_alphabet_own_moves, fn_size_alphabet, fn_size_initial, fn_size_own_moves, fn_initial_alphabet, fn_initial_size, fn_initial_own_moves, fn_own_moves_alphabet, fn_own_moves_size, fn_own_moves_initial, ati0, ati1, ati2, ati3, dLRg, dIndex, dFnX, dsRaise, dMethX, dMethKF, daCons, daNil, dsAppF, dOwn1, dMakeCp, dFldA, dsFldA, dMethA, dMkV, dMkS, dSSTp, rSSTp, rPartD, rSplitD, dM1, dsSup, dCon, dAlt, rIsiS, dEqA, dNeA, dOpI, dReprA, dsSupA, rEqNil, dgLst, rStartsD, rCountD, wfn_e_words, wfn_e_parts, wfn_e_own_tokens, wfn_e_word, wfn_e_name, wfn_words_e, wfn_words_parts, wfn_words_own_tokens, wfn_words_word, wfn_words_name, wfn_parts_e, wfn_parts_words, wfn_parts_own_tokens, wfn_parts_word, wfn_parts_name, wfn_own_tokens_e, wfn_own_tokens_words, wfn_own_tokens_parts, wfn_own_tokens_word, wfn_own_tokens_name, wfn_word_e, wfn_word_words, wfn_word_parts, wfn_word_own_tokens, wfn_word_name, wfn_name_e, wfn_name_words, wfn_name_parts, wfn_name_own_tokens, wfn_name_word, never_eq, blocks_eq, behind_eq, behindc_eq, both_eq, either_eq, colon_eq, comma_eq, spc_eq, hd_nv, hd_bl, empty_eq, dsNil, dsSeq, dsDrop, dsRet, dsRetF, dsRetN, dsRetO, dsIf, dsSet, dsOwn, dsFrz, dsPar, dsMul, setK, dkE, dkF, dkNil, rLenSet, rSortD, rMaxD, dFnK, dsAug, augD, dsApp, dsAsg, dsFor, dsBreak, dsCont, dgName, dgTup, dgCons, dgNil, dVar, dPeek, dC, d1, d2, d3, dAnd, dOr, dNot, dTest, dTestB, truD, dtAnd, dtOr, dtNot, dIf, dLst, dTup, dCall, dFn, daCons, daNil, rAddD, rMulD, rMulF, rII, rEqDD, rNeDD, rOrdD, rInDD, rIxD, rSlD, dSl, dSlF, doSome, doNone, rLenD, rIntD, rMM, rAllD, rListD, rTupD, rStrI, rIsiD, rIsiLT, rNegD, dJoin, rJoinD, diSeq, diRng1, diRng2, diEnum, diZip, itemsD, dLc, lcF, dtsNil, dLc2, lcF2, Sl.dat, tyN, isNon, knownD, isIntD, isBoolD, isStrD, isListD, isTupD, isSeqD, List.getElem?_cons_succ, List.getElem?_cons_zero, List.set_cons_succ, List.set_cons_zero, List.cons_append, List.nil_append, List.append_nil, List.replicate_succ, List.replicate_zero, List.length_cons, List.length_nil, Nat.reduceAdd, Nat.reduceSub, Int.reduceToNat, Int.reducePow, wipeS, List.map_cons, List.map_nil, Option.bind_some, Option.some.injEq, D.int.injEq, D.bl.injEq, D.str.injEq, D.lst.injEq, D.tup.injEq, Sl.val.injEq, Sl.own.injEq, List.cons.injEq, and_true, true_and, ex_eq, exists_eq_left, exists_eq_left', exists_eq, exists_eq', and_assoc, exists_and_left, if_true, if_false, ite_true, ite_false, Bool.false_eq_true, Bool.not_true, Bool.not_false, reduceCtorEq, ↓reduceIte, Option.isSome_some, Option.isSome_none, false_and, and_false, exists_false, D.ins.injEq, D.raw.injEq, V.ref.injEq, eq_self, dFld, dsFld, dMeth, dOp2, dRadd, dGet, dEqI, rIsiC, rIsiX, dFmt, dFmtR, dJoined, dJs, dOwn1, rStrO, rLenO, rReprS, rListS, dSS, rSS, dEqX, dNeX, okOther, dsDput, dGetR, dInR, dsFrzL, dLk, diKeys, dDc, dcF, dDc2, dcF2, dsIns, rEqDic, rLenDic, D.dic.injEq, id, getF, putN, putV, permL_cons, permL_nil, Option.toList_some, iteAnd, iteOr, wpFor, wpMap])
theorem ok_is_name (T : Txt K mg a) : FnOk P w K mg base CX0 2 a.f_is_name a.fd_is_name ["value"] (spE 1 tf_is_name) := by
  refine ok_E T.F_is_name sc_is_name rfl (fun cdv A outer s H E hr => ⟨_, (ds_one (ds_ret (de_and (PE.toP (de_fn (ok_is_word T) (hr.mono (by first | decide | omega)) T.g_is_word (k_is_word T) (b0_is_word T) (fun _ _ _ => .nil) (da_cons (de_var (pv 0)) (da_cons (de_int) da_nil)) ar_is_word)) (de_one (de_notIn (u65 hr) (dp_var (pv 0)) (PE.toP (de_tup (da_cons (de_str) (da_cons (de_str) (da_cons (de_str) da_nil)))))))))), fun ds Qd hd h => ?_⟩)
  obtain ⟨d, rfl, h⟩ := h
  simp only [List.map_cons, List.map_nil]
  obtain ⟨⟨h1, h2⟩, h⟩ := h
  cases d <;> (try cases h1) <;> walk_at "go" <;> first | exact ⟨h2, by simpa [isNameD, isWordD] using h⟩ | skip
  rename_i s
  refine ⟨h2, ?_⟩
  by_cases c : isWordD (.str s) 8 = true
  · rw [if_pos c]
    refine ⟨by decide, rfl, rfl, ?_⟩
    rw [name_any]
    simpa only [isNameD, c, Bool.true_and] using h
  · rw [if_neg c]
    have c' : isWordD (.str s) 8 = false := by simpa using c
    simpa only [isNameD, c', Bool.false_and] using h
theorem ok_Wish___init__ (T : Txt K mg a) : FnOk P w K mg base CX0 2 a.f_Wish___init__ a.fd_Wish___init__ ["self", "parts", "last"] (spI2 2 (tf_Wish___init__ a)) := by
  refine ok_I2 T.F_Wish___init__ sc_Wish___init__ rfl (fun cdv A outer s H E hr => ⟨_, (ds_cons (ds_fldA (K := K) (pv 0) (de_var (pv 1)))
      (ds_one (ds_fldA (K := K) (pv 0) (de_add (PE.toP (PE.toE (df_lc2 (own := [("part", 3), ("token", 4)]) (vs1 := [4]) (di_seq (de_var (pv 1))) sc_Wish___init__.nd (blkOk_by (own := [("part", 3), ("token", 4)]) (N := N_Wish___init__) (sc := defScope s_Wish___init__) (by decide +kernel)) (by decide) (fun _ _ _ _ _ => (dg_name (i := 3) sc_Wish___init__.nd rfl (Or.inl rfl))) (fun _ _ _ _ _ => dts_nil) (di1_seq (fun _ _ _ _ _ => (de_fldA (K := K) (dp_var (pv 3))))) (fun _ _ _ _ _ => (dg_name (i := 4) sc_Wish___init__.nd rfl (Or.inl rfl))) (fun _ _ _ _ _ => dts_nil) (fun _ _ _ _ _ => (de_var (pv 4)))))) (PE.toP (PE.toE (df_lst (da_cons (de_var (pv 2)) da_nil)))))))), fun C ns vs ds Qd y hd h => ?_⟩)
  obtain ⟨C0, ns0, vs0, ps, l, e_, h⟩ := h
  cases e_
  simp only [List.map_cons, List.map_nil]
  obtain ⟨⟨hC, hn, hl, hp2, ht⟩, h⟩ := h
  walk_at "go"
  refine ⟨hC.cls T, hC.parts T, by omega, hC.cls T, hC.toks T, 1000000, by rw [List.length_map]; show _ ≤ 16777216; omega, ?_⟩
  refine wpMap_onF (fun t => (tokW t).map D.str) (fun t ht2 k q => ?_) ?_
  · obtain ⟨C', ns', vs', e, c1, g⟩ := wiD_ins a t
    refine ⟨C', ns', vs', e, c1.cls T, c1.toks T, _, g, _, rfl, ?_, ?_⟩
    · have := mem_flat_len (f := tokW) ht2
      rw [List.length_map]; omega
    · exact wpMap_det (fun d => [d]) (fun _ _ _ q => q) (by simpa using q)
  · rw [← List.map_flatMap]
    refine ⟨by decide, by rw [List.length_map]; show _ ≤ 16777216; omega, Nat.lt_of_le_of_lt (putN_len _ _) (by omega), not_putN (by decide) (not_putN (by decide) hn), ?_⟩
    rw [List.map_append] at h
    exact h
theorem ok_Never___init__ (T : Txt K mg a) : FnR P w K mg base CX0 4 a.f_Never___init__ (spIV a.C_Never (tf_Never___init__ a)) := by
  refine ok_ISV T.F_Never___init__ sc_Never___init__ (fun kV doc pm an ct us rest hl => StX.bind_star1 (B := fun l => bindArgs _ ⟨l, []⟩) (p1 := "self") (pv := "words") (fun _ => rfl) (fun _ _ _ => rfl) us rest hl) (fun A outer s H E hr => ⟨_, (dq_cons (ds_for (di_seq (de_var (pv 1))) (dg_name (i := 2) sc_Never___init__.nd rfl (Or.inl rfl)) (ds_one (ds_if (PW.pt (dt_or (dt_not (dt_val (PE.toP (de_fn (ok_is_word T) (hr.mono (by first | decide | omega)) T.g_is_word (k_is_word T) (b0_is_word T) (fun _ _ _ => .nil) (da_cons (de_var (pv 2)) (da_cons (de_gint T.c_MOST_LONG) da_nil)) ar_is_word)))) (dt_or1 (dt_eq hr.units (dp_var (pv 2)) (PE.toP (de_str)))))) ds_nevers ds_nil)))
      (dq_cons (ds_if (dt_not (dt_lele (PE.toP (de_int)) (PE.toP (de_len T.n_len (dap_cons (dp_var (pv 1)) dap_nil))) (PE.toP (de_gint T.c_MOST_WORDS)))) ds_nevers ds_nil)
      (dq_cons (ds_fldA (K := K) (pv 0) (de_tuplec T.n_tuple (dap_cons (PE.toP (PE.toE (df_sortedSetTp (u65 hr) T.n_sorted T.n_set (dp_var (pv 1))))) dap_nil)))
      (dq_sup T.F_Never___init__ sc_Never___init__ (hr.mono (by first | decide | omega)) (fun _ _ _ _ _ => rfl) T.n_super (ok_Wish___init__ T) (bnil (b0_Wish___init__ T)) (fun d ds Q h => Nat.succ.inj (ar_Wish___init__ _ _ h)) (da_cons (de_tup da_nil) (da_cons (de_add (PE.toP (de_add (PE.toP (de_con (dp_var (pv 0)) T.cl_Never T.co_Never_HEAD (fun _ _ _ => .str _))) (PE.toP (de_str)))) (PE.toP (de_join (PE.toP (de_str)) (PE.toP (de_fldA (K := K) (dp_var (pv 0))))))) da_nil))
      (dq_of ds_nil))))), fun ds Qd y hd h => ?_⟩)
  obtain ⟨_, rfl, ws, rfl, h⟩ := h
  simp only [List.map_cons, List.map_nil]
  obtain ⟨⟨hw, hl1, hl4⟩, h⟩ := h
  refine seq_cut fun R hR => ?_
  walk_at "go"
  refine wpFor_inv (fun _ S => ∃ c2, S = [.own (.ins a.C_Never [""] [.raw (.ref y)]), .val (.tup (ws.map .str)), c2]) 0 ⟨_, rfl⟩ (fun m d S De' hm hI hnx _ _ _ _ => ?_) (fun S hI => ?_)
  · obtain ⟨c2, rfl⟩ := hI
    rw [List.getElem?_map] at hm
    obtain ⟨w, e1, rfl⟩ := Option.map_eq_some_iff.mp hm
    obtain ⟨g1, g2⟩ := hw w (List.mem_of_getElem? e1)
    walk_at "go"
    refine ⟨by have := (isWd g1).1; show _ ≤ 16777216; omega, ?_⟩
    rw [g1, if_neg (by decide)]
    refine ⟨isWd_ok g1, by decide +kernel, ?_⟩
    rw [deqv_str, if_neg (by simpa using g2)]
    exact hnx _ ⟨_, rfl⟩
  · obtain ⟨c2, rfl⟩ := hI
    show R _
    subst hR
    walk_at "go"
    rw [if_pos (by rw [List.length_map]; exact decide_eq_true (by omega)), if_neg (by rw [List.length_map]; simp; omega)]
    refine ⟨T.cl_Never, T.no_Never_words, by rw [List.length_map]; omega, ws, strsQ_map ws, fun us hus hm => ?_⟩
    have e := srtW_eq hus hm
    have hul : us.length ≤ 4 := by rw [e]; exact Nat.le_trans (srtW_len ws) hl4
    have hu6 : ∀ x ∈ us, x.length ≤ 6 := fun x hx => by have := (isWd (hw x ((hm x).mp hx)).1).1; omega
    subst e
    have hsum := sum_le hu6
    have hjl := joinL_len [44] (srtW ws)
    simp only [List.length_cons, List.length_nil] at hjl
    refine ⟨by decide, T.st_Never___init__, by decide, by decide, by decide, T.cl_Never, T.no_Never_words, ?_⟩
    refine ⟨srtW ws, strsD_map _, by omega, by show _ ≤ 16777216; omega, [], rfl, ?_, by decide, by decide, by decide, by decide, by decide, by decide, h⟩
    simp [WiC]
theorem ok_Blocks___init__ (T : Txt K mg a) : FnR P w K mg base CX0 4 a.f_Blocks___init__ (spIV a.C_Blocks (tf_Blocks___init__ a)) := by
  refine ok_ISV T.F_Blocks___init__ sc_Blocks___init__ (fun kV doc pm an ct us rest hl => StX.bind_star1 (B := fun l => bindArgs _ ⟨l, []⟩) (p1 := "self") (pv := "words") (fun _ => rfl) (fun _ _ _ => rfl) us rest hl) (fun A outer s H E hr => ⟨_, (dq_cons (ds_for (di_seq (de_var (pv 1))) (dg_name (i := 2) sc_Blocks___init__.nd rfl (Or.inl rfl)) (ds_one (ds_if (PW.pt (dt_or (dt_not (dt_val (PE.toP (de_fn (ok_is_word T) (hr.mono (by first | decide | omega)) T.g_is_word (k_is_word T) (b0_is_word T) (fun _ _ _ => .nil) (da_cons (de_var (pv 2)) (da_cons (de_gint T.c_MOST_LONG) da_nil)) ar_is_word)))) (dt_or1 (dt_eq hr.units (dp_var (pv 2)) (PE.toP (de_str)))))) ds_nevers ds_nil)))
      (dq_cons (ds_if (dt_not (dt_lele (PE.toP (de_int)) (PE.toP (de_len T.n_len (dap_cons (dp_var (pv 1)) dap_nil))) (PE.toP (de_gint T.c_MOST_WORDS)))) ds_nevers ds_nil)
      (dq_cons (ds_fldA (K := K) (pv 0) (de_tuplec T.n_tuple (dap_cons (PE.toP (PE.toE (df_sortedSetTp (u65 hr) T.n_sorted T.n_set (dp_var (pv 1))))) dap_nil)))
      (dq_sup T.F_Blocks___init__ sc_Blocks___init__ (hr.mono (by first | decide | omega)) (fun _ _ _ _ _ => rfl) T.n_super (ok_Wish___init__ T) (bnil (b0_Wish___init__ T)) (fun d ds Q h => Nat.succ.inj (ar_Wish___init__ _ _ h)) (da_cons (de_tup da_nil) (da_cons (de_add (PE.toP (de_add (PE.toP (de_con (dp_var (pv 0)) T.cl_Blocks T.co_Blocks_HEAD (fun _ _ _ => .str _))) (PE.toP (de_str)))) (PE.toP (de_join (PE.toP (de_str)) (PE.toP (de_fldA (K := K) (dp_var (pv 0))))))) da_nil))
      (dq_of ds_nil))))), fun ds Qd y hd h => ?_⟩)
  obtain ⟨_, rfl, ws, rfl, h⟩ := h
  simp only [List.map_cons, List.map_nil]
  obtain ⟨⟨hw, hl1, hl4⟩, h⟩ := h
  refine seq_cut fun R hR => ?_
  walk_at "go"
  refine wpFor_inv (fun _ S => ∃ c2, S = [.own (.ins a.C_Blocks [""] [.raw (.ref y)]), .val (.tup (ws.map .str)), c2]) 0 ⟨_, rfl⟩ (fun m d S De' hm hI hnx _ _ _ _ => ?_) (fun S hI => ?_)
  · obtain ⟨c2, rfl⟩ := hI
    rw [List.getElem?_map] at hm
    obtain ⟨w, e1, rfl⟩ := Option.map_eq_some_iff.mp hm
    obtain ⟨g1, g2⟩ := hw w (List.mem_of_getElem? e1)
    walk_at "go"
    refine ⟨by have := (isWd g1).1; show _ ≤ 16777216; omega, ?_⟩
    rw [g1, if_neg (by decide)]
    refine ⟨isWd_ok g1, by decide +kernel, ?_⟩
    rw [deqv_str, if_neg (by simpa using g2)]
    exact hnx _ ⟨_, rfl⟩
  · obtain ⟨c2, rfl⟩ := hI
    show R _
    subst hR
    walk_at "go"
    rw [if_pos (by rw [List.length_map]; exact decide_eq_true (by omega)), if_neg (by rw [List.length_map]; simp; omega)]
    refine ⟨T.cl_Blocks, T.no_Blocks_words, by rw [List.length_map]; omega, ws, strsQ_map ws, fun us hus hm => ?_⟩
    have e := srtW_eq hus hm
    have hul : us.length ≤ 4 := by rw [e]; exact Nat.le_trans (srtW_len ws) hl4
    have hu6 : ∀ x ∈ us, x.length ≤ 6 := fun x hx => by have := (isWd (hw x ((hm x).mp hx)).1).1; omega
    subst e
    have hsum := sum_le hu6
    have hjl := joinL_len [44] (srtW ws)
    simp only [List.length_cons, List.length_nil] at hjl
    refine ⟨by decide, T.st_Blocks___init__, by decide, by decide, by decide, T.cl_Blocks, T.no_Blocks_words, ?_⟩
    refine ⟨srtW ws, strsD_map _, by omega, by show _ ≤ 16777216; omega, [], rfl, ?_, by decide, by decide, by decide, by decide, by decide, by decide, h⟩
    simp [WiC]
theorem ok_Behind___init__ (T : Txt K mg a) : FnOk P w K mg base CX0 4 a.f_Behind___init__ a.fd_Behind___init__ ["self", "word", "part"] (spI a.C_Behind 2 (tf_Behind___init__ a)) := by
  refine ok_IS T.F_Behind___init__ sc_Behind___init__ rfl (fun A outer s H E hr => ⟨_, (dq_cons (ds_if (PW.pt (dt_or (dt_not (dt_val (PE.toP (de_fn (ok_is_word T) (hr.mono (by first | decide | omega)) T.g_is_word (k_is_word T) (b0_is_word T) (fun _ _ _ => .nil) (da_cons (de_var (pv 1)) (da_cons (de_gint T.c_MOST_LONG) da_nil)) ar_is_word)))) (dt_or1 (dt_eq hr.units (dp_var (pv 1)) (PE.toP (de_str)))))) ds_nevers ds_nil)
      (dq_sup T.F_Behind___init__ sc_Behind___init__ (hr.mono (by first | decide | omega)) (fun _ _ _ _ _ => rfl) T.n_super (ok_Wish___init__ T) (bnil (b0_Wish___init__ T)) (fun d ds Q h => Nat.succ.inj (ar_Wish___init__ _ _ h)) (da_cons (de_tup (da_cons (de_var (pv 2)) da_nil)) (da_cons (de_add (PE.toP (de_str)) (dp_var (pv 1))) da_nil))
      (dq_cons (ds_fld (pv 0) (de_var (pv 1)) T.cl_Behind T.no_Behind_word)
      (dq_of ds_nil)))), fun ds Qd y hd h => ?_⟩)
  obtain ⟨w, t, rfl, h⟩ := h
  simp only [List.map_cons, List.map_nil]
  obtain ⟨⟨⟨hw, hn⟩, ht⟩, h⟩ := h
  walk_at "go"
  refine ⟨by have := (isWd hw).1; show _ ≤ 16777216; omega, ?_⟩
  rw [hw, if_neg (by decide)]
  refine ⟨isWd_ok hw, by decide +kernel, ?_⟩
  rw [deqv_str, if_neg (by simpa using hn)]
  refine ⟨T.st_Behind___init__, by decide, ?_⟩
  have e : List.flatMap tokW [t] = tokW t := by simp
  refine ⟨by have := (isWd hw).1; show _ ≤ 16777216; omega, [t], rfl, ?_, by decide, by decide, by simp, by rw [e]; exact ht, by decide, by decide, by decide, ?_⟩
  · simp [WiC]
  · rw [e]
    exact h
theorem ok_Both___init__ (T : Txt K mg a) : FnOk P w K mg base CX0 4 a.f_Both___init__ a.fd_Both___init__ ["self", "one", "other"] (spI a.C_Both 2 (tf_Both___init__ a)) := by
  refine ok_IS T.F_Both___init__ sc_Both___init__ rfl (fun A outer s H E hr => ⟨_, (dq_sup T.F_Both___init__ sc_Both___init__ (hr.mono (by first | decide | omega)) (fun _ _ _ _ _ => rfl) T.n_super (ok_Wish___init__ T) (bnil (b0_Wish___init__ T)) (fun d ds Q h => Nat.succ.inj (ar_Wish___init__ _ _ h)) (da_cons (de_tup (da_cons (de_var (pv 1)) (da_cons (de_var (pv 2)) da_nil))) (da_cons (de_str) da_nil))
      (dq_of ds_nil)), fun ds Qd y hd h => ?_⟩)
  obtain ⟨t, u, rfl, h⟩ := h
  simp only [List.map_cons, List.map_nil]
  obtain ⟨ht, h⟩ := h
  walk_at "go"
  have e : List.flatMap tokW [t, u] = tokW t ++ tokW u := by simp
  refine ⟨T.st_Both___init__, by decide, [t, u], rfl, ?_, by decide, by decide, by simp, by rw [e, List.length_append]; exact ht, by decide, by decide, ?_⟩
  · simp [WiC]
  · rw [e]
    exact h
theorem ok_Either___init__ (T : Txt K mg a) : FnOk P w K mg base CX0 4 a.f_Either___init__ a.fd_Either___init__ ["self", "one", "other"] (spI a.C_Either 2 (tf_Either___init__ a)) := by
  refine ok_IS T.F_Either___init__ sc_Either___init__ rfl (fun A outer s H E hr => ⟨_, (dq_sup T.F_Either___init__ sc_Either___init__ (hr.mono (by first | decide | omega)) (fun _ _ _ _ _ => rfl) T.n_super (ok_Wish___init__ T) (bnil (b0_Wish___init__ T)) (fun d ds Q h => Nat.succ.inj (ar_Wish___init__ _ _ h)) (da_cons (de_tup (da_cons (de_var (pv 1)) (da_cons (de_var (pv 2)) da_nil))) (da_cons (de_str) da_nil))
      (dq_of ds_nil)), fun ds Qd y hd h => ?_⟩)
  obtain ⟨t, u, rfl, h⟩ := h
  simp only [List.map_cons, List.map_nil]
  obtain ⟨ht, h⟩ := h
  walk_at "go"
  have e : List.flatMap tokW [t, u] = tokW t ++ tokW u := by simp
  refine ⟨T.st_Either___init__, by decide, [t, u], rfl, ?_, by decide, by decide, by simp, by rw [e, List.length_append]; exact ht, by decide, by decide, ?_⟩
  · simp [WiC]
  · rw [e]
    exact h
theorem ok_Named___init__ (T : Txt K mg a) : FnOk P w K mg base CX0 4 a.f_Named___init__ a.fd_Named___init__ ["self", "name"] (spI a.C_Named 1 (tf_Named___init__ a)) := by
  refine ok_IS T.F_Named___init__ sc_Named___init__ rfl (fun A outer s H E hr => ⟨_, (dq_cons (ds_if (dt_not (dt_val (PE.toP (de_fn (ok_is_name T) (hr.mono (by first | decide | omega)) T.g_is_name (k_is_name T) (b0_is_name T) (fun _ _ _ => .nil) (da_cons (de_var (pv 1)) da_nil) ar_is_name)))) ds_nevers ds_nil)
      (dq_sup T.F_Named___init__ sc_Named___init__ (hr.mono (by first | decide | omega)) (fun _ _ _ _ _ => rfl) T.n_super (ok_Wish___init__ T) (bnil (b0_Wish___init__ T)) (fun d ds Q h => Nat.succ.inj (ar_Wish___init__ _ _ h)) (da_cons (de_tup da_nil) (da_cons (de_var (pv 1)) da_nil))
      (dq_cons (ds_fld (pv 0) (de_var (pv 1)) T.cl_Named T.no_Named_name)
      (dq_of ds_nil)))), fun ds Qd y hd h => ?_⟩)
  obtain ⟨s, rfl, h⟩ := h
  simp only [List.map_cons, List.map_nil]
  obtain ⟨hs, h⟩ := h
  walk_at "go"
  have h8 : isWordD (.str s) 8 = true := by
    unfold isNameD at hs
    rw [Bool.and_eq_true] at hs
    exact hs.1
  refine ⟨by have := (isWd h8).1; show _ ≤ 16777216; omega, ?_⟩
  rw [hs, if_neg (by decide)]
  refine ⟨T.st_Named___init__, by decide, [], rfl, ?_, by decide, by decide, by decide, by decide, by decide, by decide, by decide, h⟩
  simp [WiC]
theorem ok_Wish_text (T : Txt K mg a) : FnOk P w K mg base CX0 1 a.f_Wish_text a.fd_Wish_text ["self"] (spE 1 (tf_Wish_text a)) := by
  refine ok_E T.F_Wish_text sc_Wish_text rfl (fun cdv A outer s H E hr => ⟨_, (ds_one (ds_ret (de_join (PE.toP (de_str)) (PE.toP (de_fldA (K := K) (dp_var (pv 0))))))), fun ds Qd hd h => ?_⟩)
  obtain ⟨t, rfl, h⟩ := h
  simp only [List.map_cons, List.map_nil]
  obtain ⟨hs, h⟩ := h
  walk_at "go"
  obtain ⟨C, ns, vs, e, hc, hg⟩ := wiD_ins a t
  exact ⟨C, ns, vs, e, hc.cls T, hc.toks T, _, hg, _, strsD_map _, by omega, h⟩
theorem ok_words_token (T : Txt K mg a) : FnOk P w K mg base CX0 6 a.f_words_token a.fd_words_token ["token", "stack"] (spE 2 (tf_words_token a)) := by
  refine ok_E T.F_words_token sc_words_token rfl (fun cdv A outer s H E hr => ⟨_, (ds_cons (ds_asg (de_part (dp_var (pv 0)) (PE.toP (de_str))) (dg_tup (n := 3) (dgs_cons (dg_name (i := 2) sc_words_token.nd rfl (Or.inl rfl)) (dgs_cons (dg_name (i := 3) sc_words_token.nd rfl (Or.inl rfl)) (dgs_cons (dg_name (i := 4) sc_words_token.nd rfl (Or.inl rfl)) dgs_nil)))))
      (ds_cons (ds_set (i := 5) sc_words_token.nd rfl (Or.inl rfl) (PE.toE (df_split (dp_var (pv 4)) (PE.toP (de_str)))))
      (ds_cons (ds_if (PW.pt (dt_or (dt_not (dt_val (PE.toP (de_all T.n_all (dap_cons (PE.toP (PE.toE (df_lc (own := [("word", 6)]) (di_seq (de_var (pv 5))) sc_words_token.nd (blkOk_by (own := [("word", 6)]) (N := N_words_token) (sc := defScope s_words_token) (by decide +kernel)) (fun _ _ _ _ _ => (dg_name (i := 6) sc_words_token.nd rfl (Or.inl rfl))) (fun _ _ _ _ _ => dts_nil) (fun _ _ _ _ _ => (de_and (PE.toP (de_fn (ok_is_word T) (hr.mono (by first | decide | omega)) T.g_is_word (k_is_word T) (b0_is_word T) (fun _ _ _ => .nil) (da_cons (de_var (pv 6)) (da_cons (de_gint T.c_MOST_LONG) da_nil)) ar_is_word)) (de_one (de_ne hr.units (dp_var (pv 6)) (PE.toP (de_str))))))))) dap_nil))))) (dt_or1 (dt_gt (PE.toP (de_len T.n_len (dap_cons (dp_var (pv 5)) dap_nil))) (PE.toP (de_gint T.c_MOST_WORDS)))))) (ds_one (ds_ret (de_non))) ds_nil)
      (ds_cons (ds_if (dt_in (u65 hr) (dp_var (pv 2)) (PE.toP (de_tup (da_cons (de_str) (da_cons (de_str) da_nil))))) (ds_one (ds_ret (de_add (dp_var (pv 1)) (PE.toP (PE.toE (df_lst (da_cons (de_if (dt_eq hr.units (dp_var (pv 2)) (PE.toP (de_str))) (PE.toE (df_makeVS T.mk_Never (ok_Never___init__ T) (hr.mono (by first | decide | omega)) T.g_Never (de_var (pv 5)))) (PE.toE (df_makeVS T.mk_Blocks (ok_Blocks___init__ T) (hr.mono (by first | decide | omega)) T.g_Blocks (de_var (pv 5))))) da_nil))))))) ds_nil)
      (ds_cons (ds_if (PW.pt (dt_or (dt_ne hr.units (dp_var (pv 2)) (PE.toP (de_str))) (dt_or (dt_gt (PE.toP (de_len T.n_len (dap_cons (dp_var (pv 5)) dap_nil))) (PE.toP (de_int))) (dt_or1 (dt_eqN hr.units (dp_var (pv 1)) (PE.toP (PE.toE (df_lst da_nil)))))))) (ds_one (ds_ret (de_non))) ds_nil)
      (ds_one (ds_ret (de_add (PE.toP (de_slice (dp_var (pv 1)) do_none (do_some (PE.toP (de_neg (PE.toP (de_int))))))) (PE.toP (PE.toE (df_lst (da_cons (PE.toE (df_make T.mk_Behind (ok_Behind___init__ T) (hr.mono (by first | decide | omega)) T.g_Behind (b0_Behind___init__ T) (fun _ _ _ => .nil) (da_cons (de_item (dp_var (pv 5)) (PE.toP (de_int))) (da_cons (de_item (dp_var (pv 1)) (PE.toP (de_neg (PE.toP (de_int))))) da_nil)) ar_Behind___init__)) da_nil)))))))))))), fun ds Qd hd h => ?_⟩)
  obtain ⟨tk, st, rfl, h⟩ := h
  simp only [List.map_cons, List.map_nil]
  obtain ⟨⟨hin, hok, hl, hst, hts⟩, h⟩ := h
  obtain ⟨l, m, e0, ep⟩ := prt_in hin
  have hml : l.length + m.length + 1 = tk.length := by rw [e0]; simp; omega
  have hokt := okS.mp hok
  have hwl : wdsL tk = splitL 44 [] m := by unfold wdsL; rw [ep]
  have hsl : (splitL 44 [] m).length ≤ m.length + 1 := split_len
  have hsn : splitL 44 [] m ≠ [] := split_ne
  have hsw : ∀ w ∈ splitL 44 [] m, w.length ≤ m.length ∧ okD (.str w) = true := fun w hw => ⟨by have := split_sub hw; simpa using this, okS.mpr fun c hc => hokt c (by rw [e0]; exact List.mem_append_right _ (List.mem_cons_of_mem _ (split_mem hw hc)))⟩
  have hlo : okD (.str l) = true := okS.mpr fun c hc => hokt c (by rw [e0]; exact List.mem_append_left _ hc)
  unfold tokR at h
  rw [if_pos hin, hwl, ep] at h
  obtain ⟨ws, hws⟩ : ∃ ws, ws = splitL 44 [] m := ⟨_, rfl⟩
  rw [← hws] at hsl hsn hsw h
  refine seq_cut fun R hR => ?_
  walk_at "go"
  rw [ep]
  refine ⟨by show _ ≤ 16777216; omega, ?_⟩
  subst hR
  refine seq_cut fun R hR => ?_
  walk_at "go"
  refine ⟨by decide, by show _ ≤ 16777216; omega, ?_⟩
  rw [← hws]
  subst hR
  refine seq_cut fun R hR => ?_
  walk_at "go"
  refine ⟨by rw [List.length_map]; show _ ≤ 16777216; omega, wpMap_on (fun w => .bl (okWd w)) (fun w hw k q => ?_) ⟨ws.map okWd, bools_map okWd ws, ?_⟩⟩
  · obtain ⟨g1, g2⟩ := hsw w hw
    refine ⟨rfl, by show _ ≤ 16777216; omega, ?_⟩
    by_cases c : isWordD (.str w) 6 = true
    · rw [if_pos c]
      refine ⟨g2, by decide, ?_⟩
      rw [deqv_str]
      simpa only [okWd, c, Bool.true_and] using q
    · rw [if_neg c]
      have c' : isWordD (.str w) 6 = false := by simpa using c
      simpa only [okWd, c', Bool.false_and] using q
  have eall : (ws.map okWd).all id = ws.all okWd := by rw [List.all_map]; rfl
  by_cases hall : ws.all okWd = true
  rotate_left
  · have hall' : ws.all okWd = false := by simpa using hall
    rw [if_pos (by rw [eall, hall']; rfl)]
    rw [if_neg (fun q => hall q.1)] at h
    exact h
  rw [if_neg (by rw [eall, hall]; decide), List.length_map]
  by_cases h4 : ws.length ≤ 4
  rotate_left
  · rw [if_pos (by simp; omega)]
    rw [if_neg (fun q => h4 q.2)] at h
    exact h
  rw [if_neg (by simp; omega)]
  rw [if_pos ⟨hall, h4⟩] at h
  subst hR
  refine seq_cut fun R hR => ?_
  walk_at "go"
  have hall2 : ∀ w ∈ ws, isWordD (.str w) 6 = true ∧ w ≠ [] := fun w hw => by
    have := List.all_eq_true.mp hall w hw
    unfold okWd at this
    rw [Bool.and_eq_true] at this
    exact ⟨this.1, by simpa using this.2⟩
  have hw1 : 1 ≤ ws.length := List.length_pos_iff.mpr hsn
  have hsz : (st.reverse.map (wiD a)).length + 1 ≤ sizeLine := by rw [List.length_map, List.length_reverse]; show _ ≤ 16777216; omega
  refine ⟨by decide, rfl, rfl, ?_⟩
  by_cases hh : l = nvL ∨ l = blL
  · rw [if_pos hh] at h
    rw [if_pos (by rcases hh with rfl | rfl <;> decide)]
    refine ⟨hlo, by decide, ?_⟩
    rw [deqv_str]
    by_cases hn : l = nvL
    · rw [if_pos (decide_eq_true hn)]
      refine ⟨_, .inl rfl, by rw [List.length_map]; show _ ≤ 16777216; omega, ws, rfl, hall2, hw1, h4, by decide, hsz, ?_⟩
      rw [decide_eq_true hn] at h
      simpa [stD] using h
    · rw [if_neg (by simpa using hn)]
      refine ⟨_, .inl rfl, by rw [List.length_map]; show _ ≤ 16777216; omega, ws, rfl, hall2, hw1, h4, by decide, hsz, ?_⟩
      rw [decide_eq_false hn] at h
      simpa [stD] using h
  rw [if_neg hh] at h
  rw [if_neg (by
    rw [List.any_eq_true]
    rintro ⟨z, hz, e⟩
    simp only [List.mem_cons, List.not_mem_nil, or_false] at hz
    rcases hz with rfl | rfl <;> rw [deqv_str, decide_eq_true_iff] at e
    · exact hh (.inl e.symm)
    · exact hh (.inr e.symm))]
  subst hR
  refine seq_cut fun R hR => ?_
  walk_at "go"
  refine ⟨hlo, by decide, ?_⟩
  rw [deqv_str, List.length_map]
  by_cases hb : l = bhL
  rotate_left
  · rw [if_pos (by simpa using hb)]
    rw [if_neg (fun q => hb q.1)] at h
    exact h
  rw [if_neg (by simpa using hb)]
  by_cases h1 : ws.length ≤ 1
  rotate_left
  · rw [if_pos (by simp; omega)]
    rw [if_neg (fun q => h1 q.2)] at h
    exact h
  rw [if_neg (by simp; omega)]
  rw [if_pos ⟨hb, h1⟩] at h
  refine ⟨by decide, ?_⟩
  match st, h, hst, hts, hR with
  | [], h, _, _, _ => rw [if_pos (by rfl)]; exact h
  | t :: r, h, hst, hts, hR =>
    rw [if_neg (by simp)]
    have ht := hts t (by simp)
    match ws, hw1, h1, h, hall2, hR with
    | [w], _, _, h, hall2, hR =>
      subst hR
      simp only [List.reverse_cons, List.map_append, List.map_cons, List.map_nil]
      walk_at "go"
      rw [atE1, cutE1]
      have hw2 := hall2 w (by simp)
      refine ⟨_, rfl, t, rfl, hw2.1, hw2.2, by omega, by decide, by rw [List.length_map, List.length_reverse]; simp only [List.length_cons] at hst; show _ ≤ 16777216; omega, ?_⟩
      simpa [stD] using h
theorem ok_token_read (T : Txt K mg a) : FnOk P w K mg base CX0 7 a.f_token_read a.fd_token_read ["token", "stack"] (spE 2 (tf_token_read a)) := by
  refine ok_E T.F_token_read sc_token_read rfl (fun cdv A outer s H E hr => ⟨_, (ds_cons (ds_if (dt_in (u65 hr) (PE.toP (de_str)) (dp_var (pv 0))) (ds_one (ds_ret (de_fn (ok_words_token T) (hr.mono (by first | decide | omega)) T.g_words_token (k_words_token T) (b0_words_token T) (fun _ _ _ => .nil) (da_cons (de_var (pv 0)) (da_cons (de_var (pv 1)) da_nil)) ar_words_token))) ds_nil)
      (ds_cons (ds_if (dt_in (u65 hr) (dp_var (pv 0)) (PE.toP (de_tup (da_cons (de_str) (da_cons (de_str) da_nil))))) (ds_cons (ds_if (dt_lt (PE.toP (de_len T.n_len (dap_cons (dp_var (pv 1)) dap_nil))) (PE.toP (de_int))) (ds_one (ds_ret (de_non))) ds_nil)
      (ds_cons (ds_asg (de_slice (dp_var (pv 1)) (do_some (PE.toP (de_neg (PE.toP (de_int))))) do_none) (dg_lst (n := 2) (dgs_cons (dg_name (i := 2) sc_token_read.nd rfl (Or.inl rfl)) (dgs_cons (dg_name (i := 3) sc_token_read.nd rfl (Or.inl rfl)) dgs_nil))))
      (ds_one (ds_ret (de_add (PE.toP (de_slice (dp_var (pv 1)) do_none (do_some (PE.toP (de_neg (PE.toP (de_int))))))) (PE.toP (PE.toE (df_lst (da_cons (de_if (dt_eq hr.units (dp_var (pv 0)) (PE.toP (de_str))) (PE.toE (df_make T.mk_Both (ok_Both___init__ T) (hr.mono (by first | decide | omega)) T.g_Both (b0_Both___init__ T) (fun _ _ _ => .nil) (da_cons (de_var (pv 2)) (da_cons (de_var (pv 3)) da_nil)) ar_Both___init__)) (PE.toE (df_make T.mk_Either (ok_Either___init__ T) (hr.mono (by first | decide | omega)) T.g_Either (b0_Either___init__ T) (fun _ _ _ => .nil) (da_cons (de_var (pv 2)) (da_cons (de_var (pv 3)) da_nil)) ar_Either___init__))) da_nil))))))))) ds_nil)
      (ds_one (ds_ret (de_if (dt_val (PE.toP (de_fn (ok_is_name T) (hr.mono (by first | decide | omega)) T.g_is_name (k_is_name T) (b0_is_name T) (fun _ _ _ => .nil) (da_cons (de_var (pv 0)) da_nil) ar_is_name))) (de_add (dp_var (pv 1)) (PE.toP (PE.toE (df_lst (da_cons (PE.toE (df_make T.mk_Named (ok_Named___init__ T) (hr.mono (by first | decide | omega)) T.g_Named (b0_Named___init__ T) (fun _ _ _ => .nil) (da_cons (de_var (pv 0)) da_nil) ar_Named___init__)) da_nil))))) (de_non)))))), fun ds Qd hd h => ?_⟩)
  obtain ⟨tk, st, rfl, h⟩ := h
  simp only [List.map_cons, List.map_nil]
  obtain ⟨⟨hok, hl, hst, hts⟩, h⟩ := h
  walk_at "go"
  by_cases hin : 58 ∈ tk
  · rw [if_pos (by simpa [inStr] using hin)]
    exact ⟨st, rfl, hin, hok, hl, hst, hts, h⟩
  rw [if_neg (by simpa [inStr] using hin)]
  refine ⟨by decide, rfl, rfl, ?_⟩
  unfold tokR at h
  rw [if_neg hin] at h
  by_cases hb : tk = boL ∨ tk = eiL
  · rw [if_pos hb] at h
    rw [if_pos (by rcases hb with rfl | rfl <;> decide)]
    rw [List.length_map, List.length_reverse]
    match st, h, hst, hts with
    | [], h, _, _ => exact h
    | [t], h, _, _ => exact h
    | u :: t :: r, h, hst, hts =>
      rw [if_neg (by simp; omega)]
      simp only [List.reverse_cons, List.map_append, List.map_cons, List.map_nil, List.append_assoc, List.cons_append, List.nil_append]
      rw [cutE3]
      have h1 := hts u (by simp)
      have h2 := hts t (by simp)
      simp only [List.length_cons] at hst
      have hout : ∀ b, decide (tk = boL) = b → Qd (.lst (List.map (wiD a) r.reverse ++ [wiD a (.jn b t u)])) := fun b hb2 => by
        rw [← hb2]
        simpa [stD] using h
      walk_at "go"
      rw [cutE2]
      refine ⟨hok, by decide, ?_⟩
      rw [deqv_str]
      by_cases hbo : tk = boL
      · rw [if_pos (decide_eq_true hbo)]
        exact ⟨t, rfl, u, rfl, by omega, by decide, by rw [List.length_map, List.length_reverse]; show _ ≤ 16777216; omega, hout true (decide_eq_true hbo)⟩
      · rw [if_neg (by simpa using hbo)]
        exact ⟨t, rfl, u, rfl, by omega, by decide, by rw [List.length_map, List.length_reverse]; show _ ≤ 16777216; omega, hout false (decide_eq_false hbo)⟩
  · rw [if_neg hb] at h
    rw [if_neg (by
      rw [List.any_eq_true]
      rintro ⟨z, hz, e⟩
      simp only [List.mem_cons, List.not_mem_nil, or_false] at hz
      rcases hz with rfl | rfl <;> rw [deqv_str, decide_eq_true_iff] at e
      · exact hb (.inl e.symm)
      · exact hb (.inr e.symm))]
    refine ⟨by show _ ≤ 16777216; omega, ?_⟩
    by_cases hn : isNameD (.str tk) = true
    · rw [if_pos hn] at h ⊢
      refine ⟨hn, by decide, by rw [List.length_map, List.length_reverse]; show _ ≤ 16777216; omega, ?_⟩
      simpa [stD] using h
    · rw [if_neg hn] at h ⊢
      exact h
theorem ok_read_wish (T : Txt K mg a) : FnOk P w K mg base CX0 8 a.f_read_wish a.fd_read_wish ["text"] (spE 1 (tf_read_wish a)) := by
  refine ok_E T.F_read_wish sc_read_wish rfl (fun cdv A outer s H E hr => ⟨_, (ds_cons (ds_if (PW.pt (dt_or (dt_not (dt_val (PE.toP (de_isi tab_str T.n_isinstance (dap_cons (dp_var (pv 0)) (dap_cons (PE.toP (de_ty (T := "str") T.n_str (by decide +kernel))) dap_nil)))))) (dt_or1 (dt_eq hr.units (dp_var (pv 0)) (PE.toP (de_str)))))) ds_nevers ds_nil)
      (ds_cons (ds_par (i := 1) (j := 2) sc_read_wish.nd rfl rfl (by decide) rfl rfl (da_cons (PE.toE (df_split (dp_var (pv 0)) (PE.toP (de_str)))) (da_cons (PE.toE (df_lst da_nil)) da_nil)) (by rfl))
      (ds_cons (ds_for (di_enum T.n_enumerate (da_cons (de_var (pv 1)) da_nil)) (dg_tup (n := 2) (dgs_cons (dg_name (i := 3) sc_read_wish.nd rfl (Or.inl rfl)) (dgs_cons (dg_name (i := 4) sc_read_wish.nd rfl (Or.inl rfl)) dgs_nil))) (ds_cons (ds_set (i := 5) sc_read_wish.nd rfl (Or.inl rfl) (de_if (dt_ge (dp_var (pv 3)) (PE.toP (de_gint T.c_MOST_TOKENS))) (de_non) (de_fn (ok_token_read T) (hr.mono (by first | decide | omega)) T.g_token_read (k_token_read T) (b0_token_read T) (fun _ _ _ => .nil) (da_cons (de_var (pv 4)) (da_cons (de_var (pv 2)) da_nil)) ar_token_read)))
      (ds_cons (ds_if (dt_isN (dp_var (pv 5))) ds_nevers ds_nil)
      (ds_one (ds_set (i := 2) sc_read_wish.nd rfl (Or.inl rfl) (de_var (pv 5)))))))
      (ds_cons (ds_if (dt_ne hr.units (PE.toP (de_len T.n_len (dap_cons (dp_var (pv 2)) dap_nil))) (PE.toP (de_int))) ds_nevers ds_nil)
      (ds_one (ds_ret (de_item (dp_var (pv 2)) (PE.toP (de_int))))))))), fun ds Qd hd h => ?_⟩)
  obtain ⟨s, t, rfl, h⟩ := h
  simp only [List.map_cons, List.map_nil]
  obtain ⟨⟨⟨hok, hsl⟩, h0⟩, h⟩ := h
  have hne : s ≠ [] := by rintro rfl; cases h0
  rw [readD_str hne] at h0
  refine seq_cut fun R hR => ?_
  walk_at "go"
  refine ⟨hok, by decide, ?_⟩
  rw [deqv_str, if_neg (by simpa using hne)]
  subst hR
  refine seq_cut fun R hR => ?_
  walk_at "go"
  refine ⟨by decide, by show _ ≤ 16777216; omega, ?_⟩
  have hok2 := okS.mp hok
  have htk : ∀ w ∈ splitL 32 [] s, w.length ≤ 900000 ∧ okD (.str w) = true := fun w hw => ⟨by have := split_sub hw; simp at this; omega, okS.mpr fun c hc => hok2 c (split_mem hw hc)⟩
  generalize splitL 32 [] s = tks at h0 htk
  refine ⟨by decide, ?_⟩
  subst hR
  refine seq_cut fun R hR => ?_
  walk_at "go"
  refine wpFor_inv (fun m S => ∃ st c3 c4 c5, S = [.val (.str s), .val (.lst (tks.map .str)), .val (.lst (st.reverse.map (wiD a))), c3, c4, c5] ∧ goR m (tks.drop m) st = goR 0 tks [] ∧ m ≤ 20 ∧ (st.flatMap tokW).length ≤ m ∧ (∀ t ∈ st, ∀ x ∈ tokW t, x.length ≤ 40) ∧ st.length ≤ m) 0 ⟨[], _, _, _, rfl, rfl, by decide, by decide, (fun _ h => nomatch h), by decide⟩ (fun m d S De' hm hI hnx _ _ _ _ => ?_) (fun S hI => ?_)
  · obtain ⟨st, c3, c4, c5, rfl, hgo, hm20, ht1, ht2, ht3⟩ := hI
    rw [Nat.zero_add] at hgo hm20 ht1 ht3
    rw [Nat.zero_add] at hnx
    rw [enumD_get, List.getElem?_map, Nat.zero_add] at hm
    obtain ⟨_, h3, rfl⟩ := Option.map_eq_some_iff.mp hm
    obtain ⟨tk, h4, rfl⟩ := Option.map_eq_some_iff.mp h3
    have hdr : tks.drop m = tk :: tks.drop (m + 1) := by
      obtain ⟨hl, e⟩ := List.getElem?_eq_some_iff.mp h4
      rw [List.drop_eq_getElem_cons hl, e]
    rw [hdr, goR] at hgo
    obtain ⟨g1, g2⟩ := htk tk (List.mem_of_getElem? h4)
    walk_at "go"
    by_cases h20 : 20 ≤ m
    · rw [if_pos h20] at hgo
      rw [← hgo] at h0
      cases h0
    rw [if_neg h20] at hgo
    rw [if_neg (by simp; omega)]
    refine ⟨st, rfl, g2, by omega, by omega, fun t ht => Nat.le_trans (mem_flat_len (f := tokW) ht) (by omega), ?_⟩
    cases hr : tokR tk st with
    | none =>
      rw [hr] at hgo
      rw [← hgo] at h0
      cases h0
    | some st' =>
      rw [hr] at hgo
      obtain ⟨b1, b2, b3⟩ := tokR_le hr ht2
      refine ⟨rfl, ?_⟩
      rw [if_neg (by intro q; cases q)]
      exact hnx _ ⟨st', _, _, _, rfl, hgo, by omega, by omega, b2, by omega⟩
  · obtain ⟨st, c3, c4, c5, rfl, hgo, hm20, ht1, ht2, ht3⟩ := hI
    rw [Nat.zero_add, enumD_length, List.length_map] at hgo ht1 hm20
    rw [List.drop_length, goR] at hgo
    rw [← hgo] at h0
    show R _
    subst hR
    walk_at "go"
    rw [List.length_map, List.length_reverse]
    refine ⟨rfl, rfl, ?_⟩
    match st, h0, ht1, ht2 with
    | [], h0, _, _ => cases h0
    | [t'], h0, ht1, ht2 =>
      cases h0
      rw [if_neg (by rw [deqv_int]; simp)]
      refine ⟨_, rfl, h ⟨?_, ht2 t (by simp)⟩⟩
      simp at ht1
      omega
    | u :: t' :: r, h0, _, _ => cases h0
theorem ok__law_alphabet (T : Txt K mg a) : FnOk P w K mg base CX0 3 a.f__law_alphabet a.fd__law_alphabet ["_law_bag", "_law_most"] (spE 2 tf__law_alphabet) := by
  refine ok_E T.F__law_alphabet sc__law_alphabet rfl (fun cdv A outer s H E hr => ⟨_, (ds_cons (ds_set (i := 2) sc__law_alphabet.nd rfl (Or.inr rfl) (de_str))
      (ds_cons (ds_set (i := 3) sc__law_alphabet.nd rfl (Or.inl rfl) (de_min2 T.n_min (dap_cons (dp_var (pv 1)) (dap_cons (PE.toP (de_fn (ok__law_any T) (hr.mono (by first | decide | omega)) T.g__law_any (k__law_any T) (b0__law_any T) (fun _ _ _ => .nil) (da_cons (de_var (pv 0)) (da_cons (PE.toE (df_lst (da_cons (de_int) (da_cons (de_int) (da_cons (de_int) (da_cons (de_int) (da_cons (de_int) (da_cons (de_int) da_nil)))))))) da_nil)) ar__law_any)) dap_nil))))
      (ds_cons (ds_set (i := 4) sc__law_alphabet.nd rfl (Or.inl rfl) (de_fn (ok__law_pull T) (hr.mono (by first | decide | omega)) T.g__law_pull (k__law_pull T) (b0__law_pull T) (fun _ _ _ => .nil) (da_cons (de_var (pv 0)) (da_cons (de_int) da_nil)) ar__law_pull))
      (ds_cons (ds_set (i := 5) sc__law_alphabet.nd rfl (Or.inl rfl) (de_add (PE.toP (de_add (dp_var (pv 4)) (PE.toP (de_int)))) (PE.toP (de_fn (ok__law_pull T) (hr.mono (by first | decide | omega)) T.g__law_pull (k__law_pull T) (b0__law_pull T) (fun _ _ _ => .nil) (da_cons (de_var (pv 0)) (da_cons (de_int) da_nil)) ar__law_pull))))
      (ds_one (ds_ret (de_join (PE.toP (de_str)) (PE.toP (PE.toE (df_lc (own := [("_law_at", 6)]) (di_seq (de_slice (PE.toP (PE.toE (df_lst (da_cons (de_var (pv 4)) (da_cons (de_var (pv 5)) (da_cons (de_add (PE.toP (de_add (dp_var (pv 5)) (PE.toP (de_int)))) (PE.toP (de_fn (ok__law_pull T) (hr.mono (by first | decide | omega)) T.g__law_pull (k__law_pull T) (b0__law_pull T) (fun _ _ _ => .nil) (da_cons (de_var (pv 0)) (da_cons (de_int) da_nil)) ar__law_pull))) da_nil)))))) do_none (do_some (dp_var (pv 3))))) sc__law_alphabet.nd (blkOk_by (own := [("_law_at", 6)]) (N := N__law_alphabet) (sc := defScope s__law_alphabet) (by decide +kernel)) (fun _ _ _ _ _ => (dg_name (i := 6) sc__law_alphabet.nd rfl (Or.inl rfl))) (fun _ _ _ _ _ => dts_nil) (fun _ _ _ _ _ => (de_item (dp_var (pv 2)) (dp_var (pv 6)))))))))))))), fun ds Qd hd h => ?_⟩)
  obtain ⟨m, rfl, h⟩ := h
  simp only [List.map_cons, List.map_nil]
  obtain ⟨⟨h1, h2⟩, h⟩ := h
  walk_at "go"
  refine ⟨by decide, by decide, by decide, fun d hd => ?_⟩
  obtain ⟨i, rfl, hi1, hi2⟩ : ∃ i : Int, d = .int i ∧ 1 ≤ i ∧ i ≤ 3 := by
    simp only [List.mem_cons, List.not_mem_nil, or_false] at hd
    rcases hd with rfl | rfl | rfl | rfl | rfl | rfl
    all_goals exact ⟨_, rfl, by decide, by decide⟩
  refine ⟨by decide, by decide, fun n h0 h3 => ⟨by decide, by decide, fun n1 h4 h5 => ⟨by decide, by decide, fun n2 h6 h7 => ⟨by decide, _, rfl, ?_⟩⟩⟩⟩
  have hm : (if i < m then i else m) ≤ m := by split <;> omega
  have hm1 : 1 ≤ (if i < m then i else m) := by split <;> omega
  generalize (if i < m then i else m) = many at hm hm1
  try rw [letters_eq]
  try rw [empty_eq]
  have hL : abcL.length ≤ sizeLine := by decide
  have a1 := atI_abc (n := n) (by omega) (by omega)
  have a2 := atI_abc (n := n + 1 + n1) (by omega) (by omega)
  have a3 := atI_abc (n := n + 1 + n1 + 1 + n2) (by omega) (by omega)
  obtain e | e | e : many = 1 ∨ many = 2 ∨ many = 3 := by omega
  · subst e
    rw [show ∀ a b c : D, cut [a, b, c] none (some 1) = [a] from fun _ _ _ => rfl]
    refine ⟨by show 1 ≤ 16777216; decide, hL, _, a1, _, rfl, by show 1 ≤ 16777216; decide, h _ ?_ (by simpa [joinL] using hm)⟩
    simp [isAlphaD, joinL, lowL_iff]
    omega
  · subst e
    rw [show ∀ a b c : D, cut [a, b, c] none (some 2) = [a, b] from fun _ _ _ => rfl]
    refine ⟨by show 2 ≤ 16777216; decide, hL, _, a1, hL, _, a2, _, rfl, by show 2 ≤ 16777216; decide, h _ ?_ (by simpa [joinL] using hm)⟩
    simp [isAlphaD, joinL, lowL_iff]
    omega
  · subst e
    rw [show ∀ a b c : D, cut [a, b, c] none (some 3) = [a, b, c] from fun _ _ _ => rfl]
    refine ⟨by show 3 ≤ 16777216; decide, hL, _, a1, hL, _, a2, hL, _, a3, _, rfl, by show 3 ≤ 16777216; decide, h _ ?_ (by simpa [joinL] using hm)⟩
    simp [isAlphaD, joinL, lowL_iff]
    omega
theorem ok__law_word (T : Txt K mg a) : FnOk P w K mg base CX0 3 a.f__law_word a.fd__law_word ["_law_bag", "_law_alphabet_here", "_law_low", "_law_high"] (spE 4 tf__law_word) := by
  refine ok_E T.F__law_word sc__law_word rfl (fun cdv A outer s H E hr => ⟨_, (ds_one (ds_ret (de_join (PE.toP (de_str)) (PE.toP (PE.toE (df_lc (own := [("_law_k", 4)]) (di_range1 T.n_range (dap_cons (PE.toP (de_add (dp_var (pv 2)) (PE.toP (de_fn (ok__law_pull T) (hr.mono (by first | decide | omega)) T.g__law_pull (k__law_pull T) (b0__law_pull T) (fun _ _ _ => .nil) (da_cons (de_var (pv 0)) (da_cons (de_add (PE.toP (de_sub (dp_var (pv 3)) (dp_var (pv 2)))) (PE.toP (de_int))) da_nil)) ar__law_pull)))) dap_nil)) sc__law_word.nd (blkOk_by (own := [("_law_k", 4)]) (N := N__law_word) (sc := defScope s__law_word) (by decide +kernel)) (fun _ _ _ _ _ => (dg_name (i := 4) sc__law_word.nd rfl (Or.inl rfl))) (fun _ _ _ _ _ => dts_nil) (fun _ _ _ _ _ => (de_fn (ok__law_any T) (hr.mono (by first | decide | omega)) T.g__law_any (k__law_any T) (b0__law_any T) (fun _ _ _ => .nil) (da_cons (de_var (pv 0)) (da_cons (de_var (pv 1)) da_nil)) ar__law_any)))))))), fun ds Qd hd h => ?_⟩)
  obtain ⟨abc, lo, hi, rfl, h⟩ := h
  simp only [List.map_cons, List.map_nil]
  obtain ⟨⟨h1, h2, h3, h4, h5⟩, h⟩ := h
  walk_at "go"
  refine ⟨by omega, by omega, fun n hn0 hn1 => ⟨by omega, by omega, by show _ ≤ 16777216; rw [List.length_map, List.length_range]; omega, ?_⟩⟩
  refine wpMap_all (fun r => ∃ c ∈ abc, r = .str [c]) (fun d hd k q => ⟨by rw [List.length_map]; exact h1, by rw [List.length_map]; omega, fun d hd => q d ?_⟩) (fun rs hl hr => ?_)
  · obtain ⟨c, hc, rfl⟩ := List.mem_map.mp hd
    exact ⟨c, hc, rfl⟩
  · obtain ⟨cs, rfl, hs⟩ := ones_of hr
    simp only [List.length_map, List.length_range] at hl
    try rw [empty_eq]
    refine ⟨_, strsD_map _, ?_, ?_⟩
    · rw [sum_ones, List.length_map]
      simp
      omega
    · rw [joinL_nil, flat_ones]
      exact h cs hs (by omega) (by omega)
theorem ok__law_words (T : Txt K mg a) : FnOk P w K mg base CX0 4 a.f__law_words a.fd__law_words ["_law_bag", "_law_alphabet_here", "_law_most"] (spE 3 tf__law_words) := by
  refine ok_E T.F__law_words sc__law_words rfl (fun cdv A outer s H E hr => ⟨_, (ds_one (ds_ret (PE.toE (df_lc (own := [("_law_k", 3)]) (di_range1 T.n_range (dap_cons (PE.toP (de_add (PE.toP (de_int)) (PE.toP (de_fn (ok__law_pull T) (hr.mono (by first | decide | omega)) T.g__law_pull (k__law_pull T) (b0__law_pull T) (fun _ _ _ => .nil) (da_cons (de_var (pv 0)) (da_cons (de_int) da_nil)) ar__law_pull)))) dap_nil)) sc__law_words.nd (blkOk_by (own := [("_law_k", 3)]) (N := N__law_words) (sc := defScope s__law_words) (by decide +kernel)) (fun _ _ _ _ _ => (dg_name (i := 3) sc__law_words.nd rfl (Or.inl rfl))) (fun _ _ _ _ _ => dts_nil) (fun _ _ _ _ _ => (de_fn (ok__law_word T) (hr.mono (by first | decide | omega)) T.g__law_word (k__law_word T) (b0__law_word T) (fun _ _ _ => .nil) (da_cons (de_var (pv 0)) (da_cons (de_var (pv 1)) (da_cons (de_int) (da_cons (de_var (pv 2)) da_nil)))) ar__law_word)))))), fun ds Qd hd h => ?_⟩)
  obtain ⟨abc, m, rfl, h⟩ := h
  simp only [List.map_cons, List.map_nil]
  obtain ⟨⟨h1, h2, h3, h4, h5⟩, h⟩ := h
  walk_at "go"
  refine ⟨by decide, by decide, fun n hn0 hn1 => ⟨by omega, by omega, by rw [List.length_map, List.length_range]; show _ ≤ 16777216; omega, ?_⟩⟩
  refine wpMap_all (fun r => ∃ w : List Nat, (okWd w = true ∧ (w.length : Int) ≤ m ∧ ∀ c ∈ w, c ∈ abc) ∧ r = .str w) (fun d _ k q => ⟨h1, h2, by decide, h3, by omega, fun s hs hs1 hs2 => q _ ⟨s, ⟨?_, hs2, hs⟩, rfl⟩⟩) (fun rs hl hr => ?_)
  · unfold okWd isWordD
    rw [Bool.and_eq_true, Bool.and_eq_true, decide_eq_true_iff]
    refine ⟨⟨by omega, List.all_eq_true.mpr fun c hc => h5 c (hs c hc)⟩, ?_⟩
    cases s with
    | nil => simp at hs1
    | cons _ _ => rfl
  · obtain ⟨ws, rfl, hw⟩ := draw_all (f := D.str) hr
    rw [List.length_map, List.length_map, List.length_range] at hl
    exact h ws hw (by omega) (by omega)
local macro_rules | `(tactic| walk_at "go") => `(tactic| simp (maxSteps := 3000000) only [tf__law_draws, tf__law_pull, tf__law_any, tf_is_word, tf_is_name, tf_Wish___init__, tf_Never___init__, tf_Blocks___init__, tf_Behind___init__, tf_Both___init__, tf_Either___init__, tf_Named___init__, tf_Wish_text, tf_words_token, tf_token_read, tf_read_wish, tf__law_alphabet, tf__law_word, tf__law_words, tf__law_leaf, tf__law_tree, tf__law_tokens, tf__law_mixed, tf__law_names, tf_Wish_tokens, tf_Wish_names, tf_Words_needed, tf_Wish_needed, tf_Behind_needed, tf_Wish___and__, tf_Wish___or__, tf_Wish___eq__, tf_Wish___repr__, tf__law_made_words, tf__law_wish, tf__law_letters_of, tf__law_like, tf_law, fn_alphabet_size, fn_alphabet_initial, fn_alphabet_own_moves, fn_size_alphabet, fn_size_initial, fn_size_own_moves, fn_initial_alphabet, fn_initial_size, fn_initial_own_moves, fn_own_moves_alphabet, fn_own_moves_size, fn_own_moves_initial, ati0, ati1, ati2, ati3, dLRg, dIndex, dFnX, dsRaise, dMethX, dMethKF, daCons, daNil, dsAppF, dOwn1, dMakeCp, dFldA, dsFldA, dMethA, dMkV, dMkS, dSSTp, rSSTp, rPartD, rSplitD, dM1, dsSup, dCon, dAlt, rIsiS, dEqA, dNeA, dOpI, dReprA, dsSupA, rEqNil, dgLst, rStartsD, rCountD, wfn_e_words, wfn_e_parts, wfn_e_own_tokens, wfn_e_word, wfn_e_name, wfn_words_e, wfn_words_parts, wfn_words_own_tokens, wfn_words_word, wfn_words_name, wfn_parts_e, wfn_parts_words, wfn_parts_own_tokens, wfn_parts_word, wfn_parts_name, wfn_own_tokens_e, wfn_own_tokens_words, wfn_own_tokens_parts, wfn_own_tokens_word, wfn_own_tokens_name, wfn_word_e, wfn_word_words, wfn_word_parts, wfn_word_own_tokens, wfn_word_name, wfn_name_e, wfn_name_words, wfn_name_parts, wfn_name_own_tokens, wfn_name_word, never_eq, blocks_eq, behind_eq, behindc_eq, both_eq, either_eq, colon_eq, comma_eq, spc_eq, hd_nv, hd_bl, empty_eq, rEqNil, dgLst, name_eq, dsNil, dsSeq, dsDrop, dsRet, dsRetF, dsRetN, dsRetO, dsIf, dsSet, dsOwn, dsFrz, dsPar, dsMul, setK, dkE, dkF, dkNil, rLenSet, rSortD, rMaxD, dFnK, dsAug, augD, dsApp, dsAsg, dsFor, dsBreak, dsCont, dgName, dgTup, dgCons, dgNil, dVar, dPeek, dC, d1, d2, d3, dAnd, dOr, dNot, dTest, dTestB, truD, dtAnd, dtOr, dtNot, dIf, dLst, dTup, dCall, dFn, daCons, daNil, rAddD, rMulD, rMulF, rII, rEqDD, rNeDD, rOrdD, rInDD, rIxD, rSlD, dSl, dSlF, doSome, doNone, rLenD, rIntD, rMM, rAllD, rListD, rTupD, rStrI, rIsiD, rIsiLT, rNegD, dJoin, rJoinD, diSeq, diRng1, diRng2, diEnum, diZip, itemsD, dLc, lcF, dtsNil, dLc2, lcF2, Sl.dat, tyN, isNon, knownD, isIntD, isBoolD, isStrD, isListD, isTupD, isSeqD, List.getElem?_cons_succ, List.getElem?_cons_zero, List.set_cons_succ, List.set_cons_zero, List.cons_append, List.nil_append, List.append_nil, List.replicate_succ, List.replicate_zero, List.length_cons, List.length_nil, Nat.reduceAdd, Nat.reduceSub, Int.reduceToNat, Int.reducePow, wipeS, List.map_cons, List.map_nil, Option.bind_some, Option.some.injEq, D.int.injEq, D.bl.injEq, D.str.injEq, D.lst.injEq, D.tup.injEq, Sl.val.injEq, Sl.own.injEq, List.cons.injEq, and_true, true_and, ex_eq, exists_eq_left, exists_eq_left', exists_eq, exists_eq', and_assoc, exists_and_left, if_true, if_false, ite_true, ite_false, Bool.false_eq_true, Bool.not_true, Bool.not_false, reduceCtorEq, ↓reduceIte, Option.isSome_some, Option.isSome_none, false_and, and_false, exists_false, D.ins.injEq, D.raw.injEq, V.ref.injEq, eq_self, dFld, dsFld, dMeth, dOp2, dRadd, dGet, dEqI, rIsiC, rIsiX, dFmt, dFmtR, dJoined, dJs, dOwn1, rStrO, rLenO, rReprS, rListS, dSS, rSS, dEqX, dNeX, okOther, dsDput, dGetR, dInR, dsFrzL, dLk, diKeys, dDc, dcF, dDc2, dcF2, dsIns, rEqDic, rLenDic, D.dic.injEq, id, getF, putN, putV, permL_cons, permL_nil, Option.toList_some, iteAnd, iteOr, wpFor, wpMap])
theorem ok__law_leaf (T : Txt K mg a) : FnOk P w K mg base CX0 5 a.f__law_leaf a.fd__law_leaf ["_law_bag", "_law_alphabet_here", "_law_most", "_law_names_here"] (spE 4 tf__law_leaf) := by
  refine ok_E T.F__law_leaf sc__law_leaf rfl (fun cdv A outer s H E hr => ⟨_, (ds_cons (ds_set (i := 4) sc__law_leaf.nd rfl (Or.inl rfl) (de_fn (ok__law_pull T) (hr.mono (by first | decide | omega)) T.g__law_pull (k__law_pull T) (b0__law_pull T) (fun _ _ _ => .nil) (da_cons (de_var (pv 0)) (da_cons (de_int) da_nil)) ar__law_pull))
      (ds_cons (ds_if (PW.pt (dt_and (dt_eq hr.units (dp_var (pv 4)) (PE.toP (de_int))) (dt_and1 (dt_ne hr.units (dp_var (pv 3)) (PE.toP (PE.toE (df_lst da_nil))))))) (ds_one (ds_ret (PE.toE (df_lst (da_cons (de_str) (da_cons (de_fn (ok__law_any T) (hr.mono (by first | decide | omega)) T.g__law_any (k__law_any T) (b0__law_any T) (fun _ _ _ => .nil) (da_cons (de_var (pv 0)) (da_cons (de_var (pv 3)) da_nil)) ar__law_any) da_nil)))))) ds_nil)
      (ds_one (ds_ret (PE.toE (df_lst (da_cons (de_if (dt_lt (dp_var (pv 4)) (PE.toP (de_int))) (de_str) (de_str)) (da_cons (de_fn (ok__law_words T) (hr.mono (by first | decide | omega)) T.g__law_words (k__law_words T) (b0__law_words T) (fun _ _ _ => .nil) (da_cons (de_var (pv 0)) (da_cons (de_var (pv 1)) (da_cons (de_var (pv 2)) da_nil))) ar__law_words) da_nil)))))))), fun ds Qd hd h => ?_⟩)
  obtain ⟨abc, m, ns, rfl, h⟩ := h
  simp only [List.map_cons, List.map_nil]
  obtain ⟨⟨⟨h1, h2, h3, h4, h5⟩, h6, h7⟩, h⟩ := h
  have hlf : ∀ b, Qd (.lst [.str (hdW b), .lst []]) → True := fun _ _ => trivial
  have low : ∀ s ∈ ns, okD (.str s) = true := fun s hs => by
    have := h7 s hs
    unfold isNameD at this
    rw [Bool.and_eq_true] at this
    exact isWd_ok this.1
  have hL : okD (.lst (ns.map .str)) = true := by
    unfold okD
    rw [Bool.and_eq_true]
    refine ⟨plainL_iff.mpr fun d hd => ?_, ?_⟩
    · obtain ⟨s, hs, rfl⟩ := List.mem_map.mp hd
      exact okD.plain (low s hs)
    · rw [decide_eq_true_iff]
      have : ∀ l : List (List Nat), depL (l.map D.str) ≤ 1 := fun l => by
        induction l with
        | nil => simp [depL]
        | cons x l ih => simp [depL, dep]; omega
      have := this ns
      simp only [dep]
      omega
  have hws : ∀ b (ws : List (List Nat)), (∀ w ∈ ws, okWd w = true ∧ (w.length : Int) ≤ m ∧ ∀ c ∈ w, c ∈ abc) → 1 ≤ ws.length → ws.length ≤ 4 → Qd (.lst [.str (hdW b), .lst (ws.map .str)]) := fun b ws a1 a2 a3 => h (.lf b ws) ⟨⟨fun w hw => (a1 w hw).1, a2, a3⟩, trivial⟩ rfl rfl
  walk_at "go"
  refine ⟨by decide, by decide, fun n hn0 hn1 => ⟨rfl, rfl, ?_⟩⟩
  have gen : if decide (n < 3) = true then 0 < abc.length ∧ abc.length < 1000 ∧ 1 ≤ m ∧ m ≤ 6 ∧ (∀ c ∈ abc, lowL c = true) ∧ ∀ (ws : List (List Nat)), (∀ w ∈ ws, okWd w = true ∧ (w.length : Int) ≤ m ∧ ∀ c ∈ w, c ∈ abc) → 1 ≤ ws.length → ws.length ≤ 4 → 2 ≤ sizeLine ∧ Qd (.lst [.str nvL, .lst (ws.map .str)])
      else 0 < abc.length ∧ abc.length < 1000 ∧ 1 ≤ m ∧ m ≤ 6 ∧ (∀ c ∈ abc, lowL c = true) ∧ ∀ (ws : List (List Nat)), (∀ w ∈ ws, okWd w = true ∧ (w.length : Int) ≤ m ∧ ∀ c ∈ w, c ∈ abc) → 1 ≤ ws.length → ws.length ≤ 4 → 2 ≤ sizeLine ∧ Qd (.lst [.str blL, .lst (ws.map .str)]) := by
    by_cases hn : n < 3
    · rw [if_pos (decide_eq_true hn)]
      exact ⟨h1, h2, h3, h4, h5, fun ws a1 a2 a3 => ⟨by decide, hws true ws a1 a2 a3⟩⟩
    · rw [if_neg (by simpa using hn)]
      exact ⟨h1, h2, h3, h4, h5, fun ws a1 a2 a3 => ⟨by decide, hws false ws a1 a2 a3⟩⟩
  by_cases hn : deqv (.int n) (.int 0) = true
  · rw [if_pos hn]
    refine ⟨by decide, hL, rfl, ?_⟩
    by_cases he : (!deqv (.lst (ns.map .str)) (.lst [])) = true
    · rw [if_pos he]
      refine ⟨by
        cases ns with
        | nil => exact absurd he (by decide)
        | cons _ _ => simp, by rw [List.length_map]; omega, fun d hd => ?_⟩
      obtain ⟨s, hs, rfl⟩ := List.mem_map.mp hd
      exact ⟨by decide, h (.nm s) ⟨h7 s hs, hs⟩ rfl rfl⟩
    · rw [if_neg he]
      exact gen
  · rw [if_neg hn]
    exact gen
theorem ok__law_tree (T : Txt K mg a) : FnOk P w K mg base CX0 6 a.f__law_tree a.fd__law_tree ["_law_bag", "_law_alphabet_here", "_law_most", "_law_names_here"] (spE 4 tf__law_tree) := by
  refine ok_E T.F__law_tree sc__law_tree rfl (fun cdv A outer s H E hr => ⟨_, (ds_cons (ds_setLc (i := 4) (own := [("_law_k", 6)]) (di_range1 T.n_range (dap_cons (PE.toP (de_add (PE.toP (de_int)) (PE.toP (de_fn (ok__law_pull T) (hr.mono (by first | decide | omega)) T.g__law_pull (k__law_pull T) (b0__law_pull T) (fun _ _ _ => .nil) (da_cons (de_var (pv 0)) (da_cons (de_int) da_nil)) ar__law_pull)))) dap_nil)) sc__law_tree.nd rfl rfl (sw_true rfl rfl rfl (by decide +kernel)) (blkOk_by (own := [("_law_k", 6)]) (N := N__law_tree) (sc := defScope s__law_tree) (by decide +kernel)) (fun _ _ _ _ _ => (dg_name (i := 6) sc__law_tree.nd rfl (Or.inl rfl))) (fun _ _ _ _ _ => dts_nil) (fun _ _ _ _ _ => (de_fn (ok__law_leaf T) (hr.mono (by first | decide | omega)) T.g__law_leaf (k__law_leaf T) (b0__law_leaf T) (fun _ _ _ => .nil) (da_cons (de_var (pv 0)) (da_cons (de_var (pv 1)) (da_cons (de_var (pv 2)) (da_cons (de_var (pv 3)) da_nil)))) ar__law_leaf)))
      (ds_cons (ds_for (di_range1 T.n_range (dap_cons (PE.toP (de_int)) dap_nil)) (dg_name (i := 5) sc__law_tree.nd rfl (Or.inl rfl)) (ds_cons (ds_set (i := 4) sc__law_tree.nd rfl (Or.inl rfl) (de_if (dt_eq hr.units (PE.toP (de_fn (ok__law_pull T) (hr.mono (by first | decide | omega)) T.g__law_pull (k__law_pull T) (b0__law_pull T) (fun _ _ _ => .nil) (da_cons (de_var (pv 0)) (da_cons (de_int) da_nil)) ar__law_pull)) (PE.toP (de_int))) (de_add (PE.toP (de_slice (dp_var (pv 4)) do_none (do_some (PE.toP (de_neg (PE.toP (de_int))))))) (PE.toP (PE.toE (df_lst (da_cons (PE.toE (df_lst (da_cons (de_str) (da_cons (de_fn (ok__law_word T) (hr.mono (by first | decide | omega)) T.g__law_word (k__law_word T) (b0__law_word T) (fun _ _ _ => .nil) (da_cons (de_var (pv 0)) (da_cons (de_var (pv 1)) (da_cons (de_int) (da_cons (de_int) da_nil)))) ar__law_word) (da_cons (de_item (dp_var (pv 4)) (PE.toP (de_neg (PE.toP (de_int))))) da_nil))))) da_nil))))) (de_var (pv 4))))
      (ds_one (ds_if (dt_gt (PE.toP (de_len T.n_len (dap_cons (dp_var (pv 4)) dap_nil))) (PE.toP (de_int))) (ds_one (ds_set (i := 4) sc__law_tree.nd rfl (Or.inl rfl) (de_add (PE.toP (de_slice (dp_var (pv 4)) do_none (do_some (PE.toP (de_neg (PE.toP (de_int))))))) (PE.toP (PE.toE (df_lst (da_cons (PE.toE (df_lst (da_cons (de_fn (ok__law_any T) (hr.mono (by first | decide | omega)) T.g__law_any (k__law_any T) (b0__law_any T) (fun _ _ _ => .nil) (da_cons (de_var (pv 0)) (da_cons (PE.toE (df_lst (da_cons (de_str) (da_cons (de_str) da_nil)))) da_nil)) ar__law_any) (da_cons (de_item (dp_var (pv 4)) (PE.toP (de_neg (PE.toP (de_int))))) (da_cons (de_item (dp_var (pv 4)) (PE.toP (de_neg (PE.toP (de_int))))) da_nil))))) da_nil))))))) ds_nil))))
      (ds_one (ds_ret (de_item (dp_var (pv 4)) (PE.toP (de_int))))))), fun ds Qd hd h => ?_⟩)
  obtain ⟨abc, m, ns, rfl, h⟩ := h
  simp only [List.map_cons, List.map_nil]
  obtain ⟨⟨⟨h1, h2, h3, h4, h5⟩, h6, h7⟩, h⟩ := h
  refine seq_cut fun R hR => ?_
  walk_at "go"
  refine ⟨by decide, by decide, fun n hn0 hn1 => ⟨by omega, by omega, by rw [List.length_map, List.length_range]; show _ ≤ 16777216; omega, ?_⟩⟩
  refine wpMap_all (fun r => ∃ t : Wi, (OkN ns t ∧ dpW t = 0 ∧ szW t = 1) ∧ r = tnD t) (fun d _ k q => ⟨ns, rfl, h1, h2, h3, h4, h5, h6, h7, fun t a b c => q _ ⟨t, ⟨a, b, c⟩, rfl⟩⟩) (fun rs hl hr => ?_)
  obtain ⟨ts, rfl, hts⟩ := draw_all (f := tnD) hr
  rw [List.length_map, List.length_map, List.length_range] at hl
  have hI0 : LineN ns 0 ts := by
    refine ⟨by rintro rfl; simp at hl; omega, fun t ht => ⟨(hts t ht).1, by have := (hts t ht).2.1; omega⟩, ?_, by omega⟩
    have : ∀ l : List Wi, (∀ t ∈ l, szW t = 1) → (l.map szW).sum = l.length := fun l => by
      induction l with
      | nil => simp
      | cons x l ih => intro q; simp [q x (by simp), ih fun t ht => q t (by simp [ht])]; omega
    have := this ts fun t ht => (hts t ht).2.2
    omega
  clear hr hts
  subst hR
  refine seq_cut fun R hR => ?_
  refine for_rng (fun j S => ∃ ts c5 c6, S = [.val .bag, .val (.str abc), .val (.int m), .val (.lst (ns.map .str)), .val (.lst (ts.map tnD)), c5, c6] ∧ LineN ns (2 * j) ts) (by decide) (by decide) ⟨ts, _, _, rfl, hI0⟩ (fun j S De' hj hI hn _ _ _ _ => ?_) (fun S hI => ?_)
  · obtain ⟨ts, c5, c6, rfl, hI⟩ := hI
    obtain ⟨r, t, rfl⟩ := ends1 hI.1
    refine seq_cut fun R2 hR2 => ?_
    walk_at "go"
    have hlen : r.length ≤ 2 := by have := hI.2.2.2; simp at this; omega
    have fin : ∀ ts2, LineN ns (2 * j + 1) ts2 → R2 [.val .bag, .val (.str abc), .val (.int m), .val (.lst (ns.map .str)), .val (.lst (ts2.map tnD)), .val (.int j), c6] := fun ts2 hI2 => by
      subst hR2
      walk_at "go"
      by_cases hl2 : 1 < ts2.length
      · obtain ⟨r2, t2, u2, rfl⟩ := ends2 hl2
        rw [if_pos (by rw [List.length_map]; exact decide_eq_true (by omega))]
        simp only [List.map_append, List.map_cons, List.map_nil]
        rw [atE2, atE3, cutE2]
        have hr2 : r2.length ≤ 3 := by have := hI2.2.2.2; simp at this; omega
        refine ⟨by decide, by decide, by decide, fun d hd => ⟨_, rfl, _, rfl, by decide, by decide, by rw [List.length_map]; show _ ≤ 16777216; omega, ?_⟩⟩
        obtain ⟨b, rfl⟩ : ∃ b, d = .str (jnW b) := by
          simp only [List.mem_cons, List.not_mem_nil, or_false] at hd
          rcases hd with rfl | rfl
          · exact ⟨true, rfl⟩
          · exact ⟨false, rfl⟩
        exact hn _ ⟨r2 ++ [.jn b t2 u2], _, _, by rw [List.map_append]; rfl, (hI2.join (b := b)).le (by omega)⟩
      · rw [if_neg (by rw [List.length_map]; simp; omega)]
        exact hn _ ⟨ts2, _, _, rfl, hI2.le (by omega)⟩
    refine ⟨by decide, by decide, fun n2 _ _ => ⟨rfl, rfl, ?_⟩⟩
    by_cases hz : deqv (.int n2) (.int 0) = true
    · rw [if_pos hz]
      refine ⟨h1, h2, by decide, by decide, by decide, fun s hs hs1 hs2 => ?_⟩
      simp only [List.map_append, List.map_cons, List.map_nil]
      rw [atE1, cutE1]
      refine ⟨_, rfl, by decide, by decide, by rw [List.length_map]; show _ ≤ 16777216; omega, ?_⟩
      have hw : okWd s = true := by
        unfold okWd isWordD
        rw [Bool.and_eq_true, Bool.and_eq_true, decide_eq_true_iff]
        refine ⟨⟨by omega, List.all_eq_true.mpr fun c hc => h5 c (hs c hc)⟩, ?_⟩
        cases s with
        | nil => simp at hs1
        | cons _ _ => rfl
      have := fin _ (hI.behind hw)
      rw [List.map_append] at this
      exact this
    · rw [if_neg hz]
      exact fin _ (hI.le (by omega))
  · obtain ⟨ts, c5, c6, rfl, hI⟩ := hI
    show R _
    subst hR
    walk_at "go"
    match ts, hI with
    | t :: r, hI =>
      refine ⟨_, atZ _ _, h t (hI.2.1 t (by simp)).1 (hI.2.1 t (by simp)).2 ?_⟩
      have := hI.2.2.1
      simp at this
      omega
theorem okT (T : Txt K mg a) : ∀ n, FnOk P w K mg base CX0 (n + 1) a.f__law_tokens a.fd__law_tokens ["_law_tree_here"] (spE 1 (tT n))
  | 0 => ⟨fun vs H Q E h => h.1, fun A outer s H args us vs Q E _ _ _ _ h => by
      obtain ⟨_, _, _, _, _, _, _, ⟨_, _, ⟨_, hd, _⟩, _⟩, _⟩ := h
      exact absurd hd (Nat.not_lt_zero _)⟩
  | n + 1 => by
    have ih := okT T n
    refine ok_E T.F__law_tokens sc__law_tokens rfl (fun cdv A outer s H E hr => ⟨_, (ds_cons (ds_if (dt_eq hr.units (PE.toP (de_item (dp_var (pv 0)) (PE.toP (de_int)))) (PE.toP (de_str))) (ds_one (ds_ret (PE.toE (df_lst (da_cons (de_item (dp_var (pv 0)) (PE.toP (de_int))) da_nil))))) ds_nil)
      (ds_cons (ds_if (dt_in (u65 hr) (PE.toP (de_item (dp_var (pv 0)) (PE.toP (de_int)))) (PE.toP (de_tup (da_cons (de_str) (da_cons (de_str) da_nil))))) (ds_one (ds_ret (PE.toE (df_lst (da_cons (de_add (PE.toP (de_add (PE.toP (de_item (dp_var (pv 0)) (PE.toP (de_int)))) (PE.toP (de_str)))) (PE.toP (de_join (PE.toP (de_str)) (PE.toP (PE.toE (df_sortedSet (u65 hr) T.n_sorted T.n_set (PE.toP (de_item (dp_var (pv 0)) (PE.toP (de_int)))))))))) da_nil))))) ds_nil)
      (ds_cons (ds_if (dt_eq hr.units (PE.toP (de_item (dp_var (pv 0)) (PE.toP (de_int)))) (PE.toP (de_str))) (ds_one (ds_ret (de_add (PE.toP (de_fn ih (hr.mono (by first | decide | omega)) T.g__law_tokens (k__law_tokens T) (b0__law_tokens T) (fun _ _ _ => .nil) (da_cons (de_item (dp_var (pv 0)) (PE.toP (de_int))) da_nil) (ar_tT n))) (PE.toP (PE.toE (df_lst (da_cons (de_add (PE.toP (de_str)) (PE.toP (de_item (dp_var (pv 0)) (PE.toP (de_int))))) da_nil))))))) ds_nil)
      (ds_one (ds_ret (de_add (PE.toP (de_add (PE.toP (de_fn ih (hr.mono (by first | decide | omega)) T.g__law_tokens (k__law_tokens T) (b0__law_tokens T) (fun _ _ _ => .nil) (da_cons (de_item (dp_var (pv 0)) (PE.toP (de_int))) da_nil) (ar_tT n))) (PE.toP (de_fn ih (hr.mono (by first | decide | omega)) T.g__law_tokens (k__law_tokens T) (b0__law_tokens T) (fun _ _ _ => .nil) (da_cons (de_item (dp_var (pv 0)) (PE.toP (de_int))) da_nil) (ar_tT n))))) (PE.toP (PE.toE (df_lst (da_cons (de_item (dp_var (pv 0)) (PE.toP (de_int))) da_nil)))))))))), fun ds Qd hd h => ?_⟩)
    obtain ⟨t, rfl, ⟨h1, h2, h3⟩, h⟩ := h
    simp only [List.map_cons, List.map_nil]
    match t, h1, h2, h3, h, hd with
    | .lf b ws, h1, h2, h3, h, hd =>
      simp only [tnD]
      walk_at "go"
      refine ⟨by cases b <;> rfl, rfl, ?_⟩
      rw [if_neg (by cases b <;> decide)]
      refine ⟨by decide, rfl, rfl, ?_⟩
      rw [if_pos (by cases b <;> decide)]
      have hll := lf_len (b := b) h1.1 h1.2.2
      refine ⟨by cases b <;> decide, by rw [List.length_map]; have := h1.2.2; omega, .inr ⟨ws, strsQ_map ws, fun us hus hm => ?_⟩⟩
      have e := srtW_eq hus hm
      subst e
      have h6 : ∀ x ∈ srtW ws, x.length ≤ 6 := fun x hx => okWd_len (h1.1 x (mem_srtW.mp hx))
      have a1 := sum_le h6
      have a3 := srtW_len ws
      have a4 := h1.2.2
      exact ⟨_, strsD_map _, by omega, by rw [← List.length_append]; show _ ≤ 16777216; omega, by decide, h⟩
    | .bh w t, h1, h2, h3, h, hd =>
      simp only [tnD]
      walk_at "go"
      refine ⟨rfl, rfl, ?_⟩
      rw [if_neg (by decide)]
      refine ⟨by decide, rfl, rfl, ?_⟩
      rw [if_neg (by decide)]
      refine ⟨rfl, rfl, ?_⟩
      rw [if_pos (by decide)]
      simp only [dpW] at h2
      simp only [szW] at h3
      have hw := okWd_len h1.1
      refine ⟨t, rfl, ⟨h1.2, by omega, by omega⟩, ?_⟩
      refine ⟨by show _ ≤ 16777216; omega, by decide, by rw [List.length_map, tok_sz]; show _ ≤ 16777216; simp; omega, ?_⟩
      simpa [nrmW, tokW] using h
    | .jn b t u, h1, h2, h3, h, hd =>
      simp only [tnD]
      walk_at "go"
      refine ⟨by cases b <;> rfl, rfl, ?_⟩
      rw [if_neg (by cases b <;> decide)]
      refine ⟨by decide, rfl, rfl, ?_⟩
      rw [if_neg (by cases b <;> decide)]
      refine ⟨by cases b <;> rfl, rfl, ?_⟩
      rw [if_neg (by cases b <;> decide)]
      simp only [dpW] at h2
      simp only [szW] at h3
      refine ⟨t, rfl, ⟨h1.1, by omega, by omega⟩, u, rfl, ⟨h1.2, by omega, by omega⟩, ?_⟩
      refine ⟨by rw [List.length_map, List.length_map, tok_sz, tok_sz]; show _ ≤ 16777216; omega, by decide, by rw [List.length_append, List.length_map, List.length_map, tok_sz, tok_sz]; show _ ≤ 16777216; simp; omega, ?_⟩
      simpa [nrmW, tokW] using h
    | .nm s, h1, h2, h3, h, hd =>
      simp only [tnD]
      walk_at "go"
      refine ⟨rfl, rfl, ?_⟩
      rw [if_pos (by decide)]
      exact ⟨by decide, h⟩
theorem ok__law_mixed (T : Txt K mg a) : FnOk P w K mg base CX0 2 a.f__law_mixed a.fd__law_mixed ["_law_bag", "_law_rows"] (spF 2 tf__law_mixed) := by
  refine ok_F T.F__law_mixed sc__law_mixed rfl (fun cdv A outer s H E hr => ⟨_, (ds_cons (ds_own (i := 2) sc__law_mixed.nd rfl (Or.inl rfl) (df_lst da_nil))
      (ds_cons (ds_for (di_seq (de_var (pv 1))) (dg_name (i := 3) sc__law_mixed.nd rfl (Or.inl rfl)) (ds_one (ds_ins (pv 2) (da_cons (de_fn (ok__law_pull T) (hr.mono (by first | decide | omega)) T.g__law_pull (k__law_pull T) (b0__law_pull T) (fun _ _ _ => .nil) (da_cons (de_var (pv 0)) (da_cons (de_add (PE.toP (de_len T.n_len (dap_cons (dp_var (pv 2)) dap_nil))) (PE.toP (de_int))) da_nil)) ar__law_pull) (da_cons (de_var (pv 3)) da_nil)))))
      (ds_one (ds_retO (pv 2))))), fun ds Qd hd h => ?_⟩)
  obtain ⟨xs, rfl, h⟩ := h
  simp only [List.map_cons, List.map_nil]
  obtain ⟨hl, h⟩ := h
  refine seq_cut fun R hR => ?_
  walk_at "go"
  refine ⟨by decide, ?_⟩
  subst hR
  refine seq_cut fun R hR => ?_
  walk_at "go"
  refine wpFor_inv (fun j S => ∃ c3 ys, ys.Perm (xs.take j) ∧ S = [.val .bag, .val (.lst xs), .own (.lst ys), c3]) 0 ⟨_, _, by simp, rfl⟩ (fun j d S De' hj hI hnx _ _ _ _ => ?_) (fun S hI => ?_)
  · obtain ⟨c3, ys, p, rfl⟩ := hI
    have hy : ys.length ≤ 100000 := by rw [p.length_eq, List.length_take]; omega
    walk_at "go"
    refine ⟨by omega, by omega, fun n n0 n1 => ⟨by omega, by omega, by show _ < 16777216; omega, hnx _ ⟨_, _, ?_, rfl⟩⟩⟩
    have e0 : 0 + j = j := Nat.zero_add j
    rw [e0] at p ⊢
    exact ins_perm p hj _
  · obtain ⟨c3, ys, p, rfl⟩ := hI
    rw [Nat.zero_add, List.take_length] at p
    show R _
    subst hR
    walk_at "go"
    exact h ys p
theorem ok__law_names (T : Txt K mg a) : FnOk P w K mg base CX0 4 a.f__law_names a.fd__law_names ["_law_bag", "_law_many"] (spE 2 tf__law_names) := by
  refine ok_E T.F__law_names sc__law_names rfl (fun cdv A outer s H E hr => ⟨_, (ds_cons (ds_set (i := 2) sc__law_names.nd rfl (Or.inr rfl) (de_join (PE.toP (de_str)) (PE.toP (PE.toE (df_lc (own := [("_law_k", 6)]) (di_range1 T.n_range (dap_cons (PE.toP (de_fn (ok__law_pull T) (hr.mono (by first | decide | omega)) T.g__law_pull (k__law_pull T) (b0__law_pull T) (fun _ _ _ => .nil) (da_cons (de_var (pv 0)) (da_cons (de_int) da_nil)) ar__law_pull)) dap_nil)) sc__law_names.nd (blkOk_by (own := [("_law_k", 6)]) (N := N__law_names) (sc := defScope s__law_names) (by decide +kernel)) (fun _ _ _ _ _ => (dg_name (i := 6) sc__law_names.nd rfl (Or.inl rfl))) (fun _ _ _ _ _ => dts_nil) (fun _ _ _ _ _ => (de_fn (ok__law_any T) (hr.mono (by first | decide | omega)) T.g__law_any (k__law_any T) (b0__law_any T) (fun _ _ _ => .nil) (da_cons (de_var (pv 0)) (da_cons (de_str) da_nil)) ar__law_any)))))))
      (ds_cons (ds_set (i := 3) sc__law_names.nd rfl (Or.inr rfl) (de_fn (ok__law_pull T) (hr.mono (by first | decide | omega)) T.g__law_pull (k__law_pull T) (b0__law_pull T) (fun _ _ _ => .nil) (da_cons (de_var (pv 0)) (da_cons (de_add (PE.toP (de_len T.n_len (dap_cons (dp_var (pv 2)) dap_nil))) (PE.toP (de_int))) da_nil)) ar__law_pull))
      (ds_cons (ds_set (i := 4) sc__law_names.nd rfl (Or.inl rfl) (PE.toE (df_fn (ok__law_mixed T) (hr.mono (by first | decide | omega)) T.g__law_mixed (k__law_mixed T) (b0__law_mixed T) (fun _ _ _ => .nil) (da_cons (de_var (pv 0)) (da_cons (PE.toE (df_lst (da_cons (de_str) (da_cons (de_str) (da_cons (de_str) (da_cons (de_str) (da_cons (de_str) da_nil))))))) da_nil)) ar__law_mixed)))
      (ds_one (ds_ret (PE.toE (df_lc (own := [("_law_tail", 5)]) (di_seq (de_slice (dp_var (pv 4)) do_none (do_some (dp_var (pv 1))))) sc__law_names.nd (blkOk_by (own := [("_law_tail", 5)]) (N := N__law_names) (sc := defScope s__law_names) (by decide +kernel)) (fun _ _ _ _ _ => (dg_name (i := 5) sc__law_names.nd rfl (Or.inl rfl))) (fun _ _ _ _ _ => dts_nil) (fun _ _ _ _ _ => (de_add (PE.toP (de_add (PE.toP (de_slice (dp_var (pv 2)) do_none (do_some (dp_var (pv 3))))) (dp_var (pv 5)))) (PE.toP (de_slice (dp_var (pv 2)) (do_some (dp_var (pv 3))) do_none))))))))))), fun ds Qd hd h => ?_⟩)
  obtain ⟨k, rfl, h⟩ := h
  simp only [List.map_cons, List.map_nil]
  obtain ⟨⟨h1, h2⟩, h⟩ := h
  walk_at "go"
  refine ⟨by decide, by decide, fun n hn0 hn1 => ⟨by omega, by omega, by rw [List.length_map, List.length_range]; show _ ≤ 16777216; omega, ?_⟩⟩
  refine wpMap_all (fun r => ∃ c : Nat, lowL c = true ∧ r = .str [c]) (fun d _ k q => ⟨by decide +kernel, by decide +kernel, fun d hd => q _ ?_⟩) (fun rs hl hr => ?_)
  · obtain ⟨c, hc, rfl⟩ := List.mem_map.mp hd
    have : ∀ c ∈ (Str.ofString "abcdfghjklmnopq").cps.toList, lowL c = true := by decide +kernel
    exact ⟨c, this c hc, rfl⟩
  obtain ⟨cs, rfl, hc⟩ := draw_all (f := fun c => D.str [c]) hr
  rw [List.length_map, List.length_map, List.length_range] at hl
  refine ⟨cs.map (fun c => [c]), by have := strsD_map (cs.map fun c => [c]); rwa [List.map_map] at this, ?_⟩
  rw [joinL_nil, flat_ones, sum_ones, List.length_map]
  refine ⟨by omega, by show _ ≤ 16777216; omega, by omega, by omega, fun n2 h3 h4 => ⟨by decide, by decide, fun ys hp => ?_⟩⟩
  obtain ⟨p, rfl⟩ : ∃ p : Nat, n2 = p := ⟨n2.toNat, by omega⟩
  obtain ⟨q, rfl⟩ : ∃ q : Nat, k = q := ⟨k.toNat, by omega⟩
  have h5 := hp.length_eq
  simp only [List.length_cons, List.length_nil] at h5
  obtain ⟨tl, rfl, htl⟩ : ∃ tl : List (List Nat), ys = tl.map D.str ∧ ∀ t ∈ tl, t ∈ ([[120], [121], [119], [120, 119], [121, 120]] : List (List Nat)) := draw_all (f := D.str) fun r hr => by
    have hr := hp.mem_iff.mp hr
    simp only [List.mem_cons, List.not_mem_nil, or_false] at hr
    rcases hr with rfl | rfl | rfl | rfl | rfl
    · exact ⟨[120], by simp, congrArg D.str (by decide +kernel)⟩
    · exact ⟨[121], by simp, congrArg D.str (by decide +kernel)⟩
    · exact ⟨[119], by simp, congrArg D.str (by decide +kernel)⟩
    · exact ⟨[120, 119], by simp, congrArg D.str (by decide +kernel)⟩
    · exact ⟨[121, 120], by simp, congrArg D.str (by decide +kernel)⟩
  rw [List.length_map] at h5
  rw [cut_take', ← List.map_take]
  have ht2 : ∀ t ∈ tl, t.length ≤ 2 ∧ 1 ≤ t.length ∧ (∀ c ∈ t, lowL c = true) ∧ ∃ c ∈ t, c = 119 ∨ c = 120 ∨ c = 121 := fun t ht => by
    have := htl t ht
    simp only [List.mem_cons, List.not_mem_nil, or_false] at this
    rcases this with rfl | rfl | rfl | rfl | rfl <;> decide
  refine ⟨by rw [List.length_map, List.length_take]; show _ ≤ 16777216; omega, ?_⟩
  refine wpMap_on (fun t => .str (cs.take p ++ t ++ cs.drop p)) (fun t ht k q => ?_) ?_
  · have ht3 := ht2 t (List.mem_of_mem_take ht)
    walk_at "go"
    rw [cut_take', cutD1 (by omega)]
    have := congrArg List.length (List.take_append_drop p cs)
    rw [List.length_append] at this
    exact ⟨by show _ ≤ 16777216; omega, by show _ ≤ 16777216; omega, by show _ ≤ 16777216; omega, by rw [List.length_append]; show _ ≤ 16777216; omega, q⟩
  · have e : (tl.take q).map (fun t => D.str (cs.take p ++ t ++ cs.drop p)) = ((tl.take q).map fun t => cs.take p ++ t ++ cs.drop p).map D.str := by rw [List.map_map]; rfl
    rw [e]
    refine h _ (by rw [List.length_map, List.length_take]; omega) fun s hs => ?_
    obtain ⟨t, ht, rfl⟩ := List.mem_map.mp hs
    obtain ⟨g1, g2, g3, c, g4, g5⟩ := ht2 t (List.mem_of_mem_take ht)
    have hall : ∀ x ∈ cs.take p ++ t ++ cs.drop p, lowL x = true := fun x hx => by
      rcases List.mem_append.mp hx with hx | hx
      · rcases List.mem_append.mp hx with hx | hx
        · exact hc x (List.mem_of_mem_take hx)
        · exact g3 x hx
      · exact hc x (List.mem_of_mem_drop hx)
    have hlen : (cs.take p ++ t ++ cs.drop p).length = cs.length + t.length := by
      have := congrArg List.length (List.take_append_drop p cs)
      rw [List.length_append] at this
      rw [List.length_append, List.length_append]
      omega
    have hcm : c ∈ cs.take p ++ t ++ cs.drop p := List.mem_append_left _ (List.mem_append_right _ g4)
    generalize cs.take p ++ t ++ cs.drop p = s at hall hlen hcm
    unfold isNameD isWordD
    rw [Bool.and_eq_true, Bool.and_eq_true, decide_eq_true_iff]
    refine ⟨⟨by omega, List.all_eq_true.mpr hall⟩, ?_⟩
    rw [Bool.not_eq_true', decide_eq_false_iff_not]
    intro hm
    simp only [List.mem_cons, List.not_mem_nil, or_false] at hm
    rcases hm with rfl | rfl | rfl
    · cases hcm
    · simp only [List.mem_cons, List.not_mem_nil, or_false] at hcm; omega
    · simp only [List.mem_cons, List.not_mem_nil, or_false] at hcm; omega
theorem ok_Wish_tokens (T : Txt K mg a) : FnOk P w K mg base CX0 1 a.f_Wish_tokens a.fd_Wish_tokens ["self"] (spF 1 (tf_Wish_tokens a)) := by
  refine ok_F T.F_Wish_tokens sc_Wish_tokens rfl (fun cdv A outer s H E hr => ⟨_, (ds_one (ds_retF (df_listc T.n_list (dap_cons (PE.toP (de_fldA (K := K) (dp_var (pv 0)))) dap_nil)))), fun ds Qd hd h => ?_⟩)
  obtain ⟨t, rfl, h⟩ := h
  simp only [List.map_cons, List.map_nil]
  obtain ⟨hl, h⟩ := h
  walk_at "go"
  obtain ⟨C, ns, vs, e, hc, hg⟩ := wiD_ins a t
  refine ⟨C, ns, vs, e, hc.cls T, hc.toks T, _, hg, ?_⟩
  walk_at "go"
  exact h
theorem ok_Wish_names (T : Txt K mg a) : FnOk P w K mg base CX0 3 a.f_Wish_names a.fd_Wish_names ["self"] (spF 1 (tf_Wish_names a)) := by
  refine ok_F T.F_Wish_names sc_Wish_names rfl (fun cdv A outer s H E hr => ⟨_, (ds_one (ds_retF (df_sortedSet (u65 hr) T.n_sorted T.n_set (PE.toP (PE.toE (df_lc (own := [("token", 1)]) (di_seq (de_fldA (K := K) (dp_var (pv 0)))) sc_Wish_names.nd (blkOk_by (own := [("token", 1)]) (N := N_Wish_names) (sc := defScope s_Wish_names) (by decide +kernel)) (fun _ _ _ _ _ => (dg_name (i := 1) sc_Wish_names.nd rfl (Or.inl rfl))) (fun _ _ _ _ _ => (dts_one (dt_val (PE.toP (de_fn (ok_is_name T) (hr.mono (by first | decide | omega)) T.g_is_name (k_is_name T) (b0_is_name T) (fun _ _ _ => .nil) (da_cons (de_var (pv 1)) da_nil) ar_is_name))))) (fun _ _ _ _ _ => (de_var (pv 1))))))))), fun ds Qd hd h => ?_⟩)
  obtain ⟨t, rfl, h⟩ := h
  simp only [List.map_cons, List.map_nil]
  obtain ⟨⟨h1, h2⟩, h⟩ := h
  walk_at "go"
  obtain ⟨C, ns, vs, e, hc, hg⟩ := wiD_ins a t
  refine ⟨C, ns, vs, e, hc.cls T, hc.toks T, _, hg, _, rfl, by rw [List.length_map]; show _ ≤ 16777216; omega, ?_⟩
  refine wpMap_onF (kf := D.str) (fun x => if isNameD (.str x) = true then [D.str x] else []) (fun x hx k q => ⟨rfl, by have := h2 x hx; show _ ≤ 16777216; omega, ?_⟩) ?_
  · by_cases hc : isNameD (.str x) = true
    · rw [if_pos hc] at q ⊢; exact q
    · rw [if_neg hc] at q ⊢; exact q
  have e2 : (tokW t).flatMap (fun x => if isNameD (.str x) = true then [D.str x] else []) = ((tokW t).filter fun x => isNameD (.str x)).map D.str := by
    generalize tokW t = l
    induction l with
    | nil => rfl
    | cons x l ih =>
      rw [List.flatMap_cons, ih, List.filter_cons]
      by_cases hc : isNameD (.str x) = true
      · rw [if_pos hc, if_pos hc]; rfl
      · rw [if_neg hc, if_neg hc]; rfl
  rw [e2]
  refine ⟨by rw [List.length_map]; have := List.length_filter_le (fun x => isNameD (.str x)) (tokW t); omega, .inr ⟨_, strsQ_map _, fun us hus hm => ?_⟩⟩
  rw [srtW_eq hus hm]
  exact h
theorem ok_Words_needed (T : Txt K mg a) : FnOk P w K mg base CX0 1 a.f_Words_needed a.fd_Words_needed ["self"] (spE 1 (tf_Words_needed a)) := by
  refine ok_E T.F_Words_needed sc_Words_needed rfl (fun cdv A outer s H E hr => ⟨_, (ds_one (ds_ret (de_join (PE.toP (de_str)) (PE.toP (PE.toE (df_lc (own := [("letter", 1)]) (di_seq (de_gstr T.c_LETTERS)) sc_Words_needed.nd (blkOk_by (own := [("letter", 1)]) (N := N_Words_needed) (sc := defScope s_Words_needed) (by decide +kernel)) (fun _ _ _ _ _ => (dg_name (i := 1) sc_Words_needed.nd rfl (Or.inl rfl))) (fun _ _ _ _ _ => (dts_one (dt_in (u65 hr) (dp_var (pv 1)) (PE.toP (de_join (PE.toP (de_str)) (PE.toP (de_fldA (K := K) (dp_var (pv 0))))))))) (fun _ _ _ _ _ => (de_var (pv 1))))))))), fun ds Qd hd h => ?_⟩)
  obtain ⟨b, ws, rfl, h⟩ := h
  simp only [List.map_cons, List.map_nil]
  obtain ⟨h1, h⟩ := h
  have h6 : ∀ x ∈ ws, x.length ≤ 6 := fun x hx => okWd_len (h1.1 x hx)
  have a1 := sum_le h6
  have a2 := h1.2.2
  walk_at "go"
  simp only [letters_eq]
  refine walk_flt (y := joinL [] ws) (fun c k q => ?_) ?_
  · refine ⟨_, _, _, rfl, by cases b <;> first | exact T.cl_Never | exact T.cl_Blocks, by cases b <;> first | exact T.no_Never_words | exact T.no_Blocks_words, _, rfl, ?_⟩
    exact ⟨ws, strsD_map ws, by omega, if_in q⟩
  · rw [joinL_nil]
    exact h
theorem need_W (T : Txt K mg a) (n : Nat) (ihW : FnOk P w K mg base CX0 (2 * n + 5) a.f_Wish_needed a.fd_Wish_needed ["self"] (spE 1 (tfWN a n))) (ihB : FnOk P w K mg base CX0 (2 * n + 6) a.f_Behind_needed a.fd_Behind_needed ["self"] (spE 1 (tfBN a n))) : FnOk P w K mg base CX0 (2 * (n + 1) + 5) a.f_Wish_needed a.fd_Wish_needed ["self"] (spE 1 (tfWN a (n + 1))) := by
  refine ok_E T.F_Wish_needed sc_Wish_needed rfl (fun cdv A outer s H E hr => ⟨_, (ds_cons (ds_set (i := 1) sc_Wish_needed.nd rfl (Or.inr rfl) (de_join (PE.toP (de_str)) (PE.toP (PE.toE (df_lc (own := [("part", 2)]) (di_seq (de_fldA (K := K) (dp_var (pv 0)))) sc_Wish_needed.nd (blkOk_by (own := [("part", 2)]) (N := N_Wish_needed) (sc := defScope s_Wish_needed) (by decide +kernel)) (fun _ _ _ _ _ => (dg_name (i := 2) sc_Wish_needed.nd rfl (Or.inl rfl))) (fun _ _ _ _ _ => dts_nil) (fun _ _ _ _ _ => (de_alt (de_methA0 (K := K) (de_var (pv 2)) ihW (hr.mono (by first | decide | omega)) (b0_Wish_needed T) (fun _ _ _ => .nil) (ar_tfWN n)) (de_alt (de_methA0 (K := K) (de_var (pv 2)) (ok_Words_needed T) (hr.mono (by first | decide | omega)) (b0_Words_needed T) (fun _ _ _ => .nil) ar_Words_needed) (de_methA0 (K := K) (de_var (pv 2)) ihB (hr.mono (by first | decide | omega)) (b0_Behind_needed T) (fun _ _ _ => .nil) (ar_tfBN n))))))))))
      (ds_one (ds_ret (de_join (PE.toP (de_str)) (PE.toP (PE.toE (df_lc (own := [("letter", 3)]) (di_seq (de_gstr T.c_LETTERS)) sc_Wish_needed.nd (blkOk_by (own := [("letter", 3)]) (N := N_Wish_needed) (sc := defScope s_Wish_needed) (by decide +kernel)) (fun _ _ _ _ _ => (dg_name (i := 3) sc_Wish_needed.nd rfl (Or.inl rfl))) (fun _ _ _ _ _ => (dts_one (dt_in (u65 hr) (dp_var (pv 3)) (dp_var (pv 1))))) (fun _ _ _ _ _ => (de_var (pv 3)))))))))), fun ds Qd hd h => ?_⟩)
  obtain ⟨t, rfl, ⟨h1, h2⟩, h⟩ := h
  simp only [List.map_cons, List.map_nil]
  walk_at "go"
  simp only [letters_eq]
  obtain ⟨C, ns, vs, e, hc, hg⟩ := wiD_parts a t
  refine ⟨C, ns, vs, e, hc.cls T, hc.parts T, _, hg, _, rfl, by rw [List.length_map]; have := pt_len t; show _ ≤ 16777216; omega, ?_⟩
  refine wpMap_on (kf := wiD a) (fun u => .str (ndL u)) (fun u hu k q => ?_) ?_
  · obtain ⟨o1, o2⟩ := ok_parts h1 hu
    rcases wi_need T u with ⟨b, ws, rfl, C, g1, g2, ns, vs, g3, g4⟩ | ⟨w, v, rfl, C, g1, g2, ns, vs, g3, g4⟩ | ⟨hn, C, g1, g2, ns, vs, g3, g4⟩
    · exact .inr (.inl ⟨C, g1, g2, ns, vs, g3, g4, b, ws, rfl, o1, q⟩)
    · exact .inr (.inr ⟨C, g1, g2, ns, vs, g3, g4, w, v, rfl, ⟨o1, by omega⟩, q⟩)
    · refine .inl ⟨C, g1, g2, ns, vs, g3, g4, u, rfl, ⟨o1, by omega⟩, ?_⟩
      rw [lt_parts u hn.1 hn.2]
      exact q
  · have e2 : (ptW t).map (fun u => D.str (ndL u)) = ((ptW t).map ndL).map D.str := by rw [List.map_map]; rfl
    rw [e2]
    have a1 : ((((ptW t).map ndL).map (·.length)).sum) ≤ ((ptW t).map ndL).length * 26 := sum_le fun x hx => by
      obtain ⟨u, _, rfl⟩ := List.mem_map.mp hx
      exact abcF_len _
    have a2 := pt_len t
    rw [List.length_map] at a1
    refine ⟨_, strsD_map _, by rw [List.length_map]; omega, ?_⟩
    refine walk_flt (y := joinL [] ((ptW t).map ndL)) (fun c k q => if_in q) ?_
    have e3 : abcF (joinL [] ((ptW t).map ndL)) = abcF ((ptW t).flatMap ltW) := abcF_congr fun c hc => by
      rw [joinL_nil]
      constructor
      · intro hx
        obtain ⟨l, hl, hcl⟩ := List.mem_flatten.mp hx
        obtain ⟨u, hu, rfl⟩ := List.mem_map.mp hl
        exact List.mem_flatMap.mpr ⟨u, hu, (mem_abcF.mp hcl).2⟩
      · intro hx
        obtain ⟨u, hu, hcu⟩ := List.mem_flatMap.mp hx
        exact List.mem_flatten.mpr ⟨_, List.mem_map.mpr ⟨u, hu, rfl⟩, mem_abcF.mpr ⟨hc, hcu⟩⟩
    rw [e3]
    exact h
theorem need_B (T : Txt K mg a) (n : Nat) (ihW : FnOk P w K mg base CX0 (2 * n + 5) a.f_Wish_needed a.fd_Wish_needed ["self"] (spE 1 (tfWN a n))) : FnOk P w K mg base CX0 (2 * n + 6) a.f_Behind_needed a.fd_Behind_needed ["self"] (spE 1 (tfBN a n)) := by
  refine ok_SEC T.F_Behind_needed sc_Behind_needed rfl (fun A outer s H E hr => ⟨_, (dq_supAC (i := 1) T.F_Behind_needed sc_Behind_needed (hr.mono (by first | decide | omega)) (fun _ _ _ _ _ => rfl) T.n_super ihW (bnil (b0_Wish_needed T)) sc_Behind_needed.nd rfl (Or.inr rfl) (PE.toP (de_fld (dp_var (pv 0)) T.cl_Behind T.no_Behind_word))
      (dq_cons (ds_ret (de_join (PE.toP (de_str)) (PE.toP (PE.toE (df_lc (own := [("letter", 2)]) (di_seq (de_gstr T.c_LETTERS)) sc_Behind_needed.nd (blkOk_by (own := [("letter", 2)]) (N := N_Behind_needed) (sc := defScope s_Behind_needed) (by decide +kernel)) (fun _ _ _ _ _ => (dg_name (i := 2) sc_Behind_needed.nd rfl (Or.inl rfl))) (fun _ _ _ _ _ => (dts_one (dt_in (u65 hr) (dp_var (pv 2)) (dp_var (pv 1))))) (fun _ _ _ _ _ => (de_var (pv 2))))))))
      (dq_of ds_nil))), fun ds Qd hd h => ?_⟩)
  obtain ⟨w, t, rfl, ⟨h1, h2⟩, h⟩ := h
  simp only [List.map_cons, List.map_nil]
  have hwl := okWd_len h1.1
  walk_at "go"
  simp only [letters_eq]
  refine ⟨_, _, _, rfl, T.st_Behind_needed, .bh w t, rfl, ⟨h1, h2⟩, _, _, rfl, _, rfl, ?_⟩
  refine ⟨by have := abcF_len ((ptW (.bh w t)).flatMap ltW); show _ ≤ 16777216; omega, ?_⟩
  refine walk_flt (y := abcF ((ptW (.bh w t)).flatMap ltW) ++ w) (fun c k q => if_in q) ?_
  have e3 : abcF (abcF ((ptW (.bh w t)).flatMap ltW) ++ w) = ndL (.bh w t) := abcF_congr fun c hc => by
    rw [List.mem_append, mem_abcF]
    simp [ptW, ltW, hc]
  rw [e3]
  exact h
theorem needs (T : Txt K mg a) : ∀ n, FnOk P w K mg base CX0 (2 * n + 5) a.f_Wish_needed a.fd_Wish_needed ["self"] (spE 1 (tfWN a n)) ∧ FnOk P w K mg base CX0 (2 * n + 6) a.f_Behind_needed a.fd_Behind_needed ["self"] (spE 1 (tfBN a n))
  | 0 => by
    have h0 : FnOk P w K mg base CX0 (2 * 0 + 5) a.f_Wish_needed a.fd_Wish_needed ["self"] (spE 1 (tfWN a 0)) := ⟨fun vs H Q E h => h.1, fun A outer s H args us vs Q E _ _ _ _ h => by
      obtain ⟨_, _, _, _, _, _, _, ⟨_, _, ⟨_, hd⟩, _⟩, _⟩ := h
      exact absurd hd (Nat.not_lt_zero _)⟩
    exact ⟨h0, need_B T 0 h0⟩
  | n + 1 => by
    obtain ⟨i1, i2⟩ := needs T n
    have h1 := need_W T n i1 i2
    exact ⟨h1, need_B T (n + 1) h1⟩
theorem ok_Wish_needed (T : Txt K mg a) : FnOk P w K mg base CX0 25 a.f_Wish_needed a.fd_Wish_needed ["self"] (spE 1 (tf_Wish_needed a)) := (needs T 10).1
theorem ok_Behind_needed (T : Txt K mg a) : FnOk P w K mg base CX0 26 a.f_Behind_needed a.fd_Behind_needed ["self"] (spE 1 (tf_Behind_needed a)) := (needs T 10).2
theorem ok_Wish___and__ (T : Txt K mg a) : FnOk P w K mg base CX0 6 a.f_Wish___and__ a.fd_Wish___and__ ["self", "other"] (spE 2 (tf_Wish___and__ a)) := by
  refine ok_E T.F_Wish___and__ sc_Wish___and__ rfl (fun cdv A outer s H E hr => ⟨_, (ds_one (ds_ret (PE.toE (df_make T.mk_Both (ok_Both___init__ T) (hr.mono (by first | decide | omega)) T.g_Both (b0_Both___init__ T) (fun _ _ _ => .nil) (da_cons (de_var (pv 0)) (da_cons (de_var (pv 1)) da_nil)) ar_Both___init__)))), fun ds Qd hd h => ?_⟩)
  obtain ⟨t, u, rfl, h⟩ := h
  simp only [List.map_cons, List.map_nil]
  obtain ⟨h1, h⟩ := h
  walk_at "go"
  exact ⟨t, rfl, u, rfl, h1, h⟩
theorem ok_Wish___or__ (T : Txt K mg a) : FnOk P w K mg base CX0 6 a.f_Wish___or__ a.fd_Wish___or__ ["self", "other"] (spE 2 (tf_Wish___or__ a)) := by
  refine ok_E T.F_Wish___or__ sc_Wish___or__ rfl (fun cdv A outer s H E hr => ⟨_, (ds_one (ds_ret (PE.toE (df_make T.mk_Either (ok_Either___init__ T) (hr.mono (by first | decide | omega)) T.g_Either (b0_Either___init__ T) (fun _ _ _ => .nil) (da_cons (de_var (pv 0)) (da_cons (de_var (pv 1)) da_nil)) ar_Either___init__)))), fun ds Qd hd h => ?_⟩)
  obtain ⟨t, u, rfl, h⟩ := h
  simp only [List.map_cons, List.map_nil]
  obtain ⟨h1, h⟩ := h
  walk_at "go"
  exact ⟨t, rfl, u, rfl, h1, h⟩
theorem ok_Wish___eq__ (T : Txt K mg a) : FnOk P w K mg base CX0 1 a.f_Wish___eq__ a.fd_Wish___eq__ ["self", "other"] (spE 2 (tf_Wish___eq__ a)) := by
  refine ok_E T.F_Wish___eq__ sc_Wish___eq__ rfl (fun cdv A outer s H E hr => ⟨_, (ds_one (ds_ret (de_and (PE.toP (de_isiS (K := K) T.is_Wish T.n_isinstance (dap_cons (dp_var (pv 1)) (dap_cons (PE.toP (de_cls T.g_Wish)) dap_nil)))) (de_one (de_eq hr.units (PE.toP (de_fldA (K := K) (dp_var (pv 0)))) (PE.toP (de_fldA (K := K) (dp_var (pv 1))))))))), fun ds Qd hd h => ?_⟩)
  obtain ⟨t, v, rfl, h⟩ := h
  simp only [List.map_cons, List.map_nil]
  obtain ⟨h1, h⟩ := h
  have okL : ∀ l : List (List Nat), (∀ x ∈ l, okD (.str x) = true) → okD (.lst (l.map .str)) = true := fun l hl => by
    unfold okD
    rw [Bool.and_eq_true]
    refine ⟨plainL_iff.mpr fun d hd => ?_, ?_⟩
    · obtain ⟨s, hs, rfl⟩ := List.mem_map.mp hd
      exact okD.plain (hl s hs)
    · rw [decide_eq_true_iff]
      have : ∀ l : List (List Nat), depL (l.map D.str) ≤ 1 := fun l => by
        induction l with
        | nil => simp [depL]
        | cons x l ih => simp [depL, dep]; omega
      have := this l
      simp only [dep]
      omega
  walk_at "go"
  rcases h with ⟨u, rfl, h2, h⟩ | ⟨h2, h⟩
  · obtain ⟨C, ns, vs, e, hc, hg⟩ := wiD_ins a t
    obtain ⟨C2, ns2, vs2, e2, hc2, hg2⟩ := wiD_ins a u
    rw [e2]
    refine ⟨rfl, hc2.isx T, hc2.kit T, true, rfl, ?_⟩
    rw [if_pos rfl]
    refine ⟨C, ns, vs, e, hc.cls T, hc.toks T, _, hg, C2, ns2, vs2, rfl, hc2.cls T, hc2.toks T, _, hg2, okL _ h1, okL _ h2, ?_⟩
    rw [deqv_strs]
    exact h
  · have key : (tyN v).isSome = true ∧ ∃ k, D.bl false = .bl k ∧ if k = true then False else Qd (.bl false) := ⟨h2, false, rfl, by rw [if_neg (by decide)]; exact h⟩
    cases v <;> first | exact ⟨rfl, rfl, false, rfl, by rw [if_neg (by decide)]; exact h⟩ | cases h2
theorem ok_Wish___repr__ (T : Txt K mg a) : FnOk P w K mg base CX0 1 a.f_Wish___repr__ a.fd_Wish___repr__ ["self"] (spE 1 (tf_Wish___repr__ a)) := by
  refine ok_E T.F_Wish___repr__ sc_Wish___repr__ rfl (fun cdv A outer s H E hr => ⟨_, (ds_one (ds_ret (de_joined (.cons (de_str) (.cons (de_fmt (de_join (PE.toP (de_str)) (PE.toP (de_fldA (K := K) (dp_var (pv 0)))))) (.cons (de_str) .nil)))))), fun ds Qd hd h => ?_⟩)
  obtain ⟨t, rfl, h⟩ := h
  simp only [List.map_cons, List.map_nil]
  obtain ⟨h1, h⟩ := h
  walk_at "go"
  obtain ⟨C, ns, vs, e, hc, hg⟩ := wiD_ins a t
  have a2 := joinL_len [32] (tokW t)
  simp only [List.length_cons, List.length_nil] at a2
  refine ⟨by decide, C, ns, vs, e, hc.cls T, hc.toks T, _, hg, ?_⟩
  walk_at "go"
  have w1 : (Str.ofString "Wish(").cps.toList = [87, 105, 115, 104, 40] := by decide +kernel
  have w2 : (Str.ofString ")").cps.toList = [41] := by decide +kernel
  rw [w1, w2]
  refine ⟨_, strsD_map _, by omega, by show _ ≤ 16777216; omega, by show _ ≤ 16777216; simp only [List.length_cons, List.length_nil]; omega, by show _ ≤ 16777216; simp only [List.length_append, List.length_cons, List.length_nil]; omega, h⟩
theorem ok__law_made_words (T : Txt K mg a) : FnOk P w K mg base CX0 8 a.f__law_made_words a.fd__law_made_words ["_law_tree_here"] (spE 1 (tf__law_made_words a)) := by
  refine ok_E T.F__law_made_words sc__law_made_words rfl (fun cdv A outer s H E hr => ⟨_, (ds_cons (ds_asg (de_slice (PE.toP (de_add (PE.toP (de_item (dp_var (pv 0)) (PE.toP (de_int)))) (PE.toP (de_mul (PE.toP (de_slice (PE.toP (de_item (dp_var (pv 0)) (PE.toP (de_int)))) do_none (do_some (PE.toP (de_int))))) (PE.toP (de_int)))))) do_none (do_some (PE.toP (de_int)))) (dg_lst (n := 4) (dgs_cons (dg_name (i := 1) sc__law_made_words.nd rfl (Or.inl rfl)) (dgs_cons (dg_name (i := 2) sc__law_made_words.nd rfl (Or.inl rfl)) (dgs_cons (dg_name (i := 3) sc__law_made_words.nd rfl (Or.inl rfl)) (dgs_cons (dg_name (i := 4) sc__law_made_words.nd rfl (Or.inl rfl)) dgs_nil))))))
      (ds_cons (ds_if (dt_eq hr.units (PE.toP (de_item (dp_var (pv 0)) (PE.toP (de_int)))) (PE.toP (de_str))) (ds_one (ds_ret (de_item (PE.toP (PE.toE (df_lst (da_cons (PE.toE (df_makeV T.mk_Never (ok_Never___init__ T) (hr.mono (by first | decide | omega)) T.g_Never (da_cons (de_var (pv 1)) da_nil))) (da_cons (PE.toE (df_makeV T.mk_Never (ok_Never___init__ T) (hr.mono (by first | decide | omega)) T.g_Never (da_cons (de_var (pv 1)) (da_cons (de_var (pv 2)) da_nil)))) (da_cons (PE.toE (df_makeV T.mk_Never (ok_Never___init__ T) (hr.mono (by first | decide | omega)) T.g_Never (da_cons (de_var (pv 1)) (da_cons (de_var (pv 2)) (da_cons (de_var (pv 3)) da_nil))))) (da_cons (PE.toE (df_makeV T.mk_Never (ok_Never___init__ T) (hr.mono (by first | decide | omega)) T.g_Never (da_cons (de_var (pv 1)) (da_cons (de_var (pv 2)) (da_cons (de_var (pv 3)) (da_cons (de_var (pv 4)) da_nil)))))) da_nil))))))) (PE.toP (de_sub (PE.toP (de_len T.n_len (dap_cons (PE.toP (de_item (dp_var (pv 0)) (PE.toP (de_int)))) dap_nil))) (PE.toP (de_int))))))) ds_nil)
      (ds_one (ds_ret (de_item (PE.toP (PE.toE (df_lst (da_cons (PE.toE (df_makeV T.mk_Blocks (ok_Blocks___init__ T) (hr.mono (by first | decide | omega)) T.g_Blocks (da_cons (de_var (pv 1)) da_nil))) (da_cons (PE.toE (df_makeV T.mk_Blocks (ok_Blocks___init__ T) (hr.mono (by first | decide | omega)) T.g_Blocks (da_cons (de_var (pv 1)) (da_cons (de_var (pv 2)) da_nil)))) (da_cons (PE.toE (df_makeV T.mk_Blocks (ok_Blocks___init__ T) (hr.mono (by first | decide | omega)) T.g_Blocks (da_cons (de_var (pv 1)) (da_cons (de_var (pv 2)) (da_cons (de_var (pv 3)) da_nil))))) (da_cons (PE.toE (df_makeV T.mk_Blocks (ok_Blocks___init__ T) (hr.mono (by first | decide | omega)) T.g_Blocks (da_cons (de_var (pv 1)) (da_cons (de_var (pv 2)) (da_cons (de_var (pv 3)) (da_cons (de_var (pv 4)) da_nil)))))) da_nil))))))) (PE.toP (de_sub (PE.toP (de_len T.n_len (dap_cons (PE.toP (de_item (dp_var (pv 0)) (PE.toP (de_int)))) dap_nil))) (PE.toP (de_int))))))))), fun ds Qd hd h => ?_⟩)
  obtain ⟨b, ws, rfl, h⟩ := h
  simp only [List.map_cons, List.map_nil]
  obtain ⟨⟨o1, o2, o3⟩, h⟩ := h
  have fit : ∀ w ∈ ws, isWordD (.str w) 6 = true ∧ w ≠ [] := fun w hw => by
    have := o1 w hw
    unfold okWd at this
    rw [Bool.and_eq_true] at this
    exact ⟨this.1, by simpa using this.2⟩
  have hf : ∀ l : List (List Nat), (∀ w ∈ l, w ∈ ws) → ∀ w ∈ l, isWordD (.str w) 6 = true ∧ w ≠ [] := fun l hl w hw => fit w (hl w hw)
  clear fit o1
  simp only [tnD]
  match ws, o2, o3, h, hf with
  | [x], _, _, h, hf =>
    cases b
    · walk_at "go"
      refine ⟨by decide, by decide, by show 1 * 3 ≤ 16777216; decide, by show 1 + 3 ≤ 16777216; decide, rfl, _, _, rfl, _, _, rfl, _, _, rfl, _, _, rfl, rfl, rfl, rfl, ?_⟩
      rw [if_neg (by decide)]
      exact ⟨by decide, [x], rfl, hf _ (by simp), by simp, by simp, by decide, [x, x], rfl, hf _ (by simp), by simp, by simp, by decide, [x, x, x], rfl, hf _ (by simp), by simp, by simp, by decide, [x, x, x, x], rfl, hf _ (by simp), by simp, by simp, by decide, _, rfl, h⟩
    · walk_at "go"
      refine ⟨by decide, by decide, by show 1 * 3 ≤ 16777216; decide, by show 1 + 3 ≤ 16777216; decide, rfl, _, _, rfl, _, _, rfl, _, _, rfl, _, _, rfl, rfl, rfl, rfl, ?_⟩
      rw [if_pos (by decide)]
      exact ⟨by decide, [x], rfl, hf _ (by simp), by simp, by simp, by decide, [x, x], rfl, hf _ (by simp), by simp, by simp, by decide, [x, x, x], rfl, hf _ (by simp), by simp, by simp, by decide, [x, x, x, x], rfl, hf _ (by simp), by simp, by simp, by decide, _, rfl, h⟩
  | [x, y], _, _, h, hf =>
    cases b
    · walk_at "go"
      refine ⟨by decide, by decide, by show 1 * 3 ≤ 16777216; decide, by show 2 + 3 ≤ 16777216; decide, rfl, _, _, rfl, _, _, rfl, _, _, rfl, _, _, rfl, rfl, rfl, rfl, ?_⟩
      rw [if_neg (by decide)]
      exact ⟨by decide, [x], rfl, hf _ (by simp), by simp, by simp, by decide, [x, y], rfl, hf _ (by simp), by simp, by simp, by decide, [x, y, x], rfl, hf _ (by simp), by simp, by simp, by decide, [x, y, x, x], rfl, hf _ (by simp), by simp, by simp, by decide, _, rfl, h⟩
    · walk_at "go"
      refine ⟨by decide, by decide, by show 1 * 3 ≤ 16777216; decide, by show 2 + 3 ≤ 16777216; decide, rfl, _, _, rfl, _, _, rfl, _, _, rfl, _, _, rfl, rfl, rfl, rfl, ?_⟩
      rw [if_pos (by decide)]
      exact ⟨by decide, [x], rfl, hf _ (by simp), by simp, by simp, by decide, [x, y], rfl, hf _ (by simp), by simp, by simp, by decide, [x, y, x], rfl, hf _ (by simp), by simp, by simp, by decide, [x, y, x, x], rfl, hf _ (by simp), by simp, by simp, by decide, _, rfl, h⟩
  | [x, y, z], _, _, h, hf =>
    cases b
    · walk_at "go"
      refine ⟨by decide, by decide, by show 1 * 3 ≤ 16777216; decide, by show 3 + 3 ≤ 16777216; decide, rfl, _, _, rfl, _, _, rfl, _, _, rfl, _, _, rfl, rfl, rfl, rfl, ?_⟩
      rw [if_neg (by decide)]
      exact ⟨by decide, [x], rfl, hf _ (by simp), by simp, by simp, by decide, [x, y], rfl, hf _ (by simp), by simp, by simp, by decide, [x, y, z], rfl, hf _ (by simp), by simp, by simp, by decide, [x, y, z, x], rfl, hf _ (by simp), by simp, by simp, by decide, _, rfl, h⟩
    · walk_at "go"
      refine ⟨by decide, by decide, by show 1 * 3 ≤ 16777216; decide, by show 3 + 3 ≤ 16777216; decide, rfl, _, _, rfl, _, _, rfl, _, _, rfl, _, _, rfl, rfl, rfl, rfl, ?_⟩
      rw [if_pos (by decide)]
      exact ⟨by decide, [x], rfl, hf _ (by simp), by simp, by simp, by decide, [x, y], rfl, hf _ (by simp), by simp, by simp, by decide, [x, y, z], rfl, hf _ (by simp), by simp, by simp, by decide, [x, y, z, x], rfl, hf _ (by simp), by simp, by simp, by decide, _, rfl, h⟩
  | [x, y, z, u], _, _, h, hf =>
    cases b
    · walk_at "go"
      refine ⟨by decide, by decide, by show 1 * 3 ≤ 16777216; decide, by show 4 + 3 ≤ 16777216; decide, rfl, _, _, rfl, _, _, rfl, _, _, rfl, _, _, rfl, rfl, rfl, rfl, ?_⟩
      rw [if_neg (by decide)]
      exact ⟨by decide, [x], rfl, hf _ (by simp), by simp, by simp, by decide, [x, y], rfl, hf _ (by simp), by simp, by simp, by decide, [x, y, z], rfl, hf _ (by simp), by simp, by simp, by decide, [x, y, z, u], rfl, hf _ (by simp), by simp, by simp, by decide, _, rfl, h⟩
    · walk_at "go"
      refine ⟨by decide, by decide, by show 1 * 3 ≤ 16777216; decide, by show 4 + 3 ≤ 16777216; decide, rfl, _, _, rfl, _, _, rfl, _, _, rfl, _, _, rfl, rfl, rfl, rfl, ?_⟩
      rw [if_pos (by decide)]
      exact ⟨by decide, [x], rfl, hf _ (by simp), by simp, by simp, by decide, [x, y], rfl, hf _ (by simp), by simp, by simp, by decide, [x, y, z], rfl, hf _ (by simp), by simp, by simp, by decide, [x, y, z, u], rfl, hf _ (by simp), by simp, by simp, by decide, _, rfl, h⟩
theorem okW (T : Txt K mg a) : ∀ n, FnOk P w K mg base CX0 (n + 12) a.f__law_wish a.fd__law_wish ["_law_bag", "_law_tree_here"] (spE 2 (tWs a n))
  | 0 => ⟨fun vs H Q E h => h.1, fun A outer s H args us vs Q E _ _ _ _ h => by
      obtain ⟨_, _, _, _, _, _, _, ⟨_, _, ⟨_, hd, _⟩, _⟩, _⟩ := h
      exact absurd hd (Nat.not_lt_zero _)⟩
  | n + 1 => by
    have ih := okW T n
    refine ok_E T.F__law_wish sc__law_wish rfl (fun cdv A outer s H E hr => ⟨_, (ds_cons (ds_if (dt_eq hr.units (PE.toP (de_item (dp_var (pv 1)) (PE.toP (de_int)))) (PE.toP (de_str))) (ds_one (ds_ret (PE.toE (df_make T.mk_Named (ok_Named___init__ T) (hr.mono (by first | decide | omega)) T.g_Named (b0_Named___init__ T) (fun _ _ _ => .nil) (da_cons (de_item (dp_var (pv 1)) (PE.toP (de_int))) da_nil) ar_Named___init__)))) ds_nil)
      (ds_cons (ds_if (dt_in (u65 hr) (PE.toP (de_item (dp_var (pv 1)) (PE.toP (de_int)))) (PE.toP (de_tup (da_cons (de_str) (da_cons (de_str) da_nil))))) (ds_one (ds_ret (de_fn (ok__law_made_words T) (hr.mono (by first | decide | omega)) T.g__law_made_words (k__law_made_words T) (b0__law_made_words T) (fun _ _ _ => .nil) (da_cons (de_var (pv 1)) da_nil) ar__law_made_words))) ds_nil)
      (ds_cons (ds_if (dt_eq hr.units (PE.toP (de_item (dp_var (pv 1)) (PE.toP (de_int)))) (PE.toP (de_str))) (ds_one (ds_ret (PE.toE (df_make T.mk_Behind (ok_Behind___init__ T) (hr.mono (by first | decide | omega)) T.g_Behind (b0_Behind___init__ T) (fun _ _ _ => .nil) (da_cons (de_item (dp_var (pv 1)) (PE.toP (de_int))) (da_cons (de_fn ih (hr.mono (by first | decide | omega)) T.g__law_wish (k__law_wish T) (b0__law_wish T) (fun _ _ _ => .nil) (da_cons (de_var (pv 0)) (da_cons (de_item (dp_var (pv 1)) (PE.toP (de_int))) da_nil)) (ar_tWs n)) da_nil)) ar_Behind___init__)))) ds_nil)
      (ds_cons (ds_par (i := 2) (j := 3) sc__law_wish.nd rfl rfl (by decide) rfl rfl (da_cons (de_fn ih (hr.mono (by first | decide | omega)) T.g__law_wish (k__law_wish T) (b0__law_wish T) (fun _ _ _ => .nil) (da_cons (de_var (pv 0)) (da_cons (de_item (dp_var (pv 1)) (PE.toP (de_int))) da_nil)) (ar_tWs n)) (da_cons (de_fn ih (hr.mono (by first | decide | omega)) T.g__law_wish (k__law_wish T) (b0__law_wish T) (fun _ _ _ => .nil) (da_cons (de_var (pv 0)) (da_cons (de_item (dp_var (pv 1)) (PE.toP (de_int))) da_nil)) (ar_tWs n)) da_nil)) (by rfl))
      (ds_cons (ds_if (dt_eq hr.units (PE.toP (de_item (dp_var (pv 1)) (PE.toP (de_int)))) (PE.toP (de_str))) (ds_one (ds_ret (de_if (dt_eq hr.units (PE.toP (de_fn (ok__law_pull T) (hr.mono (by first | decide | omega)) T.g__law_pull (k__law_pull T) (b0__law_pull T) (fun _ _ _ => .nil) (da_cons (de_var (pv 0)) (da_cons (de_int) da_nil)) ar__law_pull)) (PE.toP (de_int))) (PE.toE (df_make T.mk_Both (ok_Both___init__ T) (hr.mono (by first | decide | omega)) T.g_Both (b0_Both___init__ T) (fun _ _ _ => .nil) (da_cons (de_var (pv 2)) (da_cons (de_var (pv 3)) da_nil)) ar_Both___init__)) (de_opI (K := K) (op := .BitAnd) (de_var (pv 2)) (de_var (pv 3)) (ok_Wish___and__ T) (hr.mono (by first | decide | omega)) (b0_Wish___and__ T))))) ds_nil)
      (ds_one (ds_ret (de_if (dt_eq hr.units (PE.toP (de_fn (ok__law_pull T) (hr.mono (by first | decide | omega)) T.g__law_pull (k__law_pull T) (b0__law_pull T) (fun _ _ _ => .nil) (da_cons (de_var (pv 0)) (da_cons (de_int) da_nil)) ar__law_pull)) (PE.toP (de_int))) (PE.toE (df_make T.mk_Either (ok_Either___init__ T) (hr.mono (by first | decide | omega)) T.g_Either (b0_Either___init__ T) (fun _ _ _ => .nil) (da_cons (de_var (pv 2)) (da_cons (de_var (pv 3)) da_nil)) ar_Either___init__)) (de_opI (K := K) (op := .BitOr) (de_var (pv 2)) (de_var (pv 3)) (ok_Wish___or__ T) (hr.mono (by first | decide | omega)) (b0_Wish___or__ T)))))))))), fun ds Qd hd h => ?_⟩)
    obtain ⟨t, rfl, ⟨h1, h2, h3⟩, h⟩ := h
    simp only [List.map_cons, List.map_nil]
    match t, h1, h2, h3, h, hd with
    | .lf b ws, h1, h2, h3, h, hd =>
      simp only [tnD]
      walk_at "go"
      refine ⟨by cases b <;> rfl, rfl, ?_⟩
      rw [if_neg (by cases b <;> decide)]
      refine ⟨by decide, rfl, rfl, ?_⟩
      rw [if_pos (by cases b <;> decide)]
      exact ⟨b, ws, rfl, h1, h⟩
    | .bh w t, h1, h2, h3, h, hd =>
      simp only [tnD]
      walk_at "go"
      refine ⟨rfl, rfl, ?_⟩
      rw [if_neg (by decide)]
      refine ⟨by decide, rfl, rfl, ?_⟩
      rw [if_neg (by decide)]
      refine ⟨rfl, rfl, ?_⟩
      rw [if_pos (by decide)]
      simp only [dpW] at h2
      simp only [szW] at h3
      have hw := okWd_no h1.1
      have hw2 : isWordD (.str w) 6 = true := by
        have := h1.1
        unfold okWd at this
        rw [Bool.and_eq_true] at this
        exact this.1
      exact ⟨t, rfl, ⟨h1.2, by omega, by omega⟩, nrmW t, rfl, hw2, hw.2, by rw [tok_sz]; omega, h⟩
    | .jn b t u, h1, h2, h3, h, hd =>
      simp only [dpW] at h2
      simp only [szW] at h3
      have hl : (tokW (nrmW t)).length + (tokW (nrmW u)).length < 1000000 := by rw [tok_sz, tok_sz]; omega
      simp only [tnD]
      cases b
      · walk_at "go"
        refine ⟨rfl, rfl, ?_⟩
        rw [if_neg (by decide)]
        refine ⟨by decide, rfl, rfl, ?_⟩
        rw [if_neg (by decide)]
        refine ⟨rfl, rfl, ?_⟩
        rw [if_neg (by decide)]
        refine ⟨t, rfl, ⟨h1.1, by omega, by omega⟩, u, rfl, ⟨h1.2, by omega, by omega⟩, rfl, rfl, ?_⟩
        rw [if_neg (by decide)]
        refine ⟨by decide, by decide, fun q _ _ => ⟨rfl, rfl, ?_⟩⟩
        by_cases hq : deqv (.int q) (.int 0) = true
        · rw [if_pos hq]
          exact ⟨_, rfl, _, rfl, hl, h⟩
        · rw [if_neg hq]
          obtain ⟨C, C2, g⟩ := wi_op T (nrmW t) (nrmW u)
          exact ⟨C, g.1, C2, g.2.1, g.2.2.2.2.1, g.2.2.2.2.2, g.2.2.1, _, rfl, _, rfl, hl, h⟩
      · walk_at "go"
        refine ⟨rfl, rfl, ?_⟩
        rw [if_neg (by decide)]
        refine ⟨by decide, rfl, rfl, ?_⟩
        rw [if_neg (by decide)]
        refine ⟨rfl, rfl, ?_⟩
        rw [if_neg (by decide)]
        refine ⟨t, rfl, ⟨h1.1, by omega, by omega⟩, u, rfl, ⟨h1.2, by omega, by omega⟩, rfl, rfl, ?_⟩
        rw [if_pos (by decide)]
        refine ⟨by decide, by decide, fun q _ _ => ⟨rfl, rfl, ?_⟩⟩
        by_cases hq : deqv (.int q) (.int 0) = true
        · rw [if_pos hq]
          exact ⟨_, rfl, _, rfl, hl, h⟩
        · rw [if_neg hq]
          obtain ⟨C, C2, g⟩ := wi_op T (nrmW t) (nrmW u)
          exact ⟨C, g.1, C2, g.2.1, g.2.2.2.1.1, g.2.2.2.1.2, g.2.2.1, _, rfl, _, rfl, hl, h⟩
    | .nm s, h1, h2, h3, h, hd =>
      simp only [tnD]
      walk_at "go"
      refine ⟨rfl, rfl, ?_⟩
      rw [if_pos (by decide)]
      exact ⟨h1, h⟩
theorem ok__law_letters_of (T : Txt K mg a) : FnOk P w K mg base CX0 10 a.f__law_letters_of a.fd__law_letters_of ["_law_tree_here"] (spE 1 tf__law_letters_of) := by
  refine ok_E T.F__law_letters_of sc__law_letters_of rfl (fun cdv A outer s H E hr => ⟨_, (ds_cons (ds_set (i := 1) sc__law_letters_of.nd rfl (Or.inl rfl) (de_join (PE.toP (de_str)) (PE.toP (PE.toE (df_lc (own := [("_law_token", 2)]) (di_seq (de_fn (okT T 5) (hr.mono (by first | decide | omega)) T.g__law_tokens (k__law_tokens T) (b0__law_tokens T) (fun _ _ _ => .nil) (da_cons (de_var (pv 0)) da_nil) (ar_tT 5))) sc__law_letters_of.nd (blkOk_by (own := [("_law_token", 2)]) (N := N__law_letters_of) (sc := defScope s__law_letters_of) (by decide +kernel)) (fun _ _ _ _ _ => (dg_name (i := 2) sc__law_letters_of.nd rfl (Or.inl rfl))) (fun _ _ _ _ _ => (dts_one (dt_in (u65 hr) (PE.toP (de_str)) (dp_var (pv 2))))) (fun _ _ _ _ _ => (de_join (PE.toP (de_str)) (PE.toP (PE.toE (df_split (PE.toP (de_item (PE.toP (PE.toE (df_split (dp_var (pv 2)) (PE.toP (de_str))))) (PE.toP (de_int)))) (PE.toP (de_str))))))))))))
      (ds_one (ds_ret (de_join (PE.toP (de_str)) (PE.toP (PE.toE (df_sortedSet (u65 hr) T.n_sorted T.n_set (PE.toP (PE.toE (df_listS T.n_list (dap_cons (dp_var (pv 1)) dap_nil))))))))))), fun ds Qd hd h => ?_⟩)
  obtain ⟨t, rfl, h⟩ := h
  simp only [List.map_cons, List.map_nil]
  obtain ⟨⟨ho, hd5, hsz⟩, h⟩ := h
  walk_at "go"
  refine ⟨t, rfl, ⟨ho, hd5, by omega⟩, _, rfl, by rw [List.length_map, tok_sz]; show _ ≤ 16777216; omega, ?_⟩
  refine wpMap_onF (kf := D.str) (fun x => if decide (58 ∈ x) = true then [D.str (ltT x)] else []) (fun x hx k q => ?_) ?_
  · have hl40 := tok_len ho x hx
    walk_at "go"
    by_cases hin : 58 ∈ x
    · rw [if_pos (by simpa [inStr] using hin)]
      rw [if_pos (decide_eq_true hin)] at q
      refine ⟨by decide, by show _ ≤ 16777216; omega, ?_⟩
      rcases tok_form ho x hx with g | ⟨b, us, rfl, g1, g2, g3⟩ | ⟨w, rfl, g1⟩
      · exact absurd hin g
      · rw [ltT_lf g1 g2] at q
        have hus := sum_le (n := 6) fun u hu => okWd_len (g1 u hu)
        have hj := joinL_len [44] us
        simp only [List.length_cons, List.length_nil] at hj
        rw [List.append_assoc, List.singleton_append, split_app (hd_no b), split_no (join_n58 g1)]
        refine ⟨.str (joinL [44] us), rfl, _, rfl, by decide, by show _ ≤ 16777216; omega, us, ?_, by omega, ?_⟩
        · rw [split_join g2 (us_no g1 (by decide))]
          exact strsD_map us
        · rw [joinL_nil]
          exact q
      · rw [ltT_bh g1] at q
        have hw := okWd_len g1
        rw [List.append_assoc, List.singleton_append, split_app (by decide), split_no (low_no (okWd_no g1).1 (by decide))]
        refine ⟨.str w, rfl, _, rfl, by decide, by show _ ≤ 16777216; omega, [w], ?_, by simp; omega, q⟩
        rw [split_no (low_no (okWd_no g1).1 (by decide))]
        rfl
    · rw [if_neg (by simpa [inStr] using hin)]
      rw [if_neg (by simpa using hin)] at q
      exact q
  rw [lts_flat]
  have hll := lts_len ho
  refine ⟨_, strsD_map _, by omega, ?_⟩
  rw [joinL_nil]
  have hfl := flat_sum (((tokW (nrmW t)).filter fun x => decide (58 ∈ x)).map ltT)
  have htx : (lts (tokW (nrmW t))).length ≤ szW t * 24 := by unfold lts; omega
  rw [show (((tokW (nrmW t)).filter fun x => decide (58 ∈ x)).map ltT).flatten = lts (tokW (nrmW t)) from rfl]
  have em : (lts (tokW (nrmW t))).map (fun c => D.str [c]) = ((lts (tokW (nrmW t))).map fun c => [c]).map D.str := by rw [List.map_map]; rfl
  rw [em]
  refine ⟨by show _ ≤ 16777216; omega, by rw [List.length_map, List.length_map]; omega, .inr ⟨_, strsQ_map _, fun us hus hm => ?_⟩⟩
  have e := sort_text ho hus hm
  subst e
  refine ⟨_, strsD_map _, ?_, ?_⟩
  · rw [sum_ones, List.length_map]
    have : (ndL t).length ≤ 26 := abcF_len _
    omega
  · rw [joinL_nil, flat_ones]
    exact h
theorem okL (T : Txt K mg a) : ∀ n, FnOk P w K mg base CX0 n a.f__law_like a.fd__law_like ["_law_a", "_law_b"] (spE 2 (tL n))
  | 0 => ⟨fun vs H Q E h => h.1, fun A outer s H args us vs Q E _ _ _ _ h => by
      obtain ⟨_, _, _, _, _, _, _, ⟨_, _, ⟨_, _, hd⟩, _⟩, _⟩ := h
      exact absurd hd (Nat.not_lt_zero _)⟩
  | n + 1 => by
    have ih := okL T n
    refine ok_E T.F__law_like sc__law_like rfl (fun cdv A outer s H E hr => ⟨_, (ds_cons (ds_if (dt_val (PE.toP (de_isiLT T.n_isinstance (dap_cons (dp_var (pv 1)) (dap_cons (PE.toP (de_tup (da_cons (de_ty (T := "list") T.n_list (by decide +kernel)) (da_cons (de_ty (T := "tuple") T.n_tuple (by decide +kernel)) da_nil)))) dap_nil))))) (ds_cons (ds_set (i := 2) sc__law_like.nd rfl (Or.inl rfl) (de_and (PE.toP (de_eq hr.units (PE.toP (de_isi tab_list T.n_isinstance (dap_cons (dp_var (pv 0)) (dap_cons (PE.toP (de_ty (T := "list") T.n_list (by decide +kernel))) dap_nil)))) (PE.toP (de_isi tab_list T.n_isinstance (dap_cons (dp_var (pv 1)) (dap_cons (PE.toP (de_ty (T := "list") T.n_list (by decide +kernel))) dap_nil)))))) (de_one (de_eq hr.units (PE.toP (de_isi tab_tup T.n_isinstance (dap_cons (dp_var (pv 0)) (dap_cons (PE.toP (de_ty (T := "tuple") T.n_tuple (by decide +kernel))) dap_nil)))) (PE.toP (de_isi tab_tup T.n_isinstance (dap_cons (dp_var (pv 1)) (dap_cons (PE.toP (de_ty (T := "tuple") T.n_tuple (by decide +kernel))) dap_nil))))))))
      (ds_one (ds_ret (de_and (dp_var (pv 2)) (de_and (PE.toP (de_eq hr.units (PE.toP (de_len T.n_len (dap_cons (dp_var (pv 0)) dap_nil))) (PE.toP (de_len T.n_len (dap_cons (dp_var (pv 1)) dap_nil))))) (de_one (de_all T.n_all (dap_cons (PE.toP (PE.toE (df_lc (own := [("_law_c", 3), ("_law_d", 4)]) (di_zip T.n_zip (da_cons (de_var (pv 0)) (da_cons (de_var (pv 1)) da_nil))) sc__law_like.nd (blkOk_by (own := [("_law_c", 3), ("_law_d", 4)]) (N := N__law_like) (sc := defScope s__law_like) (by decide +kernel)) (fun _ _ _ _ _ => (dg_tup (n := 2) (dgs_cons (dg_name (i := 3) sc__law_like.nd rfl (Or.inl rfl)) (dgs_cons (dg_name (i := 4) sc__law_like.nd rfl (Or.inl rfl)) dgs_nil)))) (fun _ _ _ _ _ => dts_nil) (fun _ _ _ _ _ => (de_fn ih (hr.mono (by first | decide | omega)) T.g__law_like (k__law_like T) (b0__law_like T) (fun _ _ _ => .nil) (da_cons (de_var (pv 3)) (da_cons (de_var (pv 4)) da_nil)) (ar_tL n)))))) dap_nil)))))))) ds_nil)
      (ds_cons (ds_if (PW.pt (dt_or (dt_isN (dp_var (pv 0))) (dt_or (dt_isN (dp_var (pv 1))) (dt_or1 (dt_ne hr.units (PE.toP (de_isi tab_bool T.n_isinstance (dap_cons (dp_var (pv 0)) (dap_cons (PE.toP (de_ty (T := "bool") T.n_bool (by decide +kernel))) dap_nil)))) (PE.toP (de_isi tab_bool T.n_isinstance (dap_cons (dp_var (pv 1)) (dap_cons (PE.toP (de_ty (T := "bool") T.n_bool (by decide +kernel))) dap_nil))))))))) (ds_one (ds_ret (de_and (PE.toP (de_isN (dp_var (pv 0)))) (de_one (de_isN (dp_var (pv 1))))))) ds_nil)
      (ds_one (ds_ret (de_and (PE.toP (de_eq hr.units (PE.toP (de_isi tab_int T.n_isinstance (dap_cons (dp_var (pv 0)) (dap_cons (PE.toP (de_ty (T := "int") T.n_int (by decide +kernel))) dap_nil)))) (PE.toP (de_isi tab_int T.n_isinstance (dap_cons (dp_var (pv 1)) (dap_cons (PE.toP (de_ty (T := "int") T.n_int (by decide +kernel))) dap_nil)))))) (de_and (PE.toP (de_eq hr.units (PE.toP (de_isi tab_str T.n_isinstance (dap_cons (dp_var (pv 0)) (dap_cons (PE.toP (de_ty (T := "str") T.n_str (by decide +kernel))) dap_nil)))) (PE.toP (de_isi tab_str T.n_isinstance (dap_cons (dp_var (pv 1)) (dap_cons (PE.toP (de_ty (T := "str") T.n_str (by decide +kernel))) dap_nil)))))) (de_one (de_eq hr.units (dp_var (pv 0)) (dp_var (pv 1)))))))))), fun ds Qd hd h => ?_⟩)
    obtain ⟨d, rfl, ⟨h1, h3, h2⟩, h⟩ := h
    have h2s : 2 ≤ sizeLine := by decide
    have hpt : plainD (.bl true) = true := rfl
    have hpf : plainD (.bl false) = true := rfl
    simp only [List.map_cons, List.map_nil]
    have hok : ∀ b : Bool, okD (.bl b) = true := fun b => by cases b <;> rfl
    have hoi : ∀ i : Int, okD (.int i) = true := fun i => rfl
    have htt : deqv (.bl true) (.bl true) = true := rfl
    have hff : deqv (.bl false) (.bl false) = true := rfl
    cases d <;> (try (simp [plainD] at h1; done)) <;> walk_at "go"
    case non => exact ⟨h2s, h⟩
    case bl b => simp [hok, htt, hff, deqv_refl, h, h2s, hpt, hpf, isIntD, isStrD, isBoolD]
    case int i => simp [hok, htt, hff, deqv_refl, h, h2s, hpt, hpf, isIntD, isStrD, isBoolD, hoi]
    case str i => simp [hok, htt, hff, deqv_refl, h, h2s, hpt, hpf, isIntD, isStrD, isBoolD, okD, h1, dep]
    all_goals
      rename_i xs
      simp only [dep] at h2
      simp only [plainD] at h1
      simp only [hok, hoi, htt, hff, deqv_refl, true_and, if_true]
      simp only [smD, Bool.and_eq_true, decide_eq_true_eq] at h3
      refine ⟨h2s, xs, xs, by simp, by rw [zipD_self, List.length_map]; exact h3.1, ?_⟩
      rw [zipD_self]
      refine wpMap_map (fun _ => .bl true) (fun d hd k q => ?_) ⟨List.replicate xs.length true, ?_, ?_⟩
      · obtain ⟨e, he, rfl⟩ := List.mem_map.mp hd
        exact ⟨_, rfl, rfl, _, _, rfl, _, _, rfl, rfl, e, rfl, ⟨plainL_mem h1 he, smL_mem h3.2 he, by have := depL_mem he; omega⟩, q⟩
      · rw [List.map_const', List.length_map]
        exact bools_ones _
      · simpa using h
local macro_rules | `(tactic| walk_at "go") => `(tactic| simp (maxSteps := 3000000) only [tf__law_draws, tf__law_pull, tf__law_any, tf_is_word, tf_is_name, tf_Wish___init__, tf_Never___init__, tf_Blocks___init__, tf_Behind___init__, tf_Both___init__, tf_Either___init__, tf_Named___init__, tf_Wish_text, tf_words_token, tf_token_read, tf_read_wish, tf__law_alphabet, tf__law_word, tf__law_words, tf__law_leaf, tf__law_tree, tf__law_tokens, tf__law_mixed, tf__law_names, tf_Wish_tokens, tf_Wish_names, tf_Words_needed, tf_Wish_needed, tf_Behind_needed, tf_Wish___and__, tf_Wish___or__, tf_Wish___eq__, tf_Wish___repr__, tf__law_made_words, tf__law_wish, tf__law_letters_of, tf__law_like, tf_law, fn_alphabet_size, fn_alphabet_initial, fn_alphabet_own_moves, fn_size_alphabet, fn_size_initial, fn_size_own_moves, fn_initial_alphabet, fn_initial_size, fn_initial_own_moves, fn_own_moves_alphabet, fn_own_moves_size, fn_own_moves_initial, ati0, ati1, ati2, ati3, dLRg, dIndex, dFnX, dsRaise, dMethX, dMethKF, daCons, daNil, dsAppF, dOwn1, dMakeCp, dFldA, dsFldA, dMethA, dMkV, dMkS, dSSTp, rSSTp, rPartD, rSplitD, dM1, dsSup, dCon, dAlt, rIsiS, dEqA, dNeA, dOpI, dReprA, dsSupA, rEqNil, dgLst, rStartsD, rCountD, wfn_e_words, wfn_e_parts, wfn_e_own_tokens, wfn_e_word, wfn_e_name, wfn_words_e, wfn_words_parts, wfn_words_own_tokens, wfn_words_word, wfn_words_name, wfn_parts_e, wfn_parts_words, wfn_parts_own_tokens, wfn_parts_word, wfn_parts_name, wfn_own_tokens_e, wfn_own_tokens_words, wfn_own_tokens_parts, wfn_own_tokens_word, wfn_own_tokens_name, wfn_word_e, wfn_word_words, wfn_word_parts, wfn_word_own_tokens, wfn_word_name, wfn_name_e, wfn_name_words, wfn_name_parts, wfn_name_own_tokens, wfn_name_word, never_eq, blocks_eq, behind_eq, behindc_eq, both_eq, either_eq, colon_eq, comma_eq, spc_eq, hd_nv, hd_bl, empty_eq, rEqNil, dgLst, name_eq, dgLst, rListS, tT, tWs, tL, dsNil, dsSeq, dsDrop, dsRet, dsRetF, dsRetN, dsRetO, dsIf, dsSet, dsOwn, dsFrz, dsPar, dsMul, setK, dkE, dkF, dkNil, rLenSet, rSortD, rMaxD, dFnK, dsAug, augD, dsApp, dsAsg, dsFor, dsBreak, dsCont, dgName, dgTup, dgCons, dgNil, dVar, dPeek, dC, d1, d2, d3, dAnd, dOr, dNot, dTest, dTestB, truD, dtAnd, dtOr, dtNot, dIf, dLst, dTup, dCall, dFn, daCons, daNil, rAddD, rMulD, rMulF, rII, rEqDD, rNeDD, rOrdD, rInDD, rIxD, rSlD, dSl, dSlF, doSome, doNone, rLenD, rIntD, rMM, rAllD, rListD, rTupD, rStrI, rIsiD, rIsiLT, rNegD, dJoin, rJoinD, diSeq, diRng1, diRng2, diEnum, diZip, itemsD, dLc, lcF, dtsNil, dLc2, lcF2, Sl.dat, tyN, isNon, knownD, isIntD, isBoolD, isStrD, isListD, isTupD, isSeqD, List.getElem?_cons_succ, List.getElem?_cons_zero, List.set_cons_succ, List.set_cons_zero, List.cons_append, List.nil_append, List.append_nil, List.replicate_succ, List.replicate_zero, List.length_cons, List.length_nil, Nat.reduceAdd, Nat.reduceSub, Int.reduceToNat, Int.reducePow, wipeS, List.map_cons, List.map_nil, Option.bind_some, Option.some.injEq, D.int.injEq, D.bl.injEq, D.str.injEq, D.lst.injEq, D.tup.injEq, Sl.val.injEq, Sl.own.injEq, List.cons.injEq, and_true, true_and, ex_eq, exists_eq_left, exists_eq_left', exists_eq, exists_eq', and_assoc, exists_and_left, if_true, if_false, ite_true, ite_false, Bool.false_eq_true, Bool.not_true, Bool.not_false, reduceCtorEq, ↓reduceIte, Option.isSome_some, Option.isSome_none, false_and, and_false, exists_false, D.ins.injEq, D.raw.injEq, V.ref.injEq, eq_self, dFld, dsFld, dMeth, dOp2, dRadd, dGet, dEqI, rIsiC, rIsiX, dFmt, dFmtR, dJoined, dJs, dOwn1, rStrO, rLenO, rReprS, rListS, dSS, rSS, dEqX, dNeX, okOther, dsDput, dGetR, dInR, dsFrzL, dLk, diKeys, dDc, dcF, dDc2, dcF2, dsIns, rEqDic, rLenDic, D.dic.injEq, id, getF, putN, putV, permL_cons, permL_nil, Option.toList_some, iteAnd, iteOr, wpFor, wpMap])
theorem law_at (T : Txt K mg a) : FnOk P w K mg base CX0 70 a.f_law a.fd_law ["_law_script"] (spLaw K) := by
  refine T.F_law.ok sc_law (fun vs H Q E h => ?_) (fun cdv A outer s H vs Q E hr h => ?_)
  · obtain ⟨sc, ns, rfl, _⟩ := h
    rfl
  · obtain ⟨sc, ns, rfl, hS, hlen, q⟩ := h
    refine ⟨_, PSs.nox (pss_cons (ps_set (i := 1) sc_law.nd rfl (Or.inr rfl) (pe_call (ok__law_draws T) (hr.mono (by decide)) (by rfl) T.g__law_draws (k__law_draws T) (T.F__law_draws.bindsN (ps := ["_law_script"]) fun _ _ _ _ _ _ us hl => match us, hl with | [_], _ => rfl) .nil pass0 (pa_cons (pv 0) pa_nil)))
      (ds_cons (ds_for (di_range1 T.n_range (dap_cons (PE.toP (de_int)) dap_nil)) (dg_name (i := 2) sc_law.nd rfl (Or.inl rfl)) (ds_cons (ds_set (i := 3) sc_law.nd rfl (Or.inl rfl) (de_fn (ok__law_alphabet T) (hr.mono (by first | decide | omega)) T.g__law_alphabet (k__law_alphabet T) (b0__law_alphabet T) (fun _ _ _ => .nil) (da_cons (de_var (pv 1)) (da_cons (de_int) da_nil)) ar__law_alphabet))
      (ds_cons (ds_set (i := 4) sc_law.nd rfl (Or.inr rfl) (de_fn (ok__law_names T) (hr.mono (by first | decide | omega)) T.g__law_names (k__law_names T) (b0__law_names T) (fun _ _ _ => .nil) (da_cons (de_var (pv 1)) (da_cons (de_int) da_nil)) ar__law_names))
      (ds_cons (ds_set (i := 5) sc_law.nd rfl (Or.inl rfl) (de_fn (ok__law_tree T) (hr.mono (by first | decide | omega)) T.g__law_tree (k__law_tree T) (b0__law_tree T) (fun _ _ _ => .nil) (da_cons (de_var (pv 1)) (da_cons (de_var (pv 3)) (da_cons (de_int) (da_cons (de_var (pv 4)) da_nil)))) ar__law_tree))
      (ds_cons (ds_par (i := 6) (j := 7) sc_law.nd rfl rfl (by decide) rfl rfl (da_cons (de_fn (okW T 5) (hr.mono (by first | decide | omega)) T.g__law_wish (k__law_wish T) (b0__law_wish T) (fun _ _ _ => .nil) (da_cons (de_var (pv 1)) (da_cons (de_var (pv 5)) da_nil)) (ar_tWs 5)) (da_cons (de_fn (okT T 5) (hr.mono (by first | decide | omega)) T.g__law_tokens (k__law_tokens T) (b0__law_tokens T) (fun _ _ _ => .nil) (da_cons (de_var (pv 5)) da_nil) (ar_tT 5)) da_nil)) (by rfl))
      (ds_cons (ds_set (i := 8) sc_law.nd rfl (Or.inl rfl) (de_join (PE.toP (de_str)) (dp_var (pv 7))))
      (ds_cons (ds_set (i := 9) sc_law.nd rfl (Or.inl rfl) (de_fn (ok__law_letters_of T) (hr.mono (by first | decide | omega)) T.g__law_letters_of (k__law_letters_of T) (b0__law_letters_of T) (fun _ _ _ => .nil) (da_cons (de_var (pv 5)) da_nil) ar__law_letters_of))
      (ds_cons (ds_set (i := 10) sc_law.nd rfl (Or.inl rfl) (PE.toE (df_lst (da_cons (de_var (pv 7)) (da_cons (de_var (pv 8)) (da_cons (PE.toE (df_sortedSet (u65 hr) T.n_sorted T.n_set (PE.toP (PE.toE (df_lc (own := [("_law_one", 16)]) (di_seq (de_var (pv 7))) sc_law.nd (blkOk_by (own := [("_law_one", 16)]) (N := N_law) (sc := defScope s_law) (by decide +kernel)) (fun _ _ _ _ _ => (dg_name (i := 16) sc_law.nd rfl (Or.inl rfl))) (fun _ _ _ _ _ => (dts_one (dt_in (u65 hr) (dp_var (pv 16)) (dp_var (pv 4))))) (fun _ _ _ _ _ => (de_var (pv 16)))))))) (da_cons (de_var (pv 9)) (da_cons (de_add (PE.toP (de_add (PE.toP (de_str)) (dp_var (pv 8)))) (PE.toP (de_str))) da_nil))))))))
      (ds_cons (ds_set (i := 11) sc_law.nd rfl (Or.inl rfl) (de_join (PE.toP (de_str)) (PE.toP (PE.toE (df_lc (own := [("_law_one", 16)]) (di_seq (de_var (pv 7))) sc_law.nd (blkOk_by (own := [("_law_one", 16)]) (N := N_law) (sc := defScope s_law) (by decide +kernel)) (fun _ _ _ _ _ => (dg_name (i := 16) sc_law.nd rfl (Or.inl rfl))) (fun _ _ _ _ _ => dts_nil) (fun _ _ _ _ _ => (de_if (PW.pt (dt_and (dt_in (u65 hr) (PE.toP (de_str)) (dp_var (pv 16))) (dt_and (dt_not (dt_val (PE.toP (de_starts (dp_var (pv 16)) (PE.toP (de_str)))))) (dt_and1 (dt_lt (PE.toP (de_count (dp_var (pv 16)) (PE.toP (de_str)))) (PE.toP (de_int))))))) (de_add (PE.toP (de_add (PE.toP (de_item (PE.toP (PE.toE (df_split (dp_var (pv 16)) (PE.toP (de_str))))) (PE.toP (de_int)))) (PE.toP (de_str)))) (PE.toP (de_join (PE.toP (de_str)) (PE.toP (de_slice (PE.toP (PE.toE (df_fn (ok__law_mixed T) (hr.mono (by first | decide | omega)) T.g__law_mixed (k__law_mixed T) (b0__law_mixed T) (fun _ _ _ => .nil) (da_cons (de_var (pv 1)) (da_cons (de_add (PE.toP (PE.toE (df_split (PE.toP (de_item (PE.toP (PE.toE (df_split (dp_var (pv 16)) (PE.toP (de_str))))) (PE.toP (de_int)))) (PE.toP (de_str))))) (PE.toP (de_slice (PE.toP (PE.toE (df_split (PE.toP (de_item (PE.toP (PE.toE (df_split (dp_var (pv 16)) (PE.toP (de_str))))) (PE.toP (de_int)))) (PE.toP (de_str))))) do_none (do_some (PE.toP (de_int)))))) da_nil)) ar__law_mixed))) do_none (do_some (PE.toP (de_int)))))))) (de_var (pv 16)))))))))
      (ds_cons (ds_for (di_seq (PE.toE (df_lst (da_cons (de_var (pv 6)) (da_cons (de_fn (ok_read_wish T) (hr.mono (by first | decide | omega)) T.g_read_wish (k_read_wish T) (b0_read_wish T) (fun _ _ _ => .nil) (da_cons (de_var (pv 8)) da_nil) ar_read_wish) (da_cons (de_fn (ok_read_wish T) (hr.mono (by first | decide | omega)) T.g_read_wish (k_read_wish T) (b0_read_wish T) (fun _ _ _ => .nil) (da_cons (de_var (pv 11)) da_nil) ar_read_wish) (da_cons (de_fnK0 (ok_read_wish T) (hr.mono (by first | decide | omega)) T.g_read_wish (k_read_wish T) (kb0_read_wish T) (dw_cons (de_methA0 (K := K) (de_var (pv 6)) (ok_Wish_text T) (hr.mono (by first | decide | omega)) (b0_Wish_text T) (fun _ _ _ => .nil) ar_Wish_text) dw_nil) ar_read_wish) da_nil))))))) (dg_name (i := 12) sc_law.nd rfl (Or.inl rfl)) (ds_cons (ds_if (dt_not (dt_val (PE.toP (de_fn (okL T 20) (hr.mono (by first | decide | omega)) T.g__law_like (k__law_like T) (b0__law_like T) (fun _ _ _ => .nil) (da_cons (PE.toE (df_lst (da_cons (PE.toE (df_methA0 (K := K) (de_var (pv 12)) (ok_Wish_tokens T) (hr.mono (by first | decide | omega)) (b0_Wish_tokens T) (fun _ _ _ => .nil) ar_Wish_tokens)) (da_cons (de_methA0 (K := K) (de_var (pv 12)) (ok_Wish_text T) (hr.mono (by first | decide | omega)) (b0_Wish_text T) (fun _ _ _ => .nil) ar_Wish_text) (da_cons (PE.toE (df_methA0 (K := K) (de_var (pv 12)) (ok_Wish_names T) (hr.mono (by first | decide | omega)) (b0_Wish_names T) (fun _ _ _ => .nil) ar_Wish_names)) (da_cons (de_alt (de_methA0 (K := K) (de_var (pv 12)) (ok_Wish_needed T) (hr.mono (by first | decide | omega)) (b0_Wish_needed T) (fun _ _ _ => .nil) ar_Wish_needed) (de_alt (de_methA0 (K := K) (de_var (pv 12)) (ok_Words_needed T) (hr.mono (by first | decide | omega)) (b0_Words_needed T) (fun _ _ _ => .nil) ar_Words_needed) (de_methA0 (K := K) (de_var (pv 12)) (ok_Behind_needed T) (hr.mono (by first | decide | omega)) (b0_Behind_needed T) (fun _ _ _ => .nil) ar_Behind_needed))) (da_cons (de_reprA (K := K) (de_var (pv 12)) (ok_Wish___repr__ T) (hr.mono (by first | decide | omega)) (b0_Wish___repr__ T) T.n_repr) da_nil))))))) (da_cons (de_var (pv 10)) da_nil)) (ar_tL 20))))) (ds_one (ds_ret (de_bl))) ds_nil)
      (ds_cons (ds_appF (df_methA0 (K := K) (de_var (pv 12)) (ok_Wish_tokens T) (hr.mono (by first | decide | omega)) (b0_Wish_tokens T) (fun _ _ _ => .nil) ar_Wish_tokens) (de_str))
      (ds_cons (ds_appF (df_methA0 (K := K) (de_var (pv 12)) (ok_Wish_names T) (hr.mono (by first | decide | omega)) (b0_Wish_names T) (fun _ _ _ => .nil) ar_Wish_names) (de_str))
      (ds_one (ds_if (PW.pt (dt_or (dt_not (dt_eqA (K := K) (de_var (pv 12)) (de_var (pv 6)) (ok_Wish___eq__ T) (hr.mono (by first | decide | omega)) (b0_Wish___eq__ T))) (dt_or1 (dt_neA (K := K) (de_var (pv 12)) (de_var (pv 6)) (ok_Wish___eq__ T) (hr.mono (by first | decide | omega)) (b0_Wish___eq__ T))))) (ds_one (ds_ret (de_bl))) ds_nil))))))
      (ds_cons (ds_set (i := 13) sc_law.nd rfl (Or.inl rfl) (de_fn (ok__law_tree T) (hr.mono (by first | decide | omega)) T.g__law_tree (k__law_tree T) (b0__law_tree T) (fun _ _ _ => .nil) (da_cons (de_var (pv 1)) (da_cons (de_var (pv 3)) (da_cons (de_int) (da_cons (de_var (pv 4)) da_nil)))) ar__law_tree))
      (ds_cons (ds_if (dt_not (dt_val (PE.toP (de_fn (okL T 20) (hr.mono (by first | decide | omega)) T.g__law_like (k__law_like T) (b0__law_like T) (fun _ _ _ => .nil) (da_cons (PE.toE (df_lst (da_cons (de_eqA (K := K) (de_var (pv 6)) (de_fn (okW T 5) (hr.mono (by first | decide | omega)) T.g__law_wish (k__law_wish T) (b0__law_wish T) (fun _ _ _ => .nil) (da_cons (de_var (pv 1)) (da_cons (de_var (pv 13)) da_nil)) (ar_tWs 5)) (ok_Wish___eq__ T) (hr.mono (by first | decide | omega)) (b0_Wish___eq__ T)) (da_cons (de_eqA (K := K) (de_var (pv 6)) (de_var (pv 8)) (ok_Wish___eq__ T) (hr.mono (by first | decide | omega)) (b0_Wish___eq__ T)) (da_cons (de_eqA (K := K) (de_var (pv 6)) (de_non) (ok_Wish___eq__ T) (hr.mono (by first | decide | omega)) (b0_Wish___eq__ T)) da_nil))))) (da_cons (PE.toE (df_lst (da_cons (de_eq hr.units (dp_var (pv 7)) (PE.toP (de_fn (okT T 5) (hr.mono (by first | decide | omega)) T.g__law_tokens (k__law_tokens T) (b0__law_tokens T) (fun _ _ _ => .nil) (da_cons (de_var (pv 13)) da_nil) (ar_tT 5)))) (da_cons (de_bl) (da_cons (de_bl) da_nil))))) da_nil)) (ar_tL 20))))) (ds_one (ds_ret (de_bl))) ds_nil)
      (ds_cons (ds_par (i := 14) (j := 15) sc_law.nd rfl rfl (by decide) rfl rfl (da_cons (de_opI (K := K) (op := .BitAnd) (de_var (pv 6)) (de_fn (ok_read_wish T) (hr.mono (by first | decide | omega)) T.g_read_wish (k_read_wish T) (b0_read_wish T) (fun _ _ _ => .nil) (da_cons (de_join (PE.toP (de_str)) (PE.toP (de_fn (okT T 5) (hr.mono (by first | decide | omega)) T.g__law_tokens (k__law_tokens T) (b0__law_tokens T) (fun _ _ _ => .nil) (da_cons (de_var (pv 13)) da_nil) (ar_tT 5)))) da_nil) ar_read_wish) (ok_Wish___and__ T) (hr.mono (by first | decide | omega)) (b0_Wish___and__ T)) (da_cons (de_opI (K := K) (op := .BitOr) (de_var (pv 6)) (de_fn (ok_read_wish T) (hr.mono (by first | decide | omega)) T.g_read_wish (k_read_wish T) (b0_read_wish T) (fun _ _ _ => .nil) (da_cons (de_join (PE.toP (de_str)) (PE.toP (de_fn (okT T 5) (hr.mono (by first | decide | omega)) T.g__law_tokens (k__law_tokens T) (b0__law_tokens T) (fun _ _ _ => .nil) (da_cons (de_var (pv 13)) da_nil) (ar_tT 5)))) da_nil) ar_read_wish) (ok_Wish___or__ T) (hr.mono (by first | decide | omega)) (b0_Wish___or__ T)) da_nil)) (by rfl))
      (ds_cons (ds_if (PW.pt (dt_or (dt_ne hr.units (PE.toP (PE.toE (df_methA0 (K := K) (de_var (pv 14)) (ok_Wish_tokens T) (hr.mono (by first | decide | omega)) (b0_Wish_tokens T) (fun _ _ _ => .nil) ar_Wish_tokens))) (PE.toP (de_add (PE.toP (de_add (dp_var (pv 7)) (PE.toP (de_fn (okT T 5) (hr.mono (by first | decide | omega)) T.g__law_tokens (k__law_tokens T) (b0__law_tokens T) (fun _ _ _ => .nil) (da_cons (de_var (pv 13)) da_nil) (ar_tT 5))))) (PE.toP (PE.toE (df_lst (da_cons (de_str) da_nil))))))) (dt_or1 (dt_ne hr.units (PE.toP (PE.toE (df_methA0 (K := K) (de_var (pv 15)) (ok_Wish_tokens T) (hr.mono (by first | decide | omega)) (b0_Wish_tokens T) (fun _ _ _ => .nil) ar_Wish_tokens))) (PE.toP (de_add (PE.toP (de_add (dp_var (pv 7)) (PE.toP (de_fn (okT T 5) (hr.mono (by first | decide | omega)) T.g__law_tokens (k__law_tokens T) (b0__law_tokens T) (fun _ _ _ => .nil) (da_cons (de_var (pv 13)) da_nil) (ar_tT 5))))) (PE.toP (PE.toE (df_lst (da_cons (de_str) da_nil)))))))))) (ds_one (ds_ret (de_bl))) ds_nil)
      (ds_one (ds_if (PW.pt (dt_or (dt_ne hr.units (PE.toP (PE.toE (df_lc (own := [("_law_x", 17)]) (di_seq (de_add (dp_var (pv 4)) (PE.toP (PE.toE (df_lst (da_cons (de_str) (da_cons (de_str) da_nil))))))) sc_law.nd (blkOk_by (own := [("_law_x", 17)]) (N := N_law) (sc := defScope s_law) (by decide +kernel)) (fun _ _ _ _ _ => (dg_name (i := 17) sc_law.nd rfl (Or.inl rfl))) (fun _ _ _ _ _ => dts_nil) (fun _ _ _ _ _ => (de_fn (ok_is_name T) (hr.mono (by first | decide | omega)) T.g_is_name (k_is_name T) (b0_is_name T) (fun _ _ _ => .nil) (da_cons (de_var (pv 17)) da_nil) ar_is_name))))) (PE.toP (de_mul (PE.toP (PE.toE (df_lst (da_cons (de_bl) da_nil)))) (PE.toP (de_add (PE.toP (de_len T.n_len (dap_cons (dp_var (pv 4)) dap_nil))) (PE.toP (de_int))))))) (dt_or1 (dt_ne hr.units (PE.toP (PE.toE (df_lc (own := [("_law_x", 17)]) (di_seq (PE.toE (df_lst (da_cons (de_str) (da_cons (de_str) (da_cons (de_str) (da_cons (de_str) (da_cons (de_str) (da_cons (de_str) (da_cons (de_non) (da_cons (de_bl) (da_cons (de_int) (da_cons (de_tup (da_cons (de_str) da_nil)) (da_cons (PE.toE (df_lst (da_cons (de_str) da_nil))) (da_cons (de_str) (da_cons (de_str) da_nil)))))))))))))))) sc_law.nd (blkOk_by (own := [("_law_x", 17)]) (N := N_law) (sc := defScope s_law) (by decide +kernel)) (fun _ _ _ _ _ => (dg_name (i := 17) sc_law.nd rfl (Or.inl rfl))) (fun _ _ _ _ _ => dts_nil) (fun _ _ _ _ _ => (de_fn (ok_is_name T) (hr.mono (by first | decide | omega)) T.g_is_name (k_is_name T) (b0_is_name T) (fun _ _ _ => .nil) (da_cons (de_var (pv 17)) da_nil) ar_is_name))))) (PE.toP (de_mul (PE.toP (PE.toE (df_lst (da_cons (de_bl) da_nil)))) (PE.toP (de_int)))))))) (ds_one (ds_ret (de_bl))) ds_nil))))))))))))))))
      (ds_one (ds_ret (de_bl))))), ?_⟩
    refine ⟨.ref sc, rfl, sc, ns, rfl, hS, hlen, fun H' p l gr bg => ?_⟩
    refine lS_law (n := 16) bg (fun H' => q H') ?_
    refine seq_cut fun R hR => ?_
    refine for_rng (fun _ S => ∃ c2 c3 c4 c5 c6 c7 c8 c9 c10 c11 c12 c13 c14 c15 c16 c17, S = [.no, .val .bag, c2, c3, c4, c5, c6, c7, c8, c9, c10, c11, c12, c13, c14, c15, c16, c17]) (by decide) (by decide) ⟨_, _, _, _, _, _, _, _, _, _, _, _, _, _, _, _, rfl⟩ (fun j S De' _ hI hn _ _ hrt hrf => ?_) (fun S hI => ?_)
    · obtain ⟨c2, c3, c4, c5, c6, c7, c8, c9, c10, c11, c12, c13, c14, c15, c16, c17, rfl⟩ := hI
      clear hR
      have hrt' : De'.rt = fun d => d = D.bl true := hrt
      clear hrt hrf
      refine seq_cut fun R hR => ?_
      walk_at "go"
      refine ⟨by decide, by decide, fun al hal hal3 => ?_⟩
      have low := alpha_lowS hal
      have hp1 : 0 < al.length := by
        match al, hal with
        | _ :: _, _ => simp
      subst hR
      refine seq_cut fun R hR => ?_
      walk_at "go"
      refine ⟨by decide, by decide, fun ns hns hnm => ?_⟩
      subst hR
      refine seq_cut fun R hR => ?_
      walk_at "go"
      refine ⟨ns, rfl, hp1, by omega, by decide, by decide, low, by omega, hnm, fun t ht hd hs => ?_⟩
      obtain ⟨ht, htn⟩ := ht
      subst hR
      refine seq_cut fun R hR => ?_
      walk_at "go"
      refine ⟨t, rfl, ht, by omega, by omega, t, rfl, ht, by omega, by omega, ?_⟩
      have htv := tokV_self ht
      obtain ⟨hrd, hxo, hxl, hxs⟩ := tokV_text ht htv (by omega)
      obtain ⟨hv1, hv2⟩ := tokV_len ht htv
      have hsg := (tokV_sg ht htv).2
      have hok : ∀ x ∈ tokW (nrmW t), okD (.str x) = true := fun x hx => ascii_ok (hsg x hx).asc
      subst hR
      refine seq_cut fun R hR => ?_
      walk_at "go"
      refine ⟨_, strsD_map _, by omega, ?_⟩
      subst hR
      refine seq_cut fun R hR => ?_
      walk_at "go"
      refine ⟨t, rfl, ht, by omega, by omega, ?_⟩
      subst hR
      refine seq_cut fun R hR => ?_
      walk_at "go"
      have nsok : ∀ x ∈ ns, okD (.str x) = true := fun x hx => by
        have := (nameD (hnm x hx)).1
        exact okS.mpr fun c hc => by have := lowL_iff.mp (this c hc); omega
      refine ⟨by rw [List.length_map]; show _ ≤ 16777216; omega, wpMap_onF (kf := D.str) (fun x => if isNameD (.str x) = true then [D.str x] else []) (fun x hx k q => ⟨hok x hx, okL_strs nsok, ?_⟩) ?_⟩
      · by_cases hc : isNameD (.str x) = true
        · rw [if_pos hc] at q
          rw [if_pos (any_str.mpr (tok_nm ht htn x hx hc))]
          exact q
        · rw [if_neg hc] at q
          rw [if_neg (fun z => hc (hnm x (any_str.mp z)))]
          exact q
      have w1 : (Str.ofString "Wish(").cps.toList = [87, 105, 115, 104, 40] := by decide +kernel
      have w2 : (Str.ofString ")").cps.toList = [41] := by decide +kernel
      rw [name_flat, w1, w2]
      have hfl := List.length_filter_le (fun x => isNameD (.str x)) (tokW (nrmW t))
      refine ⟨by rw [List.length_map]; omega, .inr ⟨_, strsQ_map _, fun us hus hm => ?_⟩⟩
      rw [srtW_eq hus hm]
      refine ⟨by show _ ≤ 16777216; simp only [List.length_cons, List.length_nil]; omega, by show _ ≤ 16777216; simp only [List.length_append, List.length_cons, List.length_nil]; omega, by decide, ?_⟩
      clear hus hm
      have hasc : ∀ x ∈ tokW (nrmW t), Asc x := fun x hx => (hsg x hx).asc
      have htx : Asc (joinL [32] (tokW (nrmW t))) := asc_join (by unfold Asc; decide) hasc
      have hlit : Asc [87, 105, 115, 104, 40] ∧ Asc [41] := ⟨by unfold Asc; decide, by unfold Asc; decide⟩
      have hss : ∀ x ∈ srtW ((tokW (nrmW t)).filter fun x => isNameD (.str x)), Asc x := fun x hx => hasc x (List.mem_filter.mp (mem_srtW.mp hx)).1
      have gd : Gv 18 (D.lst [D.lst ((tokW (nrmW t)).map .str), D.str (joinL [32] (tokW (nrmW t))), D.lst ((srtW ((tokW (nrmW t)).filter fun x => isNameD (.str x))).map .str), D.str (ndL t), D.str ([87, 105, 115, 104, 40] ++ joinL [32] (tokW (nrmW t)) ++ [41])]) := .lst (n := 16) ⟨.strs hasc (by omega), .asc htx, .strs hss (Nat.le_trans (srtW_len _) (by omega)), .asc (abcF_asc _), .asc ((hlit.1.app htx).app hlit.2), trivial⟩
      generalize hdue : D.lst [D.lst ((tokW (nrmW t)).map .str), D.str (joinL [32] (tokW (nrmW t))), D.lst ((srtW ((tokW (nrmW t)).filter fun x => isNameD (.str x))).map .str), D.str (ndL t), D.str ([87, 105, 115, 104, 40] ++ joinL [32] (tokW (nrmW t)) ++ [41])] = due at gd ⊢
      subst hR
      refine seq_cut fun R hR => ?_
      walk_at "go"
      refine ⟨by rw [List.length_map]; show _ ≤ 16777216; omega, wpMap_rel (R := LooseR) (fun x hx k q => ?_) (fun zs hz => ?_)⟩
      · have hl40 := hv2 x hx
        walk_at "go"
        by_cases hin : 58 ∈ x
        rotate_left
        · rw [if_neg (by simpa [inStr] using hin)]
          exact q x (.inl rfl)
        rw [if_pos (by simpa [inStr] using hin)]
        by_cases hb : List.take 6 x = bhL
        · rw [if_neg (by rw [decide_eq_true hb]; decide)]
          exact q x (.inl rfl)
        rw [if_pos (by rw [decide_eq_false hb]; decide)]
        by_cases hc : x.count 44 < 3
        rotate_left
        · rw [if_neg (by simp only [decide_eq_true_eq]; omega)]
          exact q x (.inl rfl)
        rw [if_pos (by simp only [decide_eq_true_eq]; omega)]
        rcases tok_form ht x hx with g | ⟨b, us, hx2, g1, g2, g3⟩ | ⟨w, hx2, g1⟩
        · exact absurd hin g
        rotate_left
        · exact absurd (by rw [hx2]; rfl) hb
        have hsp : splitL 58 [] x = [hdW b, joinL [44] us] := by
          rw [hx2, List.append_assoc, List.singleton_append, split_app (hd_no b), split_no (join_n58 g1)]
          rfl
        have hsj : splitL 44 [] (joinL [44] us) = us := split_join g2 (us_no g1 (by decide))
        have hcnt : us.length ≤ 3 := by
          have := count_join (c := 44) us
          rw [hx2, List.count_append] at hc
          omega
        have hjl : (joinL [44] us).length ≤ 40 := by
          rw [hx2, List.length_append] at hl40
          omega
        have hhl : (hdW b).length ≤ 6 := by cases b <;> decide
        rw [hsp]
        refine ⟨by decide, by show _ ≤ 16777216; omega, _, rfl, ?_⟩
        walk_at "go"
        rw [hsj]
        have e1 : cut (us.map D.str) none (some (1 : Int)) = (us.take 1).map D.str := by
          have := cut_take' (us.map D.str) 1
          rw [List.map_take]
          exact this
        rw [e1, ← List.map_append]
        have hl1 : (us ++ us.take 1).length ≤ 4 := by rw [List.length_append, List.length_take]; omega
        refine ⟨by show _ ≤ 16777216; omega, by decide, by show _ ≤ 16777216; omega, by decide, by show _ ≤ 16777216; omega, by decide, by show _ ≤ 16777216; omega, by decide, by show _ ≤ 16777216; omega, by rw [← List.length_append, ← List.map_append, List.length_map]; show _ ≤ 16777216; omega, by rw [List.length_map]; omega, fun ys hp => ?_⟩
        obtain ⟨vs, rfl, hp2⟩ := perm_str hp
        have hvl : vs.length ≤ 4 := by rw [hp2.length_eq]; exact hl1
        have e2 : cut (vs.map D.str) none (some (4 : Int)) = vs.map D.str := by
          have := cut_take' (vs.map D.str) 4
          rw [List.take_of_length_le (by rw [List.length_map]; exact hvl)] at this
          exact this
        have hvm : ∀ u, u ∈ vs ↔ u ∈ us := fun u => by
          rw [hp2.mem_iff, List.mem_append]
          exact ⟨fun h => h.elim id List.mem_of_mem_take, .inl⟩
        rw [e2]
        have hvs := sum_le (n := 6) fun u hu => okWd_len (g1 u ((hvm u).mp hu))
        have hvj := joinL_len [44] vs
        simp only [List.length_cons, List.length_nil] at hvj
        refine ⟨vs, strsD_map vs, by omega, by show _ ≤ 16777216; rw [List.length_append, List.length_singleton]; omega, q _ (.inr ⟨b, us, vs, hx2, g1, g2, rfl, hvm, hvl⟩)⟩
      have hzv := loose_tokV ht hz
      obtain ⟨lrd, lxo, lxl, lxs⟩ := tokV_text ht hzv (by omega)
      refine ⟨zs, strsD_map zs, by omega, ?_⟩
      clear hz hzv
      generalize joinL [32] zs = lo at lrd lxo lxl
      subst hR
      refine seq_cut fun R hR => ?_
      refine for_cutG fun G hG2 => ?_
      walk_at "go"
      have hb20 : (tokW (nrmW t)).length ≤ 20 ∧ ∀ x ∈ tokW (nrmW t), x.length ≤ 40 := ⟨by omega, hv2⟩
      obtain ⟨C, cns, cvs, ce, cw, n1, n2, n3, n4⟩ := wi_all a (nrmW t)
      have hsm : ((tokW (nrmW t)).map (·.length)).sum + (tokW (nrmW t)).length ≤ 1000 := by omega
      refine ⟨hxo, by omega, _, hrd, fun _ => ⟨lxo, by omega, _, lrd, fun _ => ⟨C, cw.cls T, cw.m_text T, cns, cvs, ce, n1, nrmW t, rfl, by omega, hxo, by omega, _, hrd, fun _ => ⟨by decide, hG2 _ ?_⟩⟩⟩⟩
      clear hG2 G
      refine wpFor_inv (ds := [wiD a (nrmW t), wiD a (nrmW t), wiD a (nrmW t), wiD a (nrmW t)]) (fun m S => ∃ c12, S = [.no, .val .bag, .val (.int j), .val (.str al), .val (.lst (ns.map .str)), .val (tnD t), .val (wiD a (nrmW t)), .val (.lst ((tokW (nrmW t)).map .str)), .val (.str (joinL [32] (tokW (nrmW t)))), .val (.str (ndL t)), .val due, .val (.str lo), c12, c13, c14, c15, c16, c17]) 0 ⟨_, rfl⟩ (fun m d S De2 hm hI hnx _ _ hrt2 _ => ?_) (fun S hI => ?_)
      · obtain ⟨c12, rfl⟩ := hI
        obtain rfl : d = wiD a (nrmW t) := by
          have := List.mem_of_getElem? hm
          simpa using this
        walk_at "tg"
        refine seq_cut fun R2 hR2 => ?_
        walk_at "go"
        refine ⟨C, cw.cls T, cw.m_tokens T, cns, cvs, ce, n2, nrmW t, rfl, by omega, C, cw.cls T, cw.m_text T, cns, cvs, ce, n1, nrmW t, rfl, by omega, C, cw.cls T, cw.m_names T, cns, cvs, ce, n3, nrmW t, rfl, by omega, fun x hx => by have := hv2 x hx; omega, ?_⟩
        have hdn : dpW (nrmW t) < 10 := by rw [dp_nrm]; omega
        have hfin : R2 [.no, .val .bag, .val (.int j), .val (.str al), .val (.lst (ns.map .str)), .val (tnD t), .val (wiD a (nrmW t)), .val (.lst ((tokW (nrmW t)).map .str)), .val (.str (joinL [32] (tokW (nrmW t)))), .val (.str (ndL t)), .val due, .val (.str lo), .val (wiD a (nrmW t)), c13, c14, c15, c16, c17] := by
          subst hR2
          walk_at "go"
          have hx1 : ∀ x ∈ tokW (nrmW t), x.length ≤ 1000 := fun x hx => by have := hv2 x hx; omega
          have hl2 := srtW_len ((tokW (nrmW t)).filter fun x => isNameD (.str x))
          refine ⟨C, cw.cls T, cw.m_tokens T, cns, cvs, ce, n2, nrmW t, rfl, by omega, by rw [List.length_map]; show _ < 16777216; omega, C, cw.cls T, cw.m_names T, cns, cvs, ce, n3, nrmW t, rfl, by omega, hx1, by rw [List.length_map]; show _ < 16777216; omega, C, cw.eqx T, ⟨cns, cvs, ce⟩, okA_wi T cw _, nrmW t, rfl, hok, .inl ⟨nrmW t, rfl, hok, ?_⟩⟩
          rw [if_neg (by simp)]
          refine ⟨C, cw.eqx T, ⟨cns, cvs, ce⟩, okA_wi T cw _, nrmW t, rfl, hok, .inl ⟨nrmW t, rfl, hok, ?_⟩⟩
          rw [if_neg (by simp)]
          exact hnx _ ⟨_, rfl⟩
        have hdue2 : D.lst [D.lst ((tokW (nrmW t)).map .str), D.str (joinL [32] (tokW (nrmW t))), D.lst ((srtW ((tokW (nrmW t)).filter fun x => isNameD (.str x))).map .str), D.str (ndL t), D.str (87 :: 105 :: 115 :: 104 :: 40 :: (joinL [32] (tokW (nrmW t)) ++ [41]))] = due := hdue
        rcases wi_need T (nrmW t) with ⟨b, ws, e, C2, g1, g2, ns2, vs2, g3, g4⟩ | ⟨w, v, e, C2, g1, g2, ns2, vs2, g3, g4⟩ | ⟨hn, C2, g1, g2, ns2, vs2, g3, g4⟩
        · refine .inr (.inl ⟨C2, g1, g2, ns2, vs2, g3, g4, b, ws, congrArg (wiD a) e, e ▸ ht.nrm, C, cw.rep T, ?_⟩)
          rw [← e, nd_nrm, ce]
          refine ⟨rfl, nrmW t, ce.symm, by omega, ?_⟩
          rw [← ce]
          exact ⟨by decide, hdue2.symm, by rw [hdue2]; exact gd.1, by rw [hdue2]; exact gd.2.1, by rw [hdue2]; have := gd.2.2; omega, hfin⟩
        · refine .inr (.inr ⟨C2, g1, g2, ns2, vs2, g3, g4, w, v, congrArg (wiD a) e, e ▸ ht.nrm, e ▸ hdn, C, cw.rep T, ?_⟩)
          rw [← e, nd_nrm, ce]
          refine ⟨rfl, nrmW t, ce.symm, by omega, ?_⟩
          rw [← ce]
          exact ⟨by decide, hdue2.symm, by rw [hdue2]; exact gd.1, by rw [hdue2]; exact gd.2.1, by rw [hdue2]; have := gd.2.2; omega, hfin⟩
        · refine .inl ⟨C2, g1, g2, ns2, vs2, g3, g4, nrmW t, rfl, ht.nrm, hdn, C, cw.rep T, ?_⟩
          rw [lt_parts _ hn.1 hn.2, show abcF (ltW (nrmW t)) = ndL t from nd_nrm t, ce]
          refine ⟨rfl, nrmW t, ce.symm, by omega, ?_⟩
          rw [← ce]
          exact ⟨by decide, hdue2.symm, by rw [hdue2]; exact gd.1, by rw [hdue2]; exact gd.2.1, by rw [hdue2]; have := gd.2.2; omega, hfin⟩
      · obtain ⟨c12, rfl⟩ := hI
        show R _
        subst hR
        refine seq_cut fun R hR => ?_
        walk_at "go"
        refine ⟨ns, rfl, hp1, by omega, by decide, by decide, low, by omega, hnm, fun u hu hud hus => ?_⟩
        obtain ⟨hu, hun⟩ := hu
        subst hR
        refine seq_cut fun R hR => ?_
        walk_at "go"
        have huv := tokV_self hu
        have husg := (tokV_sg hu huv).2
        have huok : ∀ x ∈ tokW (nrmW u), okD (.str x) = true := fun x hx => ascii_ok (husg x hx).asc
        refine ⟨u, rfl, hu, by omega, by omega, C, cw.eqx T, ⟨cns, cvs, ce⟩, okA_wi T cw _, nrmW t, rfl, hok, .inl ⟨nrmW u, rfl, huok, C, cw.eqx T, ⟨cns, cvs, ce⟩, rfl, nrmW t, rfl, hok, .inr ⟨C, cw.eqx T, ⟨cns, cvs, ce⟩, rfl, nrmW t, rfl, hok, .inr ⟨by decide, u, rfl, hu, by omega, by omega, ?_⟩⟩⟩⟩
        refine ⟨okL_strs hok, okL_strs huok, by decide, deqv_strs _ _, rfl, rfl, by simp [dep, depL], ?_⟩
        subst hR
        refine seq_cut fun R hR => ?_
        walk_at "go"
        obtain ⟨urd, uxo, uxl, uxs⟩ := tokV_text hu huv (by omega)
        obtain ⟨uv1, uv2⟩ := tokV_len hu huv
        obtain ⟨D1, D2, gop⟩ := wi_op T (nrmW t) (nrmW u)
        refine ⟨u, rfl, hu, by omega, by omega, _, strsD_map _, by omega, uxo, by omega, _, urd, fun _ => ⟨D1, gop.1, D2, gop.2.1, gop.2.2.2.1.1, gop.2.2.2.1.2, gop.2.2.1, nrmW t, rfl, nrmW u, rfl, by omega, u, rfl, hu, by omega, by omega, _, strsD_map _, by omega, uxo, by omega, _, urd, fun _ => ⟨D1, gop.1, D2, gop.2.1, gop.2.2.2.2.1, gop.2.2.2.2.2, gop.2.2.1, nrmW t, rfl, nrmW u, rfl, by omega, ?_⟩⟩⟩
        subst hR
        refine seq_cut fun R hR => ?_
        walk_at "go"
        have ej1 : (tokW (nrmW t)).map D.str ++ (tokW (nrmW u)).map D.str ++ [D.str boL] = (tokW (.jn true (nrmW t) (nrmW u))).map D.str := by simp [tokW, jnW]
        have ej2 : (tokW (nrmW t)).map D.str ++ (tokW (nrmW u)).map D.str ++ [D.str eiL] = (tokW (.jn false (nrmW t) (nrmW u))).map D.str := by simp [tokW, jnW]
        have jok : ∀ b, ∀ x ∈ tokW (.jn b (nrmW t) (nrmW u)), okD (.str x) = true := fun b x hx => by
          simp only [tokW, List.mem_append, List.mem_singleton] at hx
          rcases hx with (hx | hx) | rfl
          · exact hok x hx
          · exact huok x hx
          · cases b <;> rfl
        have jl : ∀ b, (tokW (.jn b (nrmW t) (nrmW u))).length ≤ 100 := fun b => by
          simp only [tokW, List.length_append, List.length_cons, List.length_nil]
          omega
        obtain ⟨E1, e1n, e1v, e1e, e1w, _, m1, _⟩ := wi_all a (.jn true (nrmW t) (nrmW u))
        obtain ⟨E2, e2n, e2v, e2e, e2w, _, m2, _⟩ := wi_all a (.jn false (nrmW t) (nrmW u))
        have z : ∀ {n : Nat}, n ≤ 1000 → n ≤ sizeLine := fun h => Nat.le_trans h (by decide)
        have zl : ((tokW (nrmW t)).map D.str).length + ((tokW (nrmW u)).map D.str).length ≤ 100 := by rw [List.length_map, List.length_map]; omega
        refine ⟨E1, e1w.cls T, e1w.m_tokens T, e1n, e1v, e1e, m1, _, rfl, Nat.le_trans (jl true) (by decide), u, rfl, hu, by omega, by omega, z (by omega), by decide, z (by rw [List.length_append]; omega), okL_strs (jok true), by rw [ej1]; exact okL_strs (jok true), ?_⟩
        rw [ej1, if_neg (by rw [deqv_refl]; decide)]
        refine ⟨E2, e2w.cls T, e2w.m_tokens T, e2n, e2v, e2e, m2, _, rfl, Nat.le_trans (jl false) (by decide), u, rfl, hu, by omega, by omega, z (by omega), by decide, z (by rw [List.length_append]; omega), okL_strs (jok false), by rw [ej2]; exact okL_strs (jok false), ?_⟩
        rw [ej2, if_neg (by rw [deqv_refl]; decide)]
        subst hR
        walk_at "go"
        obtain ⟨n0, n1, n2, rfl⟩ : ∃ n0 n1 n2, ns = [n0, n1, n2] := by
          match ns, hns with
          | [x, y, w], _ => exact ⟨x, y, w, rfl⟩
        have hna : ∀ d ∈ [n0, n1, n2].map D.str ++ [D.str (Str.ofString "a").cps.toList, D.str (Str.ofString "abcdefgh").cps.toList], ∃ s, d = .str s ∧ s.length ≤ 8 ∧ isNameD (.str s) = true := fun d hd => by
          have nl : ∀ s, isNameD (.str s) = true → s.length ≤ 8 := fun s h => by
            unfold isNameD at h
            rw [Bool.and_eq_true] at h
            have := (isWd h.1).1
            omega
          rcases List.mem_append.mp hd with hd | hd
          · obtain ⟨s, hs, rfl⟩ := List.mem_map.mp hd
            exact ⟨s, rfl, nl s (hnm s hs), hnm s hs⟩
          · simp only [List.mem_cons, List.not_mem_nil, or_false] at hd
            rcases hd with rfl | rfl
            · exact ⟨_, rfl, by decide +kernel, by decide +kernel⟩
            · exact ⟨_, rfl, by decide +kernel, by decide +kernel⟩
        refine ⟨by decide, by show 3 + 2 ≤ 16777216; decide, by show 5 ≤ 16777216; decide, wpMap_map (fun _ => .bl true) (fun d hd k q => ?_) ⟨by decide, by show (0 : Int) ≤ 3 + 2; decide, by show (3 + 2 : Int) < _; decide, by show 1 * 5 ≤ 16777216; decide, rfl, rfl, ?_⟩⟩
        · obtain ⟨s, rfl, h1, h2⟩ := hna d hd
          refine ⟨rfl, by show _ ≤ 16777216; omega, ?_⟩
          rw [h2]
          exact q
        rw [if_neg (by show ¬ ((!deqv (.lst [.bl true, .bl true, .bl true, .bl true, .bl true]) (.lst [.bl true, .bl true, .bl true, .bl true, .bl true])) = true); rw [deqv_refl]; decide)]
        refine ⟨by decide, by decide, by decide, by decide, by decide +kernel, by decide +kernel, by decide +kernel, by decide +kernel, by decide +kernel, by decide +kernel, by decide +kernel, by decide +kernel, by decide +kernel, by decide +kernel, by decide +kernel, by decide +kernel, by decide +kernel, by decide, by decide, by decide, by decide, by decide +kernel, by decide +kernel, ?_⟩
        rw [if_neg (by decide +kernel)]
        exact hn _ ⟨_, _, _, _, _, _, _, _, _, _, _, _, _, _, _, _, rfl⟩
    · obtain ⟨c2, c3, c4, c5, c6, c7, c8, c9, c10, c11, c12, c13, c14, c15, c16, c17, rfl⟩ := hI
      subst hR
      rfl
end
end L2.DL.LW
namespace L2.DL.LW
open PySem PySem.Spec PyProof.Rows
section
namespace Hd
theorem txt {K : PySem.W.Frag} {h : Heap} {mg : Str → Option Value} (X : K.In h) (G : h.Ns mainGlobals mg) (c : Hk.SaysM fb fn K) : ∃ a : Adr, Txt K mg a ∧ a.f_law = He.ga K "law" ∧ FunD K "law" "law" (defArgs s_law) (defBody s_law) (defScope s_law) [] [] (He.ga K "law") a.fd_law ∧ mg "law" = some (.ref (He.ga K "law")) := by
  have aC_Wish : PySem.W.nsIn K mainGlobals "Wish" = some (some (.ref (He.ga K "Wish"))) := (He.eqO_ok (c.fact 0 rfl))
  have aC_Words : PySem.W.nsIn K mainGlobals "Words" = some (some (.ref (He.ga K "Words"))) := (He.eqO_ok (c.fact 1 rfl))
  have aC_Never : PySem.W.nsIn K mainGlobals "Never" = some (some (.ref (He.ga K "Never"))) := (He.eqO_ok (c.fact 2 rfl))
  have aC_Blocks : PySem.W.nsIn K mainGlobals "Blocks" = some (some (.ref (He.ga K "Blocks"))) := (He.eqO_ok (c.fact 3 rfl))
  have aC_Behind : PySem.W.nsIn K mainGlobals "Behind" = some (some (.ref (He.ga K "Behind"))) := (He.eqO_ok (c.fact 4 rfl))
  have aC_Both : PySem.W.nsIn K mainGlobals "Both" = some (some (.ref (He.ga K "Both"))) := (He.eqO_ok (c.fact 5 rfl))
  have aC_Either : PySem.W.nsIn K mainGlobals "Either" = some (some (.ref (He.ga K "Either"))) := (He.eqO_ok (c.fact 6 rfl))
  have aC_Named : PySem.W.nsIn K mainGlobals "Named" = some (some (.ref (He.ga K "Named"))) := (He.eqO_ok (c.fact 7 rfl))
  have a0 : PySem.W.nsIn K mainGlobals "_law_draws" = some (some (.ref (He.ga K "_law_draws"))) := (He.eqO_ok (c.fact 8 rfl))
  obtain ⟨fd0, F0⟩ := c.def_ 0 (d := d0) rfl
  have a1 : PySem.W.nsIn K mainGlobals "_law_pull" = some (some (.ref (He.ga K "_law_pull"))) := (He.eqO_ok (c.fact 9 rfl))
  obtain ⟨fd1, F1⟩ := c.def_ 1 (d := d1) rfl
  have a2 : PySem.W.nsIn K mainGlobals "_law_any" = some (some (.ref (He.ga K "_law_any"))) := (He.eqO_ok (c.fact 10 rfl))
  obtain ⟨fd2, F2⟩ := c.def_ 2 (d := d2) rfl
  have a3 : PySem.W.nsIn K mainGlobals "is_word" = some (some (.ref (He.ga K "is_word"))) := (He.eqO_ok (c.fact 11 rfl))
  obtain ⟨fd3, F3⟩ := c.def_ 3 (d := d3) rfl
  have a4 : PySem.W.nsIn K mainGlobals "is_name" = some (some (.ref (He.ga K "is_name"))) := (He.eqO_ok (c.fact 12 rfl))
  obtain ⟨fd4, F4⟩ := c.def_ 4 (d := d4) rfl
  have a5 : PySem.W.findIn K (.ref (He.ga K "Wish")) "__init__" = some (some (.ref (He.ma K (He.ga K "Wish") "__init__"))) := (He.eqO_ok (c.fact 13 rfl))
  have i5 : PySem.W.isFn K (.ref (He.ma K (He.ga K "Wish") "__init__")) = true := (c.fact 14 rfl)
  have k5 : PySem.W.keepIn K (.ref (He.ma K (He.ga K "Wish") "__init__")) = true := (c.fact 15 rfl)
  obtain ⟨fd5, F5⟩ := c.def_ 5 (d := d5) rfl
  have a6 : PySem.W.findIn K (.ref (He.ga K "Never")) "__init__" = some (some (.ref (He.ma K (He.ga K "Never") "__init__"))) := (He.eqO_ok (c.fact 16 rfl))
  have i6 : PySem.W.isFn K (.ref (He.ma K (He.ga K "Never") "__init__")) = true := (c.fact 17 rfl)
  have k6 : PySem.W.keepIn K (.ref (He.ma K (He.ga K "Never") "__init__")) = true := (c.fact 18 rfl)
  obtain ⟨fd6, F6, kp6⟩ := Hk.defS c 6 (d := d6) (P := P) (file := progF) rfl rfl rfl (by decide +kernel) rfl
  have su6 : PySem.W.mroIn K (He.ga K "Never") (.ref (Hk.dsA K (He.ma K (He.ga K "Never") "__init__"))) = some true := (of_decide_eq_true (c.fact 19 rfl))
  have sv6 : PySem.W.ks_superIn K (He.ga K "Never") (Hk.dsA K (He.ma K (He.ga K "Never") "__init__")) "__init__" = some (some (.ref (He.ma K (He.ga K "Wish") "__init__"))) := (He.eqO_ok (c.fact 20 rfl))
  have sw6 : PySem.W.typeIn K (.ref (He.ma K (He.ga K "Wish") "__init__")) = some (.type "function") := (of_decide_eq_true (c.fact 21 rfl))
  have sx6 : PySem.W.nsIn K cStatics "thirdparty.any" = some none := (He.eqO_ok (c.fact 22 rfl))
  have sy6 : PySem.W.fnIn K (He.ma K (He.ga K "Wish") "__init__") = true := (c.fact 23 rfl)
  have a7 : PySem.W.findIn K (.ref (He.ga K "Blocks")) "__init__" = some (some (.ref (He.ma K (He.ga K "Blocks") "__init__"))) := (He.eqO_ok (c.fact 24 rfl))
  have i7 : PySem.W.isFn K (.ref (He.ma K (He.ga K "Blocks") "__init__")) = true := (c.fact 25 rfl)
  have k7 : PySem.W.keepIn K (.ref (He.ma K (He.ga K "Blocks") "__init__")) = true := (c.fact 26 rfl)
  obtain ⟨fd7, F7, kp7⟩ := Hk.defS c 7 (d := d7) (P := P) (file := progF) rfl rfl rfl (by decide +kernel) rfl
  have su7 : PySem.W.mroIn K (He.ga K "Blocks") (.ref (Hk.dsA K (He.ma K (He.ga K "Blocks") "__init__"))) = some true := (of_decide_eq_true (c.fact 27 rfl))
  have sv7 : PySem.W.ks_superIn K (He.ga K "Blocks") (Hk.dsA K (He.ma K (He.ga K "Blocks") "__init__")) "__init__" = some (some (.ref (He.ma K (He.ga K "Wish") "__init__"))) := (He.eqO_ok (c.fact 28 rfl))
  have sw7 : PySem.W.typeIn K (.ref (He.ma K (He.ga K "Wish") "__init__")) = some (.type "function") := (of_decide_eq_true (c.fact 29 rfl))
  have sx7 : PySem.W.nsIn K cStatics "thirdparty.any" = some none := (He.eqO_ok (c.fact 30 rfl))
  have sy7 : PySem.W.fnIn K (He.ma K (He.ga K "Wish") "__init__") = true := (c.fact 31 rfl)
  have a8 : PySem.W.findIn K (.ref (He.ga K "Behind")) "__init__" = some (some (.ref (He.ma K (He.ga K "Behind") "__init__"))) := (He.eqO_ok (c.fact 32 rfl))
  have i8 : PySem.W.isFn K (.ref (He.ma K (He.ga K "Behind") "__init__")) = true := (c.fact 33 rfl)
  have k8 : PySem.W.keepIn K (.ref (He.ma K (He.ga K "Behind") "__init__")) = true := (c.fact 34 rfl)
  obtain ⟨fd8, F8, kp8⟩ := Hk.defS c 8 (d := d8) (P := P) (file := progF) rfl rfl rfl (by decide +kernel) rfl
  have su8 : PySem.W.mroIn K (He.ga K "Behind") (.ref (Hk.dsA K (He.ma K (He.ga K "Behind") "__init__"))) = some true := (of_decide_eq_true (c.fact 35 rfl))
  have sv8 : PySem.W.ks_superIn K (He.ga K "Behind") (Hk.dsA K (He.ma K (He.ga K "Behind") "__init__")) "__init__" = some (some (.ref (He.ma K (He.ga K "Wish") "__init__"))) := (He.eqO_ok (c.fact 36 rfl))
  have sw8 : PySem.W.typeIn K (.ref (He.ma K (He.ga K "Wish") "__init__")) = some (.type "function") := (of_decide_eq_true (c.fact 37 rfl))
  have sx8 : PySem.W.nsIn K cStatics "thirdparty.any" = some none := (He.eqO_ok (c.fact 38 rfl))
  have sy8 : PySem.W.fnIn K (He.ma K (He.ga K "Wish") "__init__") = true := (c.fact 39 rfl)
  have a9 : PySem.W.findIn K (.ref (He.ga K "Both")) "__init__" = some (some (.ref (He.ma K (He.ga K "Both") "__init__"))) := (He.eqO_ok (c.fact 40 rfl))
  have i9 : PySem.W.isFn K (.ref (He.ma K (He.ga K "Both") "__init__")) = true := (c.fact 41 rfl)
  have k9 : PySem.W.keepIn K (.ref (He.ma K (He.ga K "Both") "__init__")) = true := (c.fact 42 rfl)
  obtain ⟨fd9, F9, kp9⟩ := Hk.defS c 9 (d := d9) (P := P) (file := progF) rfl rfl rfl (by decide +kernel) rfl
  have su9 : PySem.W.mroIn K (He.ga K "Both") (.ref (Hk.dsA K (He.ma K (He.ga K "Both") "__init__"))) = some true := (of_decide_eq_true (c.fact 43 rfl))
  have sv9 : PySem.W.ks_superIn K (He.ga K "Both") (Hk.dsA K (He.ma K (He.ga K "Both") "__init__")) "__init__" = some (some (.ref (He.ma K (He.ga K "Wish") "__init__"))) := (He.eqO_ok (c.fact 44 rfl))
  have sw9 : PySem.W.typeIn K (.ref (He.ma K (He.ga K "Wish") "__init__")) = some (.type "function") := (of_decide_eq_true (c.fact 45 rfl))
  have sx9 : PySem.W.nsIn K cStatics "thirdparty.any" = some none := (He.eqO_ok (c.fact 46 rfl))
  have sy9 : PySem.W.fnIn K (He.ma K (He.ga K "Wish") "__init__") = true := (c.fact 47 rfl)
  have a10 : PySem.W.findIn K (.ref (He.ga K "Either")) "__init__" = some (some (.ref (He.ma K (He.ga K "Either") "__init__"))) := (He.eqO_ok (c.fact 48 rfl))
  have i10 : PySem.W.isFn K (.ref (He.ma K (He.ga K "Either") "__init__")) = true := (c.fact 49 rfl)
  have k10 : PySem.W.keepIn K (.ref (He.ma K (He.ga K "Either") "__init__")) = true := (c.fact 50 rfl)
  obtain ⟨fd10, F10, kp10⟩ := Hk.defS c 10 (d := d10) (P := P) (file := progF) rfl rfl rfl (by decide +kernel) rfl
  have su10 : PySem.W.mroIn K (He.ga K "Either") (.ref (Hk.dsA K (He.ma K (He.ga K "Either") "__init__"))) = some true := (of_decide_eq_true (c.fact 51 rfl))
  have sv10 : PySem.W.ks_superIn K (He.ga K "Either") (Hk.dsA K (He.ma K (He.ga K "Either") "__init__")) "__init__" = some (some (.ref (He.ma K (He.ga K "Wish") "__init__"))) := (He.eqO_ok (c.fact 52 rfl))
  have sw10 : PySem.W.typeIn K (.ref (He.ma K (He.ga K "Wish") "__init__")) = some (.type "function") := (of_decide_eq_true (c.fact 53 rfl))
  have sx10 : PySem.W.nsIn K cStatics "thirdparty.any" = some none := (He.eqO_ok (c.fact 54 rfl))
  have sy10 : PySem.W.fnIn K (He.ma K (He.ga K "Wish") "__init__") = true := (c.fact 55 rfl)
  have a11 : PySem.W.findIn K (.ref (He.ga K "Named")) "__init__" = some (some (.ref (He.ma K (He.ga K "Named") "__init__"))) := (He.eqO_ok (c.fact 56 rfl))
  have i11 : PySem.W.isFn K (.ref (He.ma K (He.ga K "Named") "__init__")) = true := (c.fact 57 rfl)
  have k11 : PySem.W.keepIn K (.ref (He.ma K (He.ga K "Named") "__init__")) = true := (c.fact 58 rfl)
  obtain ⟨fd11, F11, kp11⟩ := Hk.defS c 11 (d := d11) (P := P) (file := progF) rfl rfl rfl (by decide +kernel) rfl
  have su11 : PySem.W.mroIn K (He.ga K "Named") (.ref (Hk.dsA K (He.ma K (He.ga K "Named") "__init__"))) = some true := (of_decide_eq_true (c.fact 59 rfl))
  have sv11 : PySem.W.ks_superIn K (He.ga K "Named") (Hk.dsA K (He.ma K (He.ga K "Named") "__init__")) "__init__" = some (some (.ref (He.ma K (He.ga K "Wish") "__init__"))) := (He.eqO_ok (c.fact 60 rfl))
  have sw11 : PySem.W.typeIn K (.ref (He.ma K (He.ga K "Wish") "__init__")) = some (.type "function") := (of_decide_eq_true (c.fact 61 rfl))
  have sx11 : PySem.W.nsIn K cStatics "thirdparty.any" = some none := (He.eqO_ok (c.fact 62 rfl))
  have sy11 : PySem.W.fnIn K (He.ma K (He.ga K "Wish") "__init__") = true := (c.fact 63 rfl)
  have a12 : PySem.W.findIn K (.ref (He.ga K "Wish")) "text" = some (some (.ref (He.ma K (He.ga K "Wish") "text"))) := (He.eqO_ok (c.fact 64 rfl))
  have i12 : PySem.W.isFn K (.ref (He.ma K (He.ga K "Wish") "text")) = true := (c.fact 65 rfl)
  have k12 : PySem.W.keepIn K (.ref (He.ma K (He.ga K "Wish") "text")) = true := (c.fact 66 rfl)
  obtain ⟨fd12, F12⟩ := c.def_ 12 (d := d12) rfl
  have a13 : PySem.W.nsIn K mainGlobals "words_token" = some (some (.ref (He.ga K "words_token"))) := (He.eqO_ok (c.fact 67 rfl))
  obtain ⟨fd13, F13⟩ := c.def_ 13 (d := d13) rfl
  have a14 : PySem.W.nsIn K mainGlobals "token_read" = some (some (.ref (He.ga K "token_read"))) := (He.eqO_ok (c.fact 68 rfl))
  obtain ⟨fd14, F14⟩ := c.def_ 14 (d := d14) rfl
  have a15 : PySem.W.nsIn K mainGlobals "read_wish" = some (some (.ref (He.ga K "read_wish"))) := (He.eqO_ok (c.fact 69 rfl))
  obtain ⟨fd15, F15⟩ := c.def_ 15 (d := d15) rfl
  have a16 : PySem.W.nsIn K mainGlobals "_law_alphabet" = some (some (.ref (He.ga K "_law_alphabet"))) := (He.eqO_ok (c.fact 70 rfl))
  obtain ⟨fd16, F16⟩ := c.def_ 16 (d := d16) rfl
  have a17 : PySem.W.nsIn K mainGlobals "_law_word" = some (some (.ref (He.ga K "_law_word"))) := (He.eqO_ok (c.fact 71 rfl))
  obtain ⟨fd17, F17⟩ := c.def_ 17 (d := d17) rfl
  have a18 : PySem.W.nsIn K mainGlobals "_law_words" = some (some (.ref (He.ga K "_law_words"))) := (He.eqO_ok (c.fact 72 rfl))
  obtain ⟨fd18, F18⟩ := c.def_ 18 (d := d18) rfl
  have a19 : PySem.W.nsIn K mainGlobals "_law_leaf" = some (some (.ref (He.ga K "_law_leaf"))) := (He.eqO_ok (c.fact 73 rfl))
  obtain ⟨fd19, F19⟩ := c.def_ 19 (d := d19) rfl
  have a20 : PySem.W.nsIn K mainGlobals "_law_tree" = some (some (.ref (He.ga K "_law_tree"))) := (He.eqO_ok (c.fact 74 rfl))
  obtain ⟨fd20, F20⟩ := c.def_ 20 (d := d20) rfl
  have a21 : PySem.W.nsIn K mainGlobals "_law_tokens" = some (some (.ref (He.ga K "_law_tokens"))) := (He.eqO_ok (c.fact 75 rfl))
  obtain ⟨fd21, F21⟩ := c.def_ 21 (d := d21) rfl
  have a22 : PySem.W.nsIn K mainGlobals "_law_mixed" = some (some (.ref (He.ga K "_law_mixed"))) := (He.eqO_ok (c.fact 76 rfl))
  obtain ⟨fd22, F22⟩ := c.def_ 22 (d := d22) rfl
  have a23 : PySem.W.nsIn K mainGlobals "_law_names" = some (some (.ref (He.ga K "_law_names"))) := (He.eqO_ok (c.fact 77 rfl))
  obtain ⟨fd23, F23⟩ := c.def_ 23 (d := d23) rfl
  have a24 : PySem.W.findIn K (.ref (He.ga K "Wish")) "tokens" = some (some (.ref (He.ma K (He.ga K "Wish") "tokens"))) := (He.eqO_ok (c.fact 78 rfl))
  have i24 : PySem.W.isFn K (.ref (He.ma K (He.ga K "Wish") "tokens")) = true := (c.fact 79 rfl)
  have k24 : PySem.W.keepIn K (.ref (He.ma K (He.ga K "Wish") "tokens")) = true := (c.fact 80 rfl)
  obtain ⟨fd24, F24⟩ := c.def_ 24 (d := d24) rfl
  have a25 : PySem.W.findIn K (.ref (He.ga K "Wish")) "names" = some (some (.ref (He.ma K (He.ga K "Wish") "names"))) := (He.eqO_ok (c.fact 81 rfl))
  have i25 : PySem.W.isFn K (.ref (He.ma K (He.ga K "Wish") "names")) = true := (c.fact 82 rfl)
  have k25 : PySem.W.keepIn K (.ref (He.ma K (He.ga K "Wish") "names")) = true := (c.fact 83 rfl)
  obtain ⟨fd25, F25⟩ := c.def_ 25 (d := d25) rfl
  have a26 : PySem.W.findIn K (.ref (He.ga K "Words")) "needed" = some (some (.ref (He.ma K (He.ga K "Words") "needed"))) := (He.eqO_ok (c.fact 84 rfl))
  have i26 : PySem.W.isFn K (.ref (He.ma K (He.ga K "Words") "needed")) = true := (c.fact 85 rfl)
  have k26 : PySem.W.keepIn K (.ref (He.ma K (He.ga K "Words") "needed")) = true := (c.fact 86 rfl)
  obtain ⟨fd26, F26⟩ := c.def_ 26 (d := d26) rfl
  have a27 : PySem.W.findIn K (.ref (He.ga K "Wish")) "needed" = some (some (.ref (He.ma K (He.ga K "Wish") "needed"))) := (He.eqO_ok (c.fact 87 rfl))
  have i27 : PySem.W.isFn K (.ref (He.ma K (He.ga K "Wish") "needed")) = true := (c.fact 88 rfl)
  have k27 : PySem.W.keepIn K (.ref (He.ma K (He.ga K "Wish") "needed")) = true := (c.fact 89 rfl)
  obtain ⟨fd27, F27⟩ := c.def_ 27 (d := d27) rfl
  have a28 : PySem.W.findIn K (.ref (He.ga K "Behind")) "needed" = some (some (.ref (He.ma K (He.ga K "Behind") "needed"))) := (He.eqO_ok (c.fact 90 rfl))
  have i28 : PySem.W.isFn K (.ref (He.ma K (He.ga K "Behind") "needed")) = true := (c.fact 91 rfl)
  have k28 : PySem.W.keepIn K (.ref (He.ma K (He.ga K "Behind") "needed")) = true := (c.fact 92 rfl)
  obtain ⟨fd28, F28, kp28⟩ := Hk.defS c 28 (d := d28) (P := P) (file := progF) rfl rfl rfl (by decide +kernel) rfl
  have su28 : PySem.W.mroIn K (He.ga K "Behind") (.ref (Hk.dsA K (He.ma K (He.ga K "Behind") "needed"))) = some true := (of_decide_eq_true (c.fact 93 rfl))
  have sv28 : PySem.W.ks_superIn K (He.ga K "Behind") (Hk.dsA K (He.ma K (He.ga K "Behind") "needed")) "needed" = some (some (.ref (He.ma K (He.ga K "Wish") "needed"))) := (He.eqO_ok (c.fact 94 rfl))
  have sw28 : PySem.W.typeIn K (.ref (He.ma K (He.ga K "Wish") "needed")) = some (.type "function") := (of_decide_eq_true (c.fact 95 rfl))
  have sx28 : PySem.W.nsIn K cStatics "thirdparty.any" = some none := (He.eqO_ok (c.fact 96 rfl))
  have sy28 : PySem.W.fnIn K (He.ma K (He.ga K "Wish") "needed") = true := (c.fact 97 rfl)
  have a29 : PySem.W.findIn K (.ref (He.ga K "Wish")) "__and__" = some (some (.ref (He.ma K (He.ga K "Wish") "__and__"))) := (He.eqO_ok (c.fact 98 rfl))
  have i29 : PySem.W.isFn K (.ref (He.ma K (He.ga K "Wish") "__and__")) = true := (c.fact 99 rfl)
  have k29 : PySem.W.keepIn K (.ref (He.ma K (He.ga K "Wish") "__and__")) = true := (c.fact 100 rfl)
  obtain ⟨fd29, F29⟩ := c.def_ 29 (d := d29) rfl
  have a30 : PySem.W.findIn K (.ref (He.ga K "Wish")) "__or__" = some (some (.ref (He.ma K (He.ga K "Wish") "__or__"))) := (He.eqO_ok (c.fact 101 rfl))
  have i30 : PySem.W.isFn K (.ref (He.ma K (He.ga K "Wish") "__or__")) = true := (c.fact 102 rfl)
  have k30 : PySem.W.keepIn K (.ref (He.ma K (He.ga K "Wish") "__or__")) = true := (c.fact 103 rfl)
  obtain ⟨fd30, F30⟩ := c.def_ 30 (d := d30) rfl
  have a31 : PySem.W.findIn K (.ref (He.ga K "Wish")) "__eq__" = some (some (.ref (He.ma K (He.ga K "Wish") "__eq__"))) := (He.eqO_ok (c.fact 104 rfl))
  have i31 : PySem.W.isFn K (.ref (He.ma K (He.ga K "Wish") "__eq__")) = true := (c.fact 105 rfl)
  have k31 : PySem.W.keepIn K (.ref (He.ma K (He.ga K "Wish") "__eq__")) = true := (c.fact 106 rfl)
  obtain ⟨fd31, F31⟩ := c.def_ 31 (d := d31) rfl
  have a32 : PySem.W.findIn K (.ref (He.ga K "Wish")) "__repr__" = some (some (.ref (He.ma K (He.ga K "Wish") "__repr__"))) := (He.eqO_ok (c.fact 107 rfl))
  have i32 : PySem.W.isFn K (.ref (He.ma K (He.ga K "Wish") "__repr__")) = true := (c.fact 108 rfl)
  have k32 : PySem.W.keepIn K (.ref (He.ma K (He.ga K "Wish") "__repr__")) = true := (c.fact 109 rfl)
  obtain ⟨fd32, F32⟩ := c.def_ 32 (d := d32) rfl
  have a33 : PySem.W.nsIn K mainGlobals "_law_made_words" = some (some (.ref (He.ga K "_law_made_words"))) := (He.eqO_ok (c.fact 110 rfl))
  obtain ⟨fd33, F33⟩ := c.def_ 33 (d := d33) rfl
  have a34 : PySem.W.nsIn K mainGlobals "_law_wish" = some (some (.ref (He.ga K "_law_wish"))) := (He.eqO_ok (c.fact 111 rfl))
  obtain ⟨fd34, F34⟩ := c.def_ 34 (d := d34) rfl
  have a35 : PySem.W.nsIn K mainGlobals "_law_letters_of" = some (some (.ref (He.ga K "_law_letters_of"))) := (He.eqO_ok (c.fact 112 rfl))
  obtain ⟨fd35, F35⟩ := c.def_ 35 (d := d35) rfl
  have a36 : PySem.W.nsIn K mainGlobals "_law_like" = some (some (.ref (He.ga K "_law_like"))) := (He.eqO_ok (c.fact 113 rfl))
  obtain ⟨fd36, F36⟩ := c.def_ 36 (d := d36) rfl
  have a37 : PySem.W.nsIn K mainGlobals "law" = some (some (.ref (He.ga K "law"))) := (He.eqO_ok (c.fact 114 rfl))
  obtain ⟨fd37, F37⟩ := c.def_ 37 (d := d37) rfl
  have pg_Wish : PySem.W.plainGet K (He.ga K "Wish") Str.empty = true := (c.fact 115 rfl)
  have hd_Wish : PySem.W.hasDictIn K (He.ga K "Wish") = true := (c.fact 116 rfl)
  have po_Wish : PySem.W.plainOver K (He.ga K "Wish") = true := (c.fact 117 rfl)
  have sa_Wish : PySem.W.findIn K (.ref (He.ga K "Wish")) "__setattr__" = some (some (.builtin "object.__setattr__")) := (He.eqO_ok (c.fact 118 rfl))
  have ia_Wish : PySem.W.findIn K (.ref (He.ga K "Wish")) "__class__" = some (some (.builtin "object.__class__")) := (He.eqO_ok (c.fact 119 rfl))
  have ib_Wish : PySem.W.specialIn K (.builtin "object.__class__") "__get__" = some (some (.builtin "getset_descriptor.__get__")) := (He.eqO_ok (c.fact 120 rfl))
  have ic_Wish : PySem.W.takesIn K (.builtin "object.__class__") = some true := (of_decide_eq_true (c.fact 121 rfl))
  have im_Wish : PySem.W.mroIn K (He.ga K "Wish") (.type "object") = some true := (of_decide_eq_true (c.fact 122 rfl))
  have ks_Wish : PySem.W.isClsIn K (He.ga K "Wish") = true := (c.fact 123 rfl)
  have kt_Wish : PySem.W.typeIn K (.ref (He.ga K "Wish")) = some (.type "type") := (of_decide_eq_true (c.fact 124 rfl))
  have kn0_Wish : PySem.W.subIn K (.type "NoneType") (.ref (He.ga K "Wish")) = some false := (of_decide_eq_true (c.fact 125 rfl))
  have kn1_Wish : PySem.W.subIn K (.type "bool") (.ref (He.ga K "Wish")) = some false := (of_decide_eq_true (c.fact 126 rfl))
  have kn2_Wish : PySem.W.subIn K (.type "int") (.ref (He.ga K "Wish")) = some false := (of_decide_eq_true (c.fact 127 rfl))
  have kn3_Wish : PySem.W.subIn K (.type "str") (.ref (He.ga K "Wish")) = some false := (of_decide_eq_true (c.fact 128 rfl))
  have kn4_Wish : PySem.W.subIn K (.type "list") (.ref (He.ga K "Wish")) = some false := (of_decide_eq_true (c.fact 129 rfl))
  have kn5_Wish : PySem.W.subIn K (.type "tuple") (.ref (He.ga K "Wish")) = some false := (of_decide_eq_true (c.fact 130 rfl))
  have mk_Wish : PySem.W.makesIn K (He.ga K "Wish") = true := (c.fact 131 rfl)
  have kp_Wish : PySem.W.keepIn K (.ref (He.ga K "Wish")) = true := (c.fact 132 rfl)
  have nf_Wish : PySem.W.findIn K (.ref (He.ga K "Wish")) "__ne__" = some (some (.builtin "object.__ne__")) := (He.eqO_ok (c.fact 133 rfl))
  have pg_Words : PySem.W.plainGet K (He.ga K "Words") Str.empty = true := (c.fact 134 rfl)
  have hd_Words : PySem.W.hasDictIn K (He.ga K "Words") = true := (c.fact 135 rfl)
  have po_Words : PySem.W.plainOver K (He.ga K "Words") = true := (c.fact 136 rfl)
  have sa_Words : PySem.W.findIn K (.ref (He.ga K "Words")) "__setattr__" = some (some (.builtin "object.__setattr__")) := (He.eqO_ok (c.fact 137 rfl))
  have ia_Words : PySem.W.findIn K (.ref (He.ga K "Words")) "__class__" = some (some (.builtin "object.__class__")) := (He.eqO_ok (c.fact 138 rfl))
  have ib_Words : PySem.W.specialIn K (.builtin "object.__class__") "__get__" = some (some (.builtin "getset_descriptor.__get__")) := (He.eqO_ok (c.fact 139 rfl))
  have ic_Words : PySem.W.takesIn K (.builtin "object.__class__") = some true := (of_decide_eq_true (c.fact 140 rfl))
  have im_Words : PySem.W.mroIn K (He.ga K "Words") (.type "object") = some true := (of_decide_eq_true (c.fact 141 rfl))
  have ks_Words : PySem.W.isClsIn K (He.ga K "Words") = true := (c.fact 142 rfl)
  have kt_Words : PySem.W.typeIn K (.ref (He.ga K "Words")) = some (.type "type") := (of_decide_eq_true (c.fact 143 rfl))
  have kn0_Words : PySem.W.subIn K (.type "NoneType") (.ref (He.ga K "Words")) = some false := (of_decide_eq_true (c.fact 144 rfl))
  have kn1_Words : PySem.W.subIn K (.type "bool") (.ref (He.ga K "Words")) = some false := (of_decide_eq_true (c.fact 145 rfl))
  have kn2_Words : PySem.W.subIn K (.type "int") (.ref (He.ga K "Words")) = some false := (of_decide_eq_true (c.fact 146 rfl))
  have kn3_Words : PySem.W.subIn K (.type "str") (.ref (He.ga K "Words")) = some false := (of_decide_eq_true (c.fact 147 rfl))
  have kn4_Words : PySem.W.subIn K (.type "list") (.ref (He.ga K "Words")) = some false := (of_decide_eq_true (c.fact 148 rfl))
  have kn5_Words : PySem.W.subIn K (.type "tuple") (.ref (He.ga K "Words")) = some false := (of_decide_eq_true (c.fact 149 rfl))
  have pg_Never : PySem.W.plainGet K (He.ga K "Never") Str.empty = true := (c.fact 150 rfl)
  have hd_Never : PySem.W.hasDictIn K (He.ga K "Never") = true := (c.fact 151 rfl)
  have po_Never : PySem.W.plainOver K (He.ga K "Never") = true := (c.fact 152 rfl)
  have sa_Never : PySem.W.findIn K (.ref (He.ga K "Never")) "__setattr__" = some (some (.builtin "object.__setattr__")) := (He.eqO_ok (c.fact 153 rfl))
  have ia_Never : PySem.W.findIn K (.ref (He.ga K "Never")) "__class__" = some (some (.builtin "object.__class__")) := (He.eqO_ok (c.fact 154 rfl))
  have ib_Never : PySem.W.specialIn K (.builtin "object.__class__") "__get__" = some (some (.builtin "getset_descriptor.__get__")) := (He.eqO_ok (c.fact 155 rfl))
  have ic_Never : PySem.W.takesIn K (.builtin "object.__class__") = some true := (of_decide_eq_true (c.fact 156 rfl))
  have im_Never : PySem.W.mroIn K (He.ga K "Never") (.type "object") = some true := (of_decide_eq_true (c.fact 157 rfl))
  have ks_Never : PySem.W.isClsIn K (He.ga K "Never") = true := (c.fact 158 rfl)
  have kt_Never : PySem.W.typeIn K (.ref (He.ga K "Never")) = some (.type "type") := (of_decide_eq_true (c.fact 159 rfl))
  have kn0_Never : PySem.W.subIn K (.type "NoneType") (.ref (He.ga K "Never")) = some false := (of_decide_eq_true (c.fact 160 rfl))
  have kn1_Never : PySem.W.subIn K (.type "bool") (.ref (He.ga K "Never")) = some false := (of_decide_eq_true (c.fact 161 rfl))
  have kn2_Never : PySem.W.subIn K (.type "int") (.ref (He.ga K "Never")) = some false := (of_decide_eq_true (c.fact 162 rfl))
  have kn3_Never : PySem.W.subIn K (.type "str") (.ref (He.ga K "Never")) = some false := (of_decide_eq_true (c.fact 163 rfl))
  have kn4_Never : PySem.W.subIn K (.type "list") (.ref (He.ga K "Never")) = some false := (of_decide_eq_true (c.fact 164 rfl))
  have kn5_Never : PySem.W.subIn K (.type "tuple") (.ref (He.ga K "Never")) = some false := (of_decide_eq_true (c.fact 165 rfl))
  have mk_Never : PySem.W.makesIn K (He.ga K "Never") = true := (c.fact 166 rfl)
  have kp_Never : PySem.W.keepIn K (.ref (He.ga K "Never")) = true := (c.fact 167 rfl)
  have no_Never_parts : PySem.W.findIn K (.ref (He.ga K "Never")) "parts" = some none := (He.eqO_ok (c.fact 168 rfl))
  have no_Never_own_tokens : PySem.W.findIn K (.ref (He.ga K "Never")) "own_tokens" = some none := (He.eqO_ok (c.fact 169 rfl))
  have no_Never_words : PySem.W.findIn K (.ref (He.ga K "Never")) "words" = some none := (He.eqO_ok (c.fact 170 rfl))
  have pg_Blocks : PySem.W.plainGet K (He.ga K "Blocks") Str.empty = true := (c.fact 171 rfl)
  have hd_Blocks : PySem.W.hasDictIn K (He.ga K "Blocks") = true := (c.fact 172 rfl)
  have po_Blocks : PySem.W.plainOver K (He.ga K "Blocks") = true := (c.fact 173 rfl)
  have sa_Blocks : PySem.W.findIn K (.ref (He.ga K "Blocks")) "__setattr__" = some (some (.builtin "object.__setattr__")) := (He.eqO_ok (c.fact 174 rfl))
  have ia_Blocks : PySem.W.findIn K (.ref (He.ga K "Blocks")) "__class__" = some (some (.builtin "object.__class__")) := (He.eqO_ok (c.fact 175 rfl))
  have ib_Blocks : PySem.W.specialIn K (.builtin "object.__class__") "__get__" = some (some (.builtin "getset_descriptor.__get__")) := (He.eqO_ok (c.fact 176 rfl))
  have ic_Blocks : PySem.W.takesIn K (.builtin "object.__class__") = some true := (of_decide_eq_true (c.fact 177 rfl))
  have im_Blocks : PySem.W.mroIn K (He.ga K "Blocks") (.type "object") = some true := (of_decide_eq_true (c.fact 178 rfl))
  have ks_Blocks : PySem.W.isClsIn K (He.ga K "Blocks") = true := (c.fact 179 rfl)
  have kt_Blocks : PySem.W.typeIn K (.ref (He.ga K "Blocks")) = some (.type "type") := (of_decide_eq_true (c.fact 180 rfl))
  have kn0_Blocks : PySem.W.subIn K (.type "NoneType") (.ref (He.ga K "Blocks")) = some false := (of_decide_eq_true (c.fact 181 rfl))
  have kn1_Blocks : PySem.W.subIn K (.type "bool") (.ref (He.ga K "Blocks")) = some false := (of_decide_eq_true (c.fact 182 rfl))
  have kn2_Blocks : PySem.W.subIn K (.type "int") (.ref (He.ga K "Blocks")) = some false := (of_decide_eq_true (c.fact 183 rfl))
  have kn3_Blocks : PySem.W.subIn K (.type "str") (.ref (He.ga K "Blocks")) = some false := (of_decide_eq_true (c.fact 184 rfl))
  have kn4_Blocks : PySem.W.subIn K (.type "list") (.ref (He.ga K "Blocks")) = some false := (of_decide_eq_true (c.fact 185 rfl))
  have kn5_Blocks : PySem.W.subIn K (.type "tuple") (.ref (He.ga K "Blocks")) = some false := (of_decide_eq_true (c.fact 186 rfl))
  have mk_Blocks : PySem.W.makesIn K (He.ga K "Blocks") = true := (c.fact 187 rfl)
  have kp_Blocks : PySem.W.keepIn K (.ref (He.ga K "Blocks")) = true := (c.fact 188 rfl)
  have no_Blocks_parts : PySem.W.findIn K (.ref (He.ga K "Blocks")) "parts" = some none := (He.eqO_ok (c.fact 189 rfl))
  have no_Blocks_own_tokens : PySem.W.findIn K (.ref (He.ga K "Blocks")) "own_tokens" = some none := (He.eqO_ok (c.fact 190 rfl))
  have no_Blocks_words : PySem.W.findIn K (.ref (He.ga K "Blocks")) "words" = some none := (He.eqO_ok (c.fact 191 rfl))
  have pg_Behind : PySem.W.plainGet K (He.ga K "Behind") Str.empty = true := (c.fact 192 rfl)
  have hd_Behind : PySem.W.hasDictIn K (He.ga K "Behind") = true := (c.fact 193 rfl)
  have po_Behind : PySem.W.plainOver K (He.ga K "Behind") = true := (c.fact 194 rfl)
  have sa_Behind : PySem.W.findIn K (.ref (He.ga K "Behind")) "__setattr__" = some (some (.builtin "object.__setattr__")) := (He.eqO_ok (c.fact 195 rfl))
  have ia_Behind : PySem.W.findIn K (.ref (He.ga K "Behind")) "__class__" = some (some (.builtin "object.__class__")) := (He.eqO_ok (c.fact 196 rfl))
  have ib_Behind : PySem.W.specialIn K (.builtin "object.__class__") "__get__" = some (some (.builtin "getset_descriptor.__get__")) := (He.eqO_ok (c.fact 197 rfl))
  have ic_Behind : PySem.W.takesIn K (.builtin "object.__class__") = some true := (of_decide_eq_true (c.fact 198 rfl))
  have im_Behind : PySem.W.mroIn K (He.ga K "Behind") (.type "object") = some true := (of_decide_eq_true (c.fact 199 rfl))
  have ks_Behind : PySem.W.isClsIn K (He.ga K "Behind") = true := (c.fact 200 rfl)
  have kt_Behind : PySem.W.typeIn K (.ref (He.ga K "Behind")) = some (.type "type") := (of_decide_eq_true (c.fact 201 rfl))
  have kn0_Behind : PySem.W.subIn K (.type "NoneType") (.ref (He.ga K "Behind")) = some false := (of_decide_eq_true (c.fact 202 rfl))
  have kn1_Behind : PySem.W.subIn K (.type "bool") (.ref (He.ga K "Behind")) = some false := (of_decide_eq_true (c.fact 203 rfl))
  have kn2_Behind : PySem.W.subIn K (.type "int") (.ref (He.ga K "Behind")) = some false := (of_decide_eq_true (c.fact 204 rfl))
  have kn3_Behind : PySem.W.subIn K (.type "str") (.ref (He.ga K "Behind")) = some false := (of_decide_eq_true (c.fact 205 rfl))
  have kn4_Behind : PySem.W.subIn K (.type "list") (.ref (He.ga K "Behind")) = some false := (of_decide_eq_true (c.fact 206 rfl))
  have kn5_Behind : PySem.W.subIn K (.type "tuple") (.ref (He.ga K "Behind")) = some false := (of_decide_eq_true (c.fact 207 rfl))
  have mk_Behind : PySem.W.makesIn K (He.ga K "Behind") = true := (c.fact 208 rfl)
  have kp_Behind : PySem.W.keepIn K (.ref (He.ga K "Behind")) = true := (c.fact 209 rfl)
  have no_Behind_parts : PySem.W.findIn K (.ref (He.ga K "Behind")) "parts" = some none := (He.eqO_ok (c.fact 210 rfl))
  have no_Behind_own_tokens : PySem.W.findIn K (.ref (He.ga K "Behind")) "own_tokens" = some none := (He.eqO_ok (c.fact 211 rfl))
  have no_Behind_word : PySem.W.findIn K (.ref (He.ga K "Behind")) "word" = some none := (He.eqO_ok (c.fact 212 rfl))
  have pg_Both : PySem.W.plainGet K (He.ga K "Both") Str.empty = true := (c.fact 213 rfl)
  have hd_Both : PySem.W.hasDictIn K (He.ga K "Both") = true := (c.fact 214 rfl)
  have po_Both : PySem.W.plainOver K (He.ga K "Both") = true := (c.fact 215 rfl)
  have sa_Both : PySem.W.findIn K (.ref (He.ga K "Both")) "__setattr__" = some (some (.builtin "object.__setattr__")) := (He.eqO_ok (c.fact 216 rfl))
  have ia_Both : PySem.W.findIn K (.ref (He.ga K "Both")) "__class__" = some (some (.builtin "object.__class__")) := (He.eqO_ok (c.fact 217 rfl))
  have ib_Both : PySem.W.specialIn K (.builtin "object.__class__") "__get__" = some (some (.builtin "getset_descriptor.__get__")) := (He.eqO_ok (c.fact 218 rfl))
  have ic_Both : PySem.W.takesIn K (.builtin "object.__class__") = some true := (of_decide_eq_true (c.fact 219 rfl))
  have im_Both : PySem.W.mroIn K (He.ga K "Both") (.type "object") = some true := (of_decide_eq_true (c.fact 220 rfl))
  have ks_Both : PySem.W.isClsIn K (He.ga K "Both") = true := (c.fact 221 rfl)
  have kt_Both : PySem.W.typeIn K (.ref (He.ga K "Both")) = some (.type "type") := (of_decide_eq_true (c.fact 222 rfl))
  have kn0_Both : PySem.W.subIn K (.type "NoneType") (.ref (He.ga K "Both")) = some false := (of_decide_eq_true (c.fact 223 rfl))
  have kn1_Both : PySem.W.subIn K (.type "bool") (.ref (He.ga K "Both")) = some false := (of_decide_eq_true (c.fact 224 rfl))
  have kn2_Both : PySem.W.subIn K (.type "int") (.ref (He.ga K "Both")) = some false := (of_decide_eq_true (c.fact 225 rfl))
  have kn3_Both : PySem.W.subIn K (.type "str") (.ref (He.ga K "Both")) = some false := (of_decide_eq_true (c.fact 226 rfl))
  have kn4_Both : PySem.W.subIn K (.type "list") (.ref (He.ga K "Both")) = some false := (of_decide_eq_true (c.fact 227 rfl))
  have kn5_Both : PySem.W.subIn K (.type "tuple") (.ref (He.ga K "Both")) = some false := (of_decide_eq_true (c.fact 228 rfl))
  have mk_Both : PySem.W.makesIn K (He.ga K "Both") = true := (c.fact 229 rfl)
  have kp_Both : PySem.W.keepIn K (.ref (He.ga K "Both")) = true := (c.fact 230 rfl)
  have no_Both_parts : PySem.W.findIn K (.ref (He.ga K "Both")) "parts" = some none := (He.eqO_ok (c.fact 231 rfl))
  have no_Both_own_tokens : PySem.W.findIn K (.ref (He.ga K "Both")) "own_tokens" = some none := (He.eqO_ok (c.fact 232 rfl))
  have pg_Either : PySem.W.plainGet K (He.ga K "Either") Str.empty = true := (c.fact 233 rfl)
  have hd_Either : PySem.W.hasDictIn K (He.ga K "Either") = true := (c.fact 234 rfl)
  have po_Either : PySem.W.plainOver K (He.ga K "Either") = true := (c.fact 235 rfl)
  have sa_Either : PySem.W.findIn K (.ref (He.ga K "Either")) "__setattr__" = some (some (.builtin "object.__setattr__")) := (He.eqO_ok (c.fact 236 rfl))
  have ia_Either : PySem.W.findIn K (.ref (He.ga K "Either")) "__class__" = some (some (.builtin "object.__class__")) := (He.eqO_ok (c.fact 237 rfl))
  have ib_Either : PySem.W.specialIn K (.builtin "object.__class__") "__get__" = some (some (.builtin "getset_descriptor.__get__")) := (He.eqO_ok (c.fact 238 rfl))
  have ic_Either : PySem.W.takesIn K (.builtin "object.__class__") = some true := (of_decide_eq_true (c.fact 239 rfl))
  have im_Either : PySem.W.mroIn K (He.ga K "Either") (.type "object") = some true := (of_decide_eq_true (c.fact 240 rfl))
  have ks_Either : PySem.W.isClsIn K (He.ga K "Either") = true := (c.fact 241 rfl)
  have kt_Either : PySem.W.typeIn K (.ref (He.ga K "Either")) = some (.type "type") := (of_decide_eq_true (c.fact 242 rfl))
  have kn0_Either : PySem.W.subIn K (.type "NoneType") (.ref (He.ga K "Either")) = some false := (of_decide_eq_true (c.fact 243 rfl))
  have kn1_Either : PySem.W.subIn K (.type "bool") (.ref (He.ga K "Either")) = some false := (of_decide_eq_true (c.fact 244 rfl))
  have kn2_Either : PySem.W.subIn K (.type "int") (.ref (He.ga K "Either")) = some false := (of_decide_eq_true (c.fact 245 rfl))
  have kn3_Either : PySem.W.subIn K (.type "str") (.ref (He.ga K "Either")) = some false := (of_decide_eq_true (c.fact 246 rfl))
  have kn4_Either : PySem.W.subIn K (.type "list") (.ref (He.ga K "Either")) = some false := (of_decide_eq_true (c.fact 247 rfl))
  have kn5_Either : PySem.W.subIn K (.type "tuple") (.ref (He.ga K "Either")) = some false := (of_decide_eq_true (c.fact 248 rfl))
  have mk_Either : PySem.W.makesIn K (He.ga K "Either") = true := (c.fact 249 rfl)
  have kp_Either : PySem.W.keepIn K (.ref (He.ga K "Either")) = true := (c.fact 250 rfl)
  have no_Either_parts : PySem.W.findIn K (.ref (He.ga K "Either")) "parts" = some none := (He.eqO_ok (c.fact 251 rfl))
  have no_Either_own_tokens : PySem.W.findIn K (.ref (He.ga K "Either")) "own_tokens" = some none := (He.eqO_ok (c.fact 252 rfl))
  have pg_Named : PySem.W.plainGet K (He.ga K "Named") Str.empty = true := (c.fact 253 rfl)
  have hd_Named : PySem.W.hasDictIn K (He.ga K "Named") = true := (c.fact 254 rfl)
  have po_Named : PySem.W.plainOver K (He.ga K "Named") = true := (c.fact 255 rfl)
  have sa_Named : PySem.W.findIn K (.ref (He.ga K "Named")) "__setattr__" = some (some (.builtin "object.__setattr__")) := (He.eqO_ok (c.fact 256 rfl))
  have ia_Named : PySem.W.findIn K (.ref (He.ga K "Named")) "__class__" = some (some (.builtin "object.__class__")) := (He.eqO_ok (c.fact 257 rfl))
  have ib_Named : PySem.W.specialIn K (.builtin "object.__class__") "__get__" = some (some (.builtin "getset_descriptor.__get__")) := (He.eqO_ok (c.fact 258 rfl))
  have ic_Named : PySem.W.takesIn K (.builtin "object.__class__") = some true := (of_decide_eq_true (c.fact 259 rfl))
  have im_Named : PySem.W.mroIn K (He.ga K "Named") (.type "object") = some true := (of_decide_eq_true (c.fact 260 rfl))
  have ks_Named : PySem.W.isClsIn K (He.ga K "Named") = true := (c.fact 261 rfl)
  have kt_Named : PySem.W.typeIn K (.ref (He.ga K "Named")) = some (.type "type") := (of_decide_eq_true (c.fact 262 rfl))
  have kn0_Named : PySem.W.subIn K (.type "NoneType") (.ref (He.ga K "Named")) = some false := (of_decide_eq_true (c.fact 263 rfl))
  have kn1_Named : PySem.W.subIn K (.type "bool") (.ref (He.ga K "Named")) = some false := (of_decide_eq_true (c.fact 264 rfl))
  have kn2_Named : PySem.W.subIn K (.type "int") (.ref (He.ga K "Named")) = some false := (of_decide_eq_true (c.fact 265 rfl))
  have kn3_Named : PySem.W.subIn K (.type "str") (.ref (He.ga K "Named")) = some false := (of_decide_eq_true (c.fact 266 rfl))
  have kn4_Named : PySem.W.subIn K (.type "list") (.ref (He.ga K "Named")) = some false := (of_decide_eq_true (c.fact 267 rfl))
  have kn5_Named : PySem.W.subIn K (.type "tuple") (.ref (He.ga K "Named")) = some false := (of_decide_eq_true (c.fact 268 rfl))
  have mk_Named : PySem.W.makesIn K (He.ga K "Named") = true := (c.fact 269 rfl)
  have kp_Named : PySem.W.keepIn K (.ref (He.ga K "Named")) = true := (c.fact 270 rfl)
  have no_Named_parts : PySem.W.findIn K (.ref (He.ga K "Named")) "parts" = some none := (He.eqO_ok (c.fact 271 rfl))
  have no_Named_own_tokens : PySem.W.findIn K (.ref (He.ga K "Named")) "own_tokens" = some none := (He.eqO_ok (c.fact 272 rfl))
  have no_Named_name : PySem.W.findIn K (.ref (He.ga K "Named")) "name" = some none := (He.eqO_ok (c.fact 273 rfl))
  have co_Blocks_HEAD := Hk.con_ok (c.fact 274 rfl)
  have co_Never_HEAD := Hk.con_ok (c.fact 275 rfl)
  have n_all : PySem.W.nsIn K mainGlobals "all" = some none := (He.eqO_ok (c.fact 281 rfl))
  have n_bool : PySem.W.nsIn K mainGlobals "bool" = some none := (He.eqO_ok (c.fact 282 rfl))
  have n_enumerate : PySem.W.nsIn K mainGlobals "enumerate" = some none := (He.eqO_ok (c.fact 283 rfl))
  have n_int : PySem.W.nsIn K mainGlobals "int" = some none := (He.eqO_ok (c.fact 284 rfl))
  have n_isinstance : PySem.W.nsIn K mainGlobals "isinstance" = some none := (He.eqO_ok (c.fact 285 rfl))
  have n_len : PySem.W.nsIn K mainGlobals "len" = some none := (He.eqO_ok (c.fact 286 rfl))
  have n_list : PySem.W.nsIn K mainGlobals "list" = some none := (He.eqO_ok (c.fact 287 rfl))
  have n_min : PySem.W.nsIn K mainGlobals "min" = some none := (He.eqO_ok (c.fact 288 rfl))
  have n_range : PySem.W.nsIn K mainGlobals "range" = some none := (He.eqO_ok (c.fact 289 rfl))
  have n_repr : PySem.W.nsIn K mainGlobals "repr" = some none := (He.eqO_ok (c.fact 290 rfl))
  have n_set : PySem.W.nsIn K mainGlobals "set" = some none := (He.eqO_ok (c.fact 291 rfl))
  have n_sorted : PySem.W.nsIn K mainGlobals "sorted" = some none := (He.eqO_ok (c.fact 292 rfl))
  have n_str : PySem.W.nsIn K mainGlobals "str" = some none := (He.eqO_ok (c.fact 293 rfl))
  have n_super : PySem.W.nsIn K mainGlobals "super" = some none := (He.eqO_ok (c.fact 294 rfl))
  have n_tuple : PySem.W.nsIn K mainGlobals "tuple" = some none := (He.eqO_ok (c.fact 295 rfl))
  have n_zip : PySem.W.nsIn K mainGlobals "zip" = some none := (He.eqO_ok (c.fact 296 rfl))
  have xa_Never_text : PySem.W.findIn K (.ref (He.ga K "Never")) "text" = some (some (.ref (He.ma K (He.ga K "Wish") "text"))) := (He.eqO_ok (c.fact 297 rfl))
  have xb_Never_text : PySem.W.isFn K (.ref (He.ma K (He.ga K "Wish") "text")) = true := (c.fact 298 rfl)
  have xc_Never_text : PySem.W.keepIn K (.ref (He.ma K (He.ga K "Wish") "text")) = true := (c.fact 299 rfl)
  have xa_Blocks_text : PySem.W.findIn K (.ref (He.ga K "Blocks")) "text" = some (some (.ref (He.ma K (He.ga K "Wish") "text"))) := (He.eqO_ok (c.fact 300 rfl))
  have xb_Blocks_text : PySem.W.isFn K (.ref (He.ma K (He.ga K "Wish") "text")) = true := (c.fact 301 rfl)
  have xc_Blocks_text : PySem.W.keepIn K (.ref (He.ma K (He.ga K "Wish") "text")) = true := (c.fact 302 rfl)
  have xa_Behind_text : PySem.W.findIn K (.ref (He.ga K "Behind")) "text" = some (some (.ref (He.ma K (He.ga K "Wish") "text"))) := (He.eqO_ok (c.fact 303 rfl))
  have xb_Behind_text : PySem.W.isFn K (.ref (He.ma K (He.ga K "Wish") "text")) = true := (c.fact 304 rfl)
  have xc_Behind_text : PySem.W.keepIn K (.ref (He.ma K (He.ga K "Wish") "text")) = true := (c.fact 305 rfl)
  have xa_Both_text : PySem.W.findIn K (.ref (He.ga K "Both")) "text" = some (some (.ref (He.ma K (He.ga K "Wish") "text"))) := (He.eqO_ok (c.fact 306 rfl))
  have xb_Both_text : PySem.W.isFn K (.ref (He.ma K (He.ga K "Wish") "text")) = true := (c.fact 307 rfl)
  have xc_Both_text : PySem.W.keepIn K (.ref (He.ma K (He.ga K "Wish") "text")) = true := (c.fact 308 rfl)
  have xa_Either_text : PySem.W.findIn K (.ref (He.ga K "Either")) "text" = some (some (.ref (He.ma K (He.ga K "Wish") "text"))) := (He.eqO_ok (c.fact 309 rfl))
  have xb_Either_text : PySem.W.isFn K (.ref (He.ma K (He.ga K "Wish") "text")) = true := (c.fact 310 rfl)
  have xc_Either_text : PySem.W.keepIn K (.ref (He.ma K (He.ga K "Wish") "text")) = true := (c.fact 311 rfl)
  have xa_Named_text : PySem.W.findIn K (.ref (He.ga K "Named")) "text" = some (some (.ref (He.ma K (He.ga K "Wish") "text"))) := (He.eqO_ok (c.fact 312 rfl))
  have xb_Named_text : PySem.W.isFn K (.ref (He.ma K (He.ga K "Wish") "text")) = true := (c.fact 313 rfl)
  have xc_Named_text : PySem.W.keepIn K (.ref (He.ma K (He.ga K "Wish") "text")) = true := (c.fact 314 rfl)
  have xa_Never_tokens : PySem.W.findIn K (.ref (He.ga K "Never")) "tokens" = some (some (.ref (He.ma K (He.ga K "Wish") "tokens"))) := (He.eqO_ok (c.fact 315 rfl))
  have xb_Never_tokens : PySem.W.isFn K (.ref (He.ma K (He.ga K "Wish") "tokens")) = true := (c.fact 316 rfl)
  have xc_Never_tokens : PySem.W.keepIn K (.ref (He.ma K (He.ga K "Wish") "tokens")) = true := (c.fact 317 rfl)
  have xa_Blocks_tokens : PySem.W.findIn K (.ref (He.ga K "Blocks")) "tokens" = some (some (.ref (He.ma K (He.ga K "Wish") "tokens"))) := (He.eqO_ok (c.fact 318 rfl))
  have xb_Blocks_tokens : PySem.W.isFn K (.ref (He.ma K (He.ga K "Wish") "tokens")) = true := (c.fact 319 rfl)
  have xc_Blocks_tokens : PySem.W.keepIn K (.ref (He.ma K (He.ga K "Wish") "tokens")) = true := (c.fact 320 rfl)
  have xa_Behind_tokens : PySem.W.findIn K (.ref (He.ga K "Behind")) "tokens" = some (some (.ref (He.ma K (He.ga K "Wish") "tokens"))) := (He.eqO_ok (c.fact 321 rfl))
  have xb_Behind_tokens : PySem.W.isFn K (.ref (He.ma K (He.ga K "Wish") "tokens")) = true := (c.fact 322 rfl)
  have xc_Behind_tokens : PySem.W.keepIn K (.ref (He.ma K (He.ga K "Wish") "tokens")) = true := (c.fact 323 rfl)
  have xa_Both_tokens : PySem.W.findIn K (.ref (He.ga K "Both")) "tokens" = some (some (.ref (He.ma K (He.ga K "Wish") "tokens"))) := (He.eqO_ok (c.fact 324 rfl))
  have xb_Both_tokens : PySem.W.isFn K (.ref (He.ma K (He.ga K "Wish") "tokens")) = true := (c.fact 325 rfl)
  have xc_Both_tokens : PySem.W.keepIn K (.ref (He.ma K (He.ga K "Wish") "tokens")) = true := (c.fact 326 rfl)
  have xa_Either_tokens : PySem.W.findIn K (.ref (He.ga K "Either")) "tokens" = some (some (.ref (He.ma K (He.ga K "Wish") "tokens"))) := (He.eqO_ok (c.fact 327 rfl))
  have xb_Either_tokens : PySem.W.isFn K (.ref (He.ma K (He.ga K "Wish") "tokens")) = true := (c.fact 328 rfl)
  have xc_Either_tokens : PySem.W.keepIn K (.ref (He.ma K (He.ga K "Wish") "tokens")) = true := (c.fact 329 rfl)
  have xa_Named_tokens : PySem.W.findIn K (.ref (He.ga K "Named")) "tokens" = some (some (.ref (He.ma K (He.ga K "Wish") "tokens"))) := (He.eqO_ok (c.fact 330 rfl))
  have xb_Named_tokens : PySem.W.isFn K (.ref (He.ma K (He.ga K "Wish") "tokens")) = true := (c.fact 331 rfl)
  have xc_Named_tokens : PySem.W.keepIn K (.ref (He.ma K (He.ga K "Wish") "tokens")) = true := (c.fact 332 rfl)
  have xa_Never_names : PySem.W.findIn K (.ref (He.ga K "Never")) "names" = some (some (.ref (He.ma K (He.ga K "Wish") "names"))) := (He.eqO_ok (c.fact 333 rfl))
  have xb_Never_names : PySem.W.isFn K (.ref (He.ma K (He.ga K "Wish") "names")) = true := (c.fact 334 rfl)
  have xc_Never_names : PySem.W.keepIn K (.ref (He.ma K (He.ga K "Wish") "names")) = true := (c.fact 335 rfl)
  have xa_Blocks_names : PySem.W.findIn K (.ref (He.ga K "Blocks")) "names" = some (some (.ref (He.ma K (He.ga K "Wish") "names"))) := (He.eqO_ok (c.fact 336 rfl))
  have xb_Blocks_names : PySem.W.isFn K (.ref (He.ma K (He.ga K "Wish") "names")) = true := (c.fact 337 rfl)
  have xc_Blocks_names : PySem.W.keepIn K (.ref (He.ma K (He.ga K "Wish") "names")) = true := (c.fact 338 rfl)
  have xa_Behind_names : PySem.W.findIn K (.ref (He.ga K "Behind")) "names" = some (some (.ref (He.ma K (He.ga K "Wish") "names"))) := (He.eqO_ok (c.fact 339 rfl))
  have xb_Behind_names : PySem.W.isFn K (.ref (He.ma K (He.ga K "Wish") "names")) = true := (c.fact 340 rfl)
  have xc_Behind_names : PySem.W.keepIn K (.ref (He.ma K (He.ga K "Wish") "names")) = true := (c.fact 341 rfl)
  have xa_Both_names : PySem.W.findIn K (.ref (He.ga K "Both")) "names" = some (some (.ref (He.ma K (He.ga K "Wish") "names"))) := (He.eqO_ok (c.fact 342 rfl))
  have xb_Both_names : PySem.W.isFn K (.ref (He.ma K (He.ga K "Wish") "names")) = true := (c.fact 343 rfl)
  have xc_Both_names : PySem.W.keepIn K (.ref (He.ma K (He.ga K "Wish") "names")) = true := (c.fact 344 rfl)
  have xa_Either_names : PySem.W.findIn K (.ref (He.ga K "Either")) "names" = some (some (.ref (He.ma K (He.ga K "Wish") "names"))) := (He.eqO_ok (c.fact 345 rfl))
  have xb_Either_names : PySem.W.isFn K (.ref (He.ma K (He.ga K "Wish") "names")) = true := (c.fact 346 rfl)
  have xc_Either_names : PySem.W.keepIn K (.ref (He.ma K (He.ga K "Wish") "names")) = true := (c.fact 347 rfl)
  have xa_Named_names : PySem.W.findIn K (.ref (He.ga K "Named")) "names" = some (some (.ref (He.ma K (He.ga K "Wish") "names"))) := (He.eqO_ok (c.fact 348 rfl))
  have xb_Named_names : PySem.W.isFn K (.ref (He.ma K (He.ga K "Wish") "names")) = true := (c.fact 349 rfl)
  have xc_Named_names : PySem.W.keepIn K (.ref (He.ma K (He.ga K "Wish") "names")) = true := (c.fact 350 rfl)
  have xa_Both_needed : PySem.W.findIn K (.ref (He.ga K "Both")) "needed" = some (some (.ref (He.ma K (He.ga K "Wish") "needed"))) := (He.eqO_ok (c.fact 351 rfl))
  have xb_Both_needed : PySem.W.isFn K (.ref (He.ma K (He.ga K "Wish") "needed")) = true := (c.fact 352 rfl)
  have xc_Both_needed : PySem.W.keepIn K (.ref (He.ma K (He.ga K "Wish") "needed")) = true := (c.fact 353 rfl)
  have xa_Either_needed : PySem.W.findIn K (.ref (He.ga K "Either")) "needed" = some (some (.ref (He.ma K (He.ga K "Wish") "needed"))) := (He.eqO_ok (c.fact 354 rfl))
  have xb_Either_needed : PySem.W.isFn K (.ref (He.ma K (He.ga K "Wish") "needed")) = true := (c.fact 355 rfl)
  have xc_Either_needed : PySem.W.keepIn K (.ref (He.ma K (He.ga K "Wish") "needed")) = true := (c.fact 356 rfl)
  have xa_Named_needed : PySem.W.findIn K (.ref (He.ga K "Named")) "needed" = some (some (.ref (He.ma K (He.ga K "Wish") "needed"))) := (He.eqO_ok (c.fact 357 rfl))
  have xb_Named_needed : PySem.W.isFn K (.ref (He.ma K (He.ga K "Wish") "needed")) = true := (c.fact 358 rfl)
  have xc_Named_needed : PySem.W.keepIn K (.ref (He.ma K (He.ga K "Wish") "needed")) = true := (c.fact 359 rfl)
  have xa_Never_needed : PySem.W.findIn K (.ref (He.ga K "Never")) "needed" = some (some (.ref (He.ma K (He.ga K "Words") "needed"))) := (He.eqO_ok (c.fact 360 rfl))
  have xb_Never_needed : PySem.W.isFn K (.ref (He.ma K (He.ga K "Words") "needed")) = true := (c.fact 361 rfl)
  have xc_Never_needed : PySem.W.keepIn K (.ref (He.ma K (He.ga K "Words") "needed")) = true := (c.fact 362 rfl)
  have xa_Blocks_needed : PySem.W.findIn K (.ref (He.ga K "Blocks")) "needed" = some (some (.ref (He.ma K (He.ga K "Words") "needed"))) := (He.eqO_ok (c.fact 363 rfl))
  have xb_Blocks_needed : PySem.W.isFn K (.ref (He.ma K (He.ga K "Words") "needed")) = true := (c.fact 364 rfl)
  have xc_Blocks_needed : PySem.W.keepIn K (.ref (He.ma K (He.ga K "Words") "needed")) = true := (c.fact 365 rfl)
  have xe_Never : PySem.W.findIn K (.ref (He.ga K "Never")) "__eq__" = some (some (.ref (He.ma K (He.ga K "Wish") "__eq__"))) := (He.eqO_ok (c.fact 366 rfl))
  have xf_Never : PySem.W.isFn K (.ref (He.ma K (He.ga K "Wish") "__eq__")) = true := (c.fact 367 rfl)
  have xn_Never : PySem.W.findIn K (.ref (He.ga K "Never")) "__ne__" = some (some (.builtin "object.__ne__")) := (He.eqO_ok (c.fact 368 rfl))
  have xe_Blocks : PySem.W.findIn K (.ref (He.ga K "Blocks")) "__eq__" = some (some (.ref (He.ma K (He.ga K "Wish") "__eq__"))) := (He.eqO_ok (c.fact 369 rfl))
  have xf_Blocks : PySem.W.isFn K (.ref (He.ma K (He.ga K "Wish") "__eq__")) = true := (c.fact 370 rfl)
  have xn_Blocks : PySem.W.findIn K (.ref (He.ga K "Blocks")) "__ne__" = some (some (.builtin "object.__ne__")) := (He.eqO_ok (c.fact 371 rfl))
  have xe_Behind : PySem.W.findIn K (.ref (He.ga K "Behind")) "__eq__" = some (some (.ref (He.ma K (He.ga K "Wish") "__eq__"))) := (He.eqO_ok (c.fact 372 rfl))
  have xf_Behind : PySem.W.isFn K (.ref (He.ma K (He.ga K "Wish") "__eq__")) = true := (c.fact 373 rfl)
  have xn_Behind : PySem.W.findIn K (.ref (He.ga K "Behind")) "__ne__" = some (some (.builtin "object.__ne__")) := (He.eqO_ok (c.fact 374 rfl))
  have xe_Both : PySem.W.findIn K (.ref (He.ga K "Both")) "__eq__" = some (some (.ref (He.ma K (He.ga K "Wish") "__eq__"))) := (He.eqO_ok (c.fact 375 rfl))
  have xf_Both : PySem.W.isFn K (.ref (He.ma K (He.ga K "Wish") "__eq__")) = true := (c.fact 376 rfl)
  have xn_Both : PySem.W.findIn K (.ref (He.ga K "Both")) "__ne__" = some (some (.builtin "object.__ne__")) := (He.eqO_ok (c.fact 377 rfl))
  have xe_Either : PySem.W.findIn K (.ref (He.ga K "Either")) "__eq__" = some (some (.ref (He.ma K (He.ga K "Wish") "__eq__"))) := (He.eqO_ok (c.fact 378 rfl))
  have xf_Either : PySem.W.isFn K (.ref (He.ma K (He.ga K "Wish") "__eq__")) = true := (c.fact 379 rfl)
  have xn_Either : PySem.W.findIn K (.ref (He.ga K "Either")) "__ne__" = some (some (.builtin "object.__ne__")) := (He.eqO_ok (c.fact 380 rfl))
  have xe_Named : PySem.W.findIn K (.ref (He.ga K "Named")) "__eq__" = some (some (.ref (He.ma K (He.ga K "Wish") "__eq__"))) := (He.eqO_ok (c.fact 381 rfl))
  have xf_Named : PySem.W.isFn K (.ref (He.ma K (He.ga K "Wish") "__eq__")) = true := (c.fact 382 rfl)
  have xn_Named : PySem.W.findIn K (.ref (He.ga K "Named")) "__ne__" = some (some (.builtin "object.__ne__")) := (He.eqO_ok (c.fact 383 rfl))
  have xq_Never_Never : PySem.W.notFirst K (He.ga K "Never") (.ref (He.ga K "Never")) = true := (c.fact 384 rfl)
  have xq_Never_Blocks : PySem.W.notFirst K (He.ga K "Never") (.ref (He.ga K "Blocks")) = true := (c.fact 385 rfl)
  have xq_Never_Behind : PySem.W.notFirst K (He.ga K "Never") (.ref (He.ga K "Behind")) = true := (c.fact 386 rfl)
  have xq_Never_Both : PySem.W.notFirst K (He.ga K "Never") (.ref (He.ga K "Both")) = true := (c.fact 387 rfl)
  have xq_Never_Either : PySem.W.notFirst K (He.ga K "Never") (.ref (He.ga K "Either")) = true := (c.fact 388 rfl)
  have xq_Never_Named : PySem.W.notFirst K (He.ga K "Never") (.ref (He.ga K "Named")) = true := (c.fact 389 rfl)
  have xq_Blocks_Never : PySem.W.notFirst K (He.ga K "Blocks") (.ref (He.ga K "Never")) = true := (c.fact 390 rfl)
  have xq_Blocks_Blocks : PySem.W.notFirst K (He.ga K "Blocks") (.ref (He.ga K "Blocks")) = true := (c.fact 391 rfl)
  have xq_Blocks_Behind : PySem.W.notFirst K (He.ga K "Blocks") (.ref (He.ga K "Behind")) = true := (c.fact 392 rfl)
  have xq_Blocks_Both : PySem.W.notFirst K (He.ga K "Blocks") (.ref (He.ga K "Both")) = true := (c.fact 393 rfl)
  have xq_Blocks_Either : PySem.W.notFirst K (He.ga K "Blocks") (.ref (He.ga K "Either")) = true := (c.fact 394 rfl)
  have xq_Blocks_Named : PySem.W.notFirst K (He.ga K "Blocks") (.ref (He.ga K "Named")) = true := (c.fact 395 rfl)
  have xq_Behind_Never : PySem.W.notFirst K (He.ga K "Behind") (.ref (He.ga K "Never")) = true := (c.fact 396 rfl)
  have xq_Behind_Blocks : PySem.W.notFirst K (He.ga K "Behind") (.ref (He.ga K "Blocks")) = true := (c.fact 397 rfl)
  have xq_Behind_Behind : PySem.W.notFirst K (He.ga K "Behind") (.ref (He.ga K "Behind")) = true := (c.fact 398 rfl)
  have xq_Behind_Both : PySem.W.notFirst K (He.ga K "Behind") (.ref (He.ga K "Both")) = true := (c.fact 399 rfl)
  have xq_Behind_Either : PySem.W.notFirst K (He.ga K "Behind") (.ref (He.ga K "Either")) = true := (c.fact 400 rfl)
  have xq_Behind_Named : PySem.W.notFirst K (He.ga K "Behind") (.ref (He.ga K "Named")) = true := (c.fact 401 rfl)
  have xq_Both_Never : PySem.W.notFirst K (He.ga K "Both") (.ref (He.ga K "Never")) = true := (c.fact 402 rfl)
  have xq_Both_Blocks : PySem.W.notFirst K (He.ga K "Both") (.ref (He.ga K "Blocks")) = true := (c.fact 403 rfl)
  have xq_Both_Behind : PySem.W.notFirst K (He.ga K "Both") (.ref (He.ga K "Behind")) = true := (c.fact 404 rfl)
  have xq_Both_Both : PySem.W.notFirst K (He.ga K "Both") (.ref (He.ga K "Both")) = true := (c.fact 405 rfl)
  have xq_Both_Either : PySem.W.notFirst K (He.ga K "Both") (.ref (He.ga K "Either")) = true := (c.fact 406 rfl)
  have xq_Both_Named : PySem.W.notFirst K (He.ga K "Both") (.ref (He.ga K "Named")) = true := (c.fact 407 rfl)
  have xq_Either_Never : PySem.W.notFirst K (He.ga K "Either") (.ref (He.ga K "Never")) = true := (c.fact 408 rfl)
  have xq_Either_Blocks : PySem.W.notFirst K (He.ga K "Either") (.ref (He.ga K "Blocks")) = true := (c.fact 409 rfl)
  have xq_Either_Behind : PySem.W.notFirst K (He.ga K "Either") (.ref (He.ga K "Behind")) = true := (c.fact 410 rfl)
  have xq_Either_Both : PySem.W.notFirst K (He.ga K "Either") (.ref (He.ga K "Both")) = true := (c.fact 411 rfl)
  have xq_Either_Either : PySem.W.notFirst K (He.ga K "Either") (.ref (He.ga K "Either")) = true := (c.fact 412 rfl)
  have xq_Either_Named : PySem.W.notFirst K (He.ga K "Either") (.ref (He.ga K "Named")) = true := (c.fact 413 rfl)
  have xq_Named_Never : PySem.W.notFirst K (He.ga K "Named") (.ref (He.ga K "Never")) = true := (c.fact 414 rfl)
  have xq_Named_Blocks : PySem.W.notFirst K (He.ga K "Named") (.ref (He.ga K "Blocks")) = true := (c.fact 415 rfl)
  have xq_Named_Behind : PySem.W.notFirst K (He.ga K "Named") (.ref (He.ga K "Behind")) = true := (c.fact 416 rfl)
  have xq_Named_Both : PySem.W.notFirst K (He.ga K "Named") (.ref (He.ga K "Both")) = true := (c.fact 417 rfl)
  have xq_Named_Either : PySem.W.notFirst K (He.ga K "Named") (.ref (He.ga K "Either")) = true := (c.fact 418 rfl)
  have xq_Named_Named : PySem.W.notFirst K (He.ga K "Named") (.ref (He.ga K "Named")) = true := (c.fact 419 rfl)
  have xs_Never : PySem.W.subIn K (.ref (He.ga K "Never")) (.ref (He.ga K "Wish")) = some true := (of_decide_eq_true (c.fact 420 rfl))
  have xs_Blocks : PySem.W.subIn K (.ref (He.ga K "Blocks")) (.ref (He.ga K "Wish")) = some true := (of_decide_eq_true (c.fact 421 rfl))
  have xs_Behind : PySem.W.subIn K (.ref (He.ga K "Behind")) (.ref (He.ga K "Wish")) = some true := (of_decide_eq_true (c.fact 422 rfl))
  have xs_Both : PySem.W.subIn K (.ref (He.ga K "Both")) (.ref (He.ga K "Wish")) = some true := (of_decide_eq_true (c.fact 423 rfl))
  have xs_Either : PySem.W.subIn K (.ref (He.ga K "Either")) (.ref (He.ga K "Wish")) = some true := (of_decide_eq_true (c.fact 424 rfl))
  have xs_Named : PySem.W.subIn K (.ref (He.ga K "Named")) (.ref (He.ga K "Wish")) = some true := (of_decide_eq_true (c.fact 425 rfl))
  have xo_Never_BitAnd : PySem.W.selfFirst K (He.ga K "Never") = true := (c.fact 426 rfl)
  have xp_Never_BitAnd : PySem.W.findIn K (.ref (He.ga K "Never")) (PySem.dunder Operator.BitAnd.info.snd) = some (some (.ref (He.ma K (He.ga K "Wish") "__and__"))) := (He.eqO_ok (c.fact 427 rfl))
  have xt_Never_BitAnd : PySem.W.isFn K (.ref (He.ma K (He.ga K "Wish") "__and__")) = true := (c.fact 428 rfl)
  have xu_Never_BitAnd : PySem.W.findIn K (.ref (He.ga K "Never")) (dunderR Operator.BitAnd.info.snd) = some none := (He.eqO_ok (c.fact 429 rfl))
  have xo_Blocks_BitAnd : PySem.W.selfFirst K (He.ga K "Blocks") = true := (c.fact 430 rfl)
  have xp_Blocks_BitAnd : PySem.W.findIn K (.ref (He.ga K "Blocks")) (PySem.dunder Operator.BitAnd.info.snd) = some (some (.ref (He.ma K (He.ga K "Wish") "__and__"))) := (He.eqO_ok (c.fact 431 rfl))
  have xt_Blocks_BitAnd : PySem.W.isFn K (.ref (He.ma K (He.ga K "Wish") "__and__")) = true := (c.fact 432 rfl)
  have xu_Blocks_BitAnd : PySem.W.findIn K (.ref (He.ga K "Blocks")) (dunderR Operator.BitAnd.info.snd) = some none := (He.eqO_ok (c.fact 433 rfl))
  have xo_Behind_BitAnd : PySem.W.selfFirst K (He.ga K "Behind") = true := (c.fact 434 rfl)
  have xp_Behind_BitAnd : PySem.W.findIn K (.ref (He.ga K "Behind")) (PySem.dunder Operator.BitAnd.info.snd) = some (some (.ref (He.ma K (He.ga K "Wish") "__and__"))) := (He.eqO_ok (c.fact 435 rfl))
  have xt_Behind_BitAnd : PySem.W.isFn K (.ref (He.ma K (He.ga K "Wish") "__and__")) = true := (c.fact 436 rfl)
  have xu_Behind_BitAnd : PySem.W.findIn K (.ref (He.ga K "Behind")) (dunderR Operator.BitAnd.info.snd) = some none := (He.eqO_ok (c.fact 437 rfl))
  have xo_Both_BitAnd : PySem.W.selfFirst K (He.ga K "Both") = true := (c.fact 438 rfl)
  have xp_Both_BitAnd : PySem.W.findIn K (.ref (He.ga K "Both")) (PySem.dunder Operator.BitAnd.info.snd) = some (some (.ref (He.ma K (He.ga K "Wish") "__and__"))) := (He.eqO_ok (c.fact 439 rfl))
  have xt_Both_BitAnd : PySem.W.isFn K (.ref (He.ma K (He.ga K "Wish") "__and__")) = true := (c.fact 440 rfl)
  have xu_Both_BitAnd : PySem.W.findIn K (.ref (He.ga K "Both")) (dunderR Operator.BitAnd.info.snd) = some none := (He.eqO_ok (c.fact 441 rfl))
  have xo_Either_BitAnd : PySem.W.selfFirst K (He.ga K "Either") = true := (c.fact 442 rfl)
  have xp_Either_BitAnd : PySem.W.findIn K (.ref (He.ga K "Either")) (PySem.dunder Operator.BitAnd.info.snd) = some (some (.ref (He.ma K (He.ga K "Wish") "__and__"))) := (He.eqO_ok (c.fact 443 rfl))
  have xt_Either_BitAnd : PySem.W.isFn K (.ref (He.ma K (He.ga K "Wish") "__and__")) = true := (c.fact 444 rfl)
  have xu_Either_BitAnd : PySem.W.findIn K (.ref (He.ga K "Either")) (dunderR Operator.BitAnd.info.snd) = some none := (He.eqO_ok (c.fact 445 rfl))
  have xo_Named_BitAnd : PySem.W.selfFirst K (He.ga K "Named") = true := (c.fact 446 rfl)
  have xp_Named_BitAnd : PySem.W.findIn K (.ref (He.ga K "Named")) (PySem.dunder Operator.BitAnd.info.snd) = some (some (.ref (He.ma K (He.ga K "Wish") "__and__"))) := (He.eqO_ok (c.fact 447 rfl))
  have xt_Named_BitAnd : PySem.W.isFn K (.ref (He.ma K (He.ga K "Wish") "__and__")) = true := (c.fact 448 rfl)
  have xu_Named_BitAnd : PySem.W.findIn K (.ref (He.ga K "Named")) (dunderR Operator.BitAnd.info.snd) = some none := (He.eqO_ok (c.fact 449 rfl))
  have xo_Never_BitOr : PySem.W.selfFirst K (He.ga K "Never") = true := (c.fact 450 rfl)
  have xp_Never_BitOr : PySem.W.findIn K (.ref (He.ga K "Never")) (PySem.dunder Operator.BitOr.info.snd) = some (some (.ref (He.ma K (He.ga K "Wish") "__or__"))) := (He.eqO_ok (c.fact 451 rfl))
  have xt_Never_BitOr : PySem.W.isFn K (.ref (He.ma K (He.ga K "Wish") "__or__")) = true := (c.fact 452 rfl)
  have xu_Never_BitOr : PySem.W.findIn K (.ref (He.ga K "Never")) (dunderR Operator.BitOr.info.snd) = some none := (He.eqO_ok (c.fact 453 rfl))
  have xo_Blocks_BitOr : PySem.W.selfFirst K (He.ga K "Blocks") = true := (c.fact 454 rfl)
  have xp_Blocks_BitOr : PySem.W.findIn K (.ref (He.ga K "Blocks")) (PySem.dunder Operator.BitOr.info.snd) = some (some (.ref (He.ma K (He.ga K "Wish") "__or__"))) := (He.eqO_ok (c.fact 455 rfl))
  have xt_Blocks_BitOr : PySem.W.isFn K (.ref (He.ma K (He.ga K "Wish") "__or__")) = true := (c.fact 456 rfl)
  have xu_Blocks_BitOr : PySem.W.findIn K (.ref (He.ga K "Blocks")) (dunderR Operator.BitOr.info.snd) = some none := (He.eqO_ok (c.fact 457 rfl))
  have xo_Behind_BitOr : PySem.W.selfFirst K (He.ga K "Behind") = true := (c.fact 458 rfl)
  have xp_Behind_BitOr : PySem.W.findIn K (.ref (He.ga K "Behind")) (PySem.dunder Operator.BitOr.info.snd) = some (some (.ref (He.ma K (He.ga K "Wish") "__or__"))) := (He.eqO_ok (c.fact 459 rfl))
  have xt_Behind_BitOr : PySem.W.isFn K (.ref (He.ma K (He.ga K "Wish") "__or__")) = true := (c.fact 460 rfl)
  have xu_Behind_BitOr : PySem.W.findIn K (.ref (He.ga K "Behind")) (dunderR Operator.BitOr.info.snd) = some none := (He.eqO_ok (c.fact 461 rfl))
  have xo_Both_BitOr : PySem.W.selfFirst K (He.ga K "Both") = true := (c.fact 462 rfl)
  have xp_Both_BitOr : PySem.W.findIn K (.ref (He.ga K "Both")) (PySem.dunder Operator.BitOr.info.snd) = some (some (.ref (He.ma K (He.ga K "Wish") "__or__"))) := (He.eqO_ok (c.fact 463 rfl))
  have xt_Both_BitOr : PySem.W.isFn K (.ref (He.ma K (He.ga K "Wish") "__or__")) = true := (c.fact 464 rfl)
  have xu_Both_BitOr : PySem.W.findIn K (.ref (He.ga K "Both")) (dunderR Operator.BitOr.info.snd) = some none := (He.eqO_ok (c.fact 465 rfl))
  have xo_Either_BitOr : PySem.W.selfFirst K (He.ga K "Either") = true := (c.fact 466 rfl)
  have xp_Either_BitOr : PySem.W.findIn K (.ref (He.ga K "Either")) (PySem.dunder Operator.BitOr.info.snd) = some (some (.ref (He.ma K (He.ga K "Wish") "__or__"))) := (He.eqO_ok (c.fact 467 rfl))
  have xt_Either_BitOr : PySem.W.isFn K (.ref (He.ma K (He.ga K "Wish") "__or__")) = true := (c.fact 468 rfl)
  have xu_Either_BitOr : PySem.W.findIn K (.ref (He.ga K "Either")) (dunderR Operator.BitOr.info.snd) = some none := (He.eqO_ok (c.fact 469 rfl))
  have xo_Named_BitOr : PySem.W.selfFirst K (He.ga K "Named") = true := (c.fact 470 rfl)
  have xp_Named_BitOr : PySem.W.findIn K (.ref (He.ga K "Named")) (PySem.dunder Operator.BitOr.info.snd) = some (some (.ref (He.ma K (He.ga K "Wish") "__or__"))) := (He.eqO_ok (c.fact 471 rfl))
  have xt_Named_BitOr : PySem.W.isFn K (.ref (He.ma K (He.ga K "Wish") "__or__")) = true := (c.fact 472 rfl)
  have xu_Named_BitOr : PySem.W.findIn K (.ref (He.ga K "Named")) (dunderR Operator.BitOr.info.snd) = some none := (He.eqO_ok (c.fact 473 rfl))
  have xv_Never___repr__ : PySem.W.findIn K (.ref (He.ga K "Never")) "__repr__" = some (some (.ref (He.ma K (He.ga K "Wish") "__repr__"))) := (He.eqO_ok (c.fact 474 rfl))
  have xw_Never___repr__ : PySem.W.isFn K (.ref (He.ma K (He.ga K "Wish") "__repr__")) = true := (c.fact 475 rfl)
  have xv_Blocks___repr__ : PySem.W.findIn K (.ref (He.ga K "Blocks")) "__repr__" = some (some (.ref (He.ma K (He.ga K "Wish") "__repr__"))) := (He.eqO_ok (c.fact 476 rfl))
  have xw_Blocks___repr__ : PySem.W.isFn K (.ref (He.ma K (He.ga K "Wish") "__repr__")) = true := (c.fact 477 rfl)
  have xv_Behind___repr__ : PySem.W.findIn K (.ref (He.ga K "Behind")) "__repr__" = some (some (.ref (He.ma K (He.ga K "Wish") "__repr__"))) := (He.eqO_ok (c.fact 478 rfl))
  have xw_Behind___repr__ : PySem.W.isFn K (.ref (He.ma K (He.ga K "Wish") "__repr__")) = true := (c.fact 479 rfl)
  have xv_Both___repr__ : PySem.W.findIn K (.ref (He.ga K "Both")) "__repr__" = some (some (.ref (He.ma K (He.ga K "Wish") "__repr__"))) := (He.eqO_ok (c.fact 480 rfl))
  have xw_Both___repr__ : PySem.W.isFn K (.ref (He.ma K (He.ga K "Wish") "__repr__")) = true := (c.fact 481 rfl)
  have xv_Either___repr__ : PySem.W.findIn K (.ref (He.ga K "Either")) "__repr__" = some (some (.ref (He.ma K (He.ga K "Wish") "__repr__"))) := (He.eqO_ok (c.fact 482 rfl))
  have xw_Either___repr__ : PySem.W.isFn K (.ref (He.ma K (He.ga K "Wish") "__repr__")) = true := (c.fact 483 rfl)
  have xv_Named___repr__ : PySem.W.findIn K (.ref (He.ga K "Named")) "__repr__" = some (some (.ref (He.ma K (He.ga K "Wish") "__repr__"))) := (He.eqO_ok (c.fact 484 rfl))
  have xw_Named___repr__ : PySem.W.isFn K (.ref (He.ma K (He.ga K "Wish") "__repr__")) = true := (c.fact 485 rfl)
  exact ⟨⟨(He.ga K "_law_draws"), fd0, (He.ga K "_law_pull"), fd1, (He.ga K "_law_any"), fd2, (He.ga K "is_word"), fd3, (He.ga K "is_name"), fd4, (He.ma K (He.ga K "Wish") "__init__"), fd5, (He.ma K (He.ga K "Never") "__init__"), fd6, (Hk.dsA K (He.ma K (He.ga K "Never") "__init__")), (Hk.clA K (He.ma K (He.ga K "Never") "__init__")), (Hk.cdA K (He.ma K (He.ga K "Never") "__init__")), (He.ma K (He.ga K "Blocks") "__init__"), fd7, (Hk.dsA K (He.ma K (He.ga K "Blocks") "__init__")), (Hk.clA K (He.ma K (He.ga K "Blocks") "__init__")), (Hk.cdA K (He.ma K (He.ga K "Blocks") "__init__")), (He.ma K (He.ga K "Behind") "__init__"), fd8, (Hk.dsA K (He.ma K (He.ga K "Behind") "__init__")), (Hk.clA K (He.ma K (He.ga K "Behind") "__init__")), (Hk.cdA K (He.ma K (He.ga K "Behind") "__init__")), (He.ma K (He.ga K "Both") "__init__"), fd9, (Hk.dsA K (He.ma K (He.ga K "Both") "__init__")), (Hk.clA K (He.ma K (He.ga K "Both") "__init__")), (Hk.cdA K (He.ma K (He.ga K "Both") "__init__")), (He.ma K (He.ga K "Either") "__init__"), fd10, (Hk.dsA K (He.ma K (He.ga K "Either") "__init__")), (Hk.clA K (He.ma K (He.ga K "Either") "__init__")), (Hk.cdA K (He.ma K (He.ga K "Either") "__init__")), (He.ma K (He.ga K "Named") "__init__"), fd11, (Hk.dsA K (He.ma K (He.ga K "Named") "__init__")), (Hk.clA K (He.ma K (He.ga K "Named") "__init__")), (Hk.cdA K (He.ma K (He.ga K "Named") "__init__")), (He.ma K (He.ga K "Wish") "text"), fd12, (He.ga K "words_token"), fd13, (He.ga K "token_read"), fd14, (He.ga K "read_wish"), fd15, (He.ga K "_law_alphabet"), fd16, (He.ga K "_law_word"), fd17, (He.ga K "_law_words"), fd18, (He.ga K "_law_leaf"), fd19, (He.ga K "_law_tree"), fd20, (He.ga K "_law_tokens"), fd21, (He.ga K "_law_mixed"), fd22, (He.ga K "_law_names"), fd23, (He.ma K (He.ga K "Wish") "tokens"), fd24, (He.ma K (He.ga K "Wish") "names"), fd25, (He.ma K (He.ga K "Words") "needed"), fd26, (He.ma K (He.ga K "Wish") "needed"), fd27, (He.ma K (He.ga K "Behind") "needed"), fd28, (Hk.dsA K (He.ma K (He.ga K "Behind") "needed")), (Hk.clA K (He.ma K (He.ga K "Behind") "needed")), (Hk.cdA K (He.ma K (He.ga K "Behind") "needed")), (He.ma K (He.ga K "Wish") "__and__"), fd29, (He.ma K (He.ga K "Wish") "__or__"), fd30, (He.ma K (He.ga K "Wish") "__eq__"), fd31, (He.ma K (He.ga K "Wish") "__repr__"), fd32, (He.ga K "_law_made_words"), fd33, (He.ga K "_law_wish"), fd34, (He.ga K "_law_letters_of"), fd35, (He.ga K "_law_like"), fd36, (He.ga K "law"), fd37, (He.ga K "Wish"), (He.ga K "Words"), (He.ga K "Never"), (He.ga K "Blocks"), (He.ga K "Behind"), (He.ga K "Both"), (He.ga K "Either"), (He.ga K "Named")⟩, {
    g__law_draws := PySem.W.mg_of X G a0,
    F__law_draws := F0,
    g__law_pull := PySem.W.mg_of X G a1,
    F__law_pull := F1,
    g__law_any := PySem.W.mg_of X G a2,
    F__law_any := F2,
    g_is_word := PySem.W.mg_of X G a3,
    F_is_word := F3,
    g_is_name := PySem.W.mg_of X G a4,
    F_is_name := F4,
    m_Wish___init__ := ⟨a5, i5, k5⟩,
    F_Wish___init__ := F5,
    m_Never___init__ := ⟨a6, i6, k6⟩,
    F_Never___init__ := F6,
    kp_Never___init__ := kp6,
    st_Never___init__ := ⟨su6, sv6, sw6, sx6, sy6, by decide⟩,
    m_Blocks___init__ := ⟨a7, i7, k7⟩,
    F_Blocks___init__ := F7,
    kp_Blocks___init__ := kp7,
    st_Blocks___init__ := ⟨su7, sv7, sw7, sx7, sy7, by decide⟩,
    m_Behind___init__ := ⟨a8, i8, k8⟩,
    F_Behind___init__ := F8,
    kp_Behind___init__ := kp8,
    st_Behind___init__ := ⟨su8, sv8, sw8, sx8, sy8, by decide⟩,
    m_Both___init__ := ⟨a9, i9, k9⟩,
    F_Both___init__ := F9,
    kp_Both___init__ := kp9,
    st_Both___init__ := ⟨su9, sv9, sw9, sx9, sy9, by decide⟩,
    m_Either___init__ := ⟨a10, i10, k10⟩,
    F_Either___init__ := F10,
    kp_Either___init__ := kp10,
    st_Either___init__ := ⟨su10, sv10, sw10, sx10, sy10, by decide⟩,
    m_Named___init__ := ⟨a11, i11, k11⟩,
    F_Named___init__ := F11,
    kp_Named___init__ := kp11,
    st_Named___init__ := ⟨su11, sv11, sw11, sx11, sy11, by decide⟩,
    m_Wish_text := ⟨a12, i12, k12⟩,
    F_Wish_text := F12,
    g_words_token := PySem.W.mg_of X G a13,
    F_words_token := F13,
    g_token_read := PySem.W.mg_of X G a14,
    F_token_read := F14,
    g_read_wish := PySem.W.mg_of X G a15,
    F_read_wish := F15,
    g__law_alphabet := PySem.W.mg_of X G a16,
    F__law_alphabet := F16,
    g__law_word := PySem.W.mg_of X G a17,
    F__law_word := F17,
    g__law_words := PySem.W.mg_of X G a18,
    F__law_words := F18,
    g__law_leaf := PySem.W.mg_of X G a19,
    F__law_leaf := F19,
    g__law_tree := PySem.W.mg_of X G a20,
    F__law_tree := F20,
    g__law_tokens := PySem.W.mg_of X G a21,
    F__law_tokens := F21,
    g__law_mixed := PySem.W.mg_of X G a22,
    F__law_mixed := F22,
    g__law_names := PySem.W.mg_of X G a23,
    F__law_names := F23,
    m_Wish_tokens := ⟨a24, i24, k24⟩,
    F_Wish_tokens := F24,
    m_Wish_names := ⟨a25, i25, k25⟩,
    F_Wish_names := F25,
    m_Words_needed := ⟨a26, i26, k26⟩,
    F_Words_needed := F26,
    m_Wish_needed := ⟨a27, i27, k27⟩,
    F_Wish_needed := F27,
    m_Behind_needed := ⟨a28, i28, k28⟩,
    F_Behind_needed := F28,
    kp_Behind_needed := kp28,
    st_Behind_needed := ⟨su28, sv28, sw28, sx28, sy28, by decide⟩,
    m_Wish___and__ := ⟨a29, i29, k29⟩,
    F_Wish___and__ := F29,
    m_Wish___or__ := ⟨a30, i30, k30⟩,
    F_Wish___or__ := F30,
    m_Wish___eq__ := ⟨a31, i31, k31⟩,
    F_Wish___eq__ := F31,
    m_Wish___repr__ := ⟨a32, i32, k32⟩,
    F_Wish___repr__ := F32,
    g__law_made_words := PySem.W.mg_of X G a33,
    F__law_made_words := F33,
    g__law_wish := PySem.W.mg_of X G a34,
    F__law_wish := F34,
    g__law_letters_of := PySem.W.mg_of X G a35,
    F__law_letters_of := F35,
    g__law_like := PySem.W.mg_of X G a36,
    F__law_like := F36,
    g_law := PySem.W.mg_of X G a37,
    F_law := F37,
    g_Wish := PySem.W.mg_of X G aC_Wish,
    cl_Wish := ⟨pg_Wish, hd_Wish, po_Wish, sa_Wish⟩,
    is_Wish := (IsX.mk' ⟨⟨pg_Wish, hd_Wish, po_Wish, sa_Wish⟩, ia_Wish, ib_Wish, ic_Wish, im_Wish⟩ ks_Wish kt_Wish kn0_Wish kn1_Wish kn2_Wish kn3_Wish kn4_Wish kn5_Wish),
    mk_Wish := ⟨mk_Wish, a5, i5, kp_Wish⟩,
    eq_Wish := ⟨(IsX.mk' ⟨⟨pg_Wish, hd_Wish, po_Wish, sa_Wish⟩, ia_Wish, ib_Wish, ic_Wish, im_Wish⟩ ks_Wish kt_Wish kn0_Wish kn1_Wish kn2_Wish kn3_Wish kn4_Wish kn5_Wish), a31, i31, nf_Wish⟩,
    g_Words := PySem.W.mg_of X G aC_Words,
    cl_Words := ⟨pg_Words, hd_Words, po_Words, sa_Words⟩,
    is_Words := (IsX.mk' ⟨⟨pg_Words, hd_Words, po_Words, sa_Words⟩, ia_Words, ib_Words, ic_Words, im_Words⟩ ks_Words kt_Words kn0_Words kn1_Words kn2_Words kn3_Words kn4_Words kn5_Words),
    g_Never := PySem.W.mg_of X G aC_Never,
    cl_Never := ⟨pg_Never, hd_Never, po_Never, sa_Never⟩,
    is_Never := (IsX.mk' ⟨⟨pg_Never, hd_Never, po_Never, sa_Never⟩, ia_Never, ib_Never, ic_Never, im_Never⟩ ks_Never kt_Never kn0_Never kn1_Never kn2_Never kn3_Never kn4_Never kn5_Never),
    mk_Never := ⟨mk_Never, a6, i6, kp_Never⟩,
    no_Never_parts := no_Never_parts,
    no_Never_own_tokens := no_Never_own_tokens,
    no_Never_words := no_Never_words,
    g_Blocks := PySem.W.mg_of X G aC_Blocks,
    cl_Blocks := ⟨pg_Blocks, hd_Blocks, po_Blocks, sa_Blocks⟩,
    is_Blocks := (IsX.mk' ⟨⟨pg_Blocks, hd_Blocks, po_Blocks, sa_Blocks⟩, ia_Blocks, ib_Blocks, ic_Blocks, im_Blocks⟩ ks_Blocks kt_Blocks kn0_Blocks kn1_Blocks kn2_Blocks kn3_Blocks kn4_Blocks kn5_Blocks),
    mk_Blocks := ⟨mk_Blocks, a7, i7, kp_Blocks⟩,
    no_Blocks_parts := no_Blocks_parts,
    no_Blocks_own_tokens := no_Blocks_own_tokens,
    no_Blocks_words := no_Blocks_words,
    g_Behind := PySem.W.mg_of X G aC_Behind,
    cl_Behind := ⟨pg_Behind, hd_Behind, po_Behind, sa_Behind⟩,
    is_Behind := (IsX.mk' ⟨⟨pg_Behind, hd_Behind, po_Behind, sa_Behind⟩, ia_Behind, ib_Behind, ic_Behind, im_Behind⟩ ks_Behind kt_Behind kn0_Behind kn1_Behind kn2_Behind kn3_Behind kn4_Behind kn5_Behind),
    mk_Behind := ⟨mk_Behind, a8, i8, kp_Behind⟩,
    no_Behind_parts := no_Behind_parts,
    no_Behind_own_tokens := no_Behind_own_tokens,
    no_Behind_word := no_Behind_word,
    g_Both := PySem.W.mg_of X G aC_Both,
    cl_Both := ⟨pg_Both, hd_Both, po_Both, sa_Both⟩,
    is_Both := (IsX.mk' ⟨⟨pg_Both, hd_Both, po_Both, sa_Both⟩, ia_Both, ib_Both, ic_Both, im_Both⟩ ks_Both kt_Both kn0_Both kn1_Both kn2_Both kn3_Both kn4_Both kn5_Both),
    mk_Both := ⟨mk_Both, a9, i9, kp_Both⟩,
    no_Both_parts := no_Both_parts,
    no_Both_own_tokens := no_Both_own_tokens,
    g_Either := PySem.W.mg_of X G aC_Either,
    cl_Either := ⟨pg_Either, hd_Either, po_Either, sa_Either⟩,
    is_Either := (IsX.mk' ⟨⟨pg_Either, hd_Either, po_Either, sa_Either⟩, ia_Either, ib_Either, ic_Either, im_Either⟩ ks_Either kt_Either kn0_Either kn1_Either kn2_Either kn3_Either kn4_Either kn5_Either),
    mk_Either := ⟨mk_Either, a10, i10, kp_Either⟩,
    no_Either_parts := no_Either_parts,
    no_Either_own_tokens := no_Either_own_tokens,
    g_Named := PySem.W.mg_of X G aC_Named,
    cl_Named := ⟨pg_Named, hd_Named, po_Named, sa_Named⟩,
    is_Named := (IsX.mk' ⟨⟨pg_Named, hd_Named, po_Named, sa_Named⟩, ia_Named, ib_Named, ic_Named, im_Named⟩ ks_Named kt_Named kn0_Named kn1_Named kn2_Named kn3_Named kn4_Named kn5_Named),
    mk_Named := ⟨mk_Named, a11, i11, kp_Named⟩,
    no_Named_parts := no_Named_parts,
    no_Named_own_tokens := no_Named_own_tokens,
    no_Named_name := no_Named_name,
    sp_Wish___repr__ := ⟨a32, i32⟩,
    co_Blocks_HEAD := co_Blocks_HEAD,
    co_Never_HEAD := co_Never_HEAD,
    c_LETTERS := He.str_ok X G (c.fact 276 rfl),
    c_MOST_LETTERS := He.int_ok X G (c.fact 277 rfl),
    c_MOST_TOKENS := He.int_ok X G (c.fact 278 rfl),
    c_MOST_WORDS := He.int_ok X G (c.fact 279 rfl),
    c_MOST_LONG := He.int_ok X G (c.fact 280 rfl),
    n_all := PySem.W.mg_none_of X G n_all,
    n_bool := PySem.W.mg_none_of X G n_bool,
    n_enumerate := PySem.W.mg_none_of X G n_enumerate,
    n_int := PySem.W.mg_none_of X G n_int,
    n_isinstance := PySem.W.mg_none_of X G n_isinstance,
    n_len := PySem.W.mg_none_of X G n_len,
    n_list := PySem.W.mg_none_of X G n_list,
    n_min := PySem.W.mg_none_of X G n_min,
    n_range := PySem.W.mg_none_of X G n_range,
    n_repr := PySem.W.mg_none_of X G n_repr,
    n_set := PySem.W.mg_none_of X G n_set,
    n_sorted := PySem.W.mg_none_of X G n_sorted,
    n_str := PySem.W.mg_none_of X G n_str,
    n_super := PySem.W.mg_none_of X G n_super,
    n_tuple := PySem.W.mg_none_of X G n_tuple,
    n_zip := PySem.W.mg_none_of X G n_zip,
    mt_Never_text := ⟨xa_Never_text, xb_Never_text, xc_Never_text⟩,
    mt_Blocks_text := ⟨xa_Blocks_text, xb_Blocks_text, xc_Blocks_text⟩,
    mt_Behind_text := ⟨xa_Behind_text, xb_Behind_text, xc_Behind_text⟩,
    mt_Both_text := ⟨xa_Both_text, xb_Both_text, xc_Both_text⟩,
    mt_Either_text := ⟨xa_Either_text, xb_Either_text, xc_Either_text⟩,
    mt_Named_text := ⟨xa_Named_text, xb_Named_text, xc_Named_text⟩,
    mt_Never_tokens := ⟨xa_Never_tokens, xb_Never_tokens, xc_Never_tokens⟩,
    mt_Blocks_tokens := ⟨xa_Blocks_tokens, xb_Blocks_tokens, xc_Blocks_tokens⟩,
    mt_Behind_tokens := ⟨xa_Behind_tokens, xb_Behind_tokens, xc_Behind_tokens⟩,
    mt_Both_tokens := ⟨xa_Both_tokens, xb_Both_tokens, xc_Both_tokens⟩,
    mt_Either_tokens := ⟨xa_Either_tokens, xb_Either_tokens, xc_Either_tokens⟩,
    mt_Named_tokens := ⟨xa_Named_tokens, xb_Named_tokens, xc_Named_tokens⟩,
    mt_Never_names := ⟨xa_Never_names, xb_Never_names, xc_Never_names⟩,
    mt_Blocks_names := ⟨xa_Blocks_names, xb_Blocks_names, xc_Blocks_names⟩,
    mt_Behind_names := ⟨xa_Behind_names, xb_Behind_names, xc_Behind_names⟩,
    mt_Both_names := ⟨xa_Both_names, xb_Both_names, xc_Both_names⟩,
    mt_Either_names := ⟨xa_Either_names, xb_Either_names, xc_Either_names⟩,
    mt_Named_names := ⟨xa_Named_names, xb_Named_names, xc_Named_names⟩,
    mt_Both_needed := ⟨xa_Both_needed, xb_Both_needed, xc_Both_needed⟩,
    mt_Either_needed := ⟨xa_Either_needed, xb_Either_needed, xc_Either_needed⟩,
    mt_Named_needed := ⟨xa_Named_needed, xb_Named_needed, xc_Named_needed⟩,
    mt_Never_needed := ⟨xa_Never_needed, xb_Never_needed, xc_Never_needed⟩,
    mt_Blocks_needed := ⟨xa_Blocks_needed, xb_Blocks_needed, xc_Blocks_needed⟩,
    eqa_Never := ⟨(IsX.mk' ⟨⟨pg_Never, hd_Never, po_Never, sa_Never⟩, ia_Never, ib_Never, ic_Never, im_Never⟩ ks_Never kt_Never kn0_Never kn1_Never kn2_Never kn3_Never kn4_Never kn5_Never), xe_Never, xf_Never, xn_Never⟩,
    eqa_Blocks := ⟨(IsX.mk' ⟨⟨pg_Blocks, hd_Blocks, po_Blocks, sa_Blocks⟩, ia_Blocks, ib_Blocks, ic_Blocks, im_Blocks⟩ ks_Blocks kt_Blocks kn0_Blocks kn1_Blocks kn2_Blocks kn3_Blocks kn4_Blocks kn5_Blocks), xe_Blocks, xf_Blocks, xn_Blocks⟩,
    eqa_Behind := ⟨(IsX.mk' ⟨⟨pg_Behind, hd_Behind, po_Behind, sa_Behind⟩, ia_Behind, ib_Behind, ic_Behind, im_Behind⟩ ks_Behind kt_Behind kn0_Behind kn1_Behind kn2_Behind kn3_Behind kn4_Behind kn5_Behind), xe_Behind, xf_Behind, xn_Behind⟩,
    eqa_Both := ⟨(IsX.mk' ⟨⟨pg_Both, hd_Both, po_Both, sa_Both⟩, ia_Both, ib_Both, ic_Both, im_Both⟩ ks_Both kt_Both kn0_Both kn1_Both kn2_Both kn3_Both kn4_Both kn5_Both), xe_Both, xf_Both, xn_Both⟩,
    eqa_Either := ⟨(IsX.mk' ⟨⟨pg_Either, hd_Either, po_Either, sa_Either⟩, ia_Either, ib_Either, ic_Either, im_Either⟩ ks_Either kt_Either kn0_Either kn1_Either kn2_Either kn3_Either kn4_Either kn5_Either), xe_Either, xf_Either, xn_Either⟩,
    eqa_Named := ⟨(IsX.mk' ⟨⟨pg_Named, hd_Named, po_Named, sa_Named⟩, ia_Named, ib_Named, ic_Named, im_Named⟩ ks_Named kt_Named kn0_Named kn1_Named kn2_Named kn3_Named kn4_Named kn5_Named), xe_Named, xf_Named, xn_Named⟩,
    nf2_Never_Never := xq_Never_Never,
    nf2_Never_Blocks := xq_Never_Blocks,
    nf2_Never_Behind := xq_Never_Behind,
    nf2_Never_Both := xq_Never_Both,
    nf2_Never_Either := xq_Never_Either,
    nf2_Never_Named := xq_Never_Named,
    nf2_Blocks_Never := xq_Blocks_Never,
    nf2_Blocks_Blocks := xq_Blocks_Blocks,
    nf2_Blocks_Behind := xq_Blocks_Behind,
    nf2_Blocks_Both := xq_Blocks_Both,
    nf2_Blocks_Either := xq_Blocks_Either,
    nf2_Blocks_Named := xq_Blocks_Named,
    nf2_Behind_Never := xq_Behind_Never,
    nf2_Behind_Blocks := xq_Behind_Blocks,
    nf2_Behind_Behind := xq_Behind_Behind,
    nf2_Behind_Both := xq_Behind_Both,
    nf2_Behind_Either := xq_Behind_Either,
    nf2_Behind_Named := xq_Behind_Named,
    nf2_Both_Never := xq_Both_Never,
    nf2_Both_Blocks := xq_Both_Blocks,
    nf2_Both_Behind := xq_Both_Behind,
    nf2_Both_Both := xq_Both_Both,
    nf2_Both_Either := xq_Both_Either,
    nf2_Both_Named := xq_Both_Named,
    nf2_Either_Never := xq_Either_Never,
    nf2_Either_Blocks := xq_Either_Blocks,
    nf2_Either_Behind := xq_Either_Behind,
    nf2_Either_Both := xq_Either_Both,
    nf2_Either_Either := xq_Either_Either,
    nf2_Either_Named := xq_Either_Named,
    nf2_Named_Never := xq_Named_Never,
    nf2_Named_Blocks := xq_Named_Blocks,
    nf2_Named_Behind := xq_Named_Behind,
    nf2_Named_Both := xq_Named_Both,
    nf2_Named_Either := xq_Named_Either,
    nf2_Named_Named := xq_Named_Named,
    sb_Never := xs_Never,
    sb_Blocks := xs_Blocks,
    sb_Behind := xs_Behind,
    sb_Both := xs_Both,
    sb_Either := xs_Either,
    sb_Named := xs_Named,
    oi_Never_BitAnd := ⟨xo_Never_BitAnd, xp_Never_BitAnd, xt_Never_BitAnd, ⟨none, xu_Never_BitAnd, .inl rfl⟩⟩,
    oi_Blocks_BitAnd := ⟨xo_Blocks_BitAnd, xp_Blocks_BitAnd, xt_Blocks_BitAnd, ⟨none, xu_Blocks_BitAnd, .inl rfl⟩⟩,
    oi_Behind_BitAnd := ⟨xo_Behind_BitAnd, xp_Behind_BitAnd, xt_Behind_BitAnd, ⟨none, xu_Behind_BitAnd, .inl rfl⟩⟩,
    oi_Both_BitAnd := ⟨xo_Both_BitAnd, xp_Both_BitAnd, xt_Both_BitAnd, ⟨none, xu_Both_BitAnd, .inl rfl⟩⟩,
    oi_Either_BitAnd := ⟨xo_Either_BitAnd, xp_Either_BitAnd, xt_Either_BitAnd, ⟨none, xu_Either_BitAnd, .inl rfl⟩⟩,
    oi_Named_BitAnd := ⟨xo_Named_BitAnd, xp_Named_BitAnd, xt_Named_BitAnd, ⟨none, xu_Named_BitAnd, .inl rfl⟩⟩,
    oi_Never_BitOr := ⟨xo_Never_BitOr, xp_Never_BitOr, xt_Never_BitOr, ⟨none, xu_Never_BitOr, .inl rfl⟩⟩,
    oi_Blocks_BitOr := ⟨xo_Blocks_BitOr, xp_Blocks_BitOr, xt_Blocks_BitOr, ⟨none, xu_Blocks_BitOr, .inl rfl⟩⟩,
    oi_Behind_BitOr := ⟨xo_Behind_BitOr, xp_Behind_BitOr, xt_Behind_BitOr, ⟨none, xu_Behind_BitOr, .inl rfl⟩⟩,
    oi_Both_BitOr := ⟨xo_Both_BitOr, xp_Both_BitOr, xt_Both_BitOr, ⟨none, xu_Both_BitOr, .inl rfl⟩⟩,
    oi_Either_BitOr := ⟨xo_Either_BitOr, xp_Either_BitOr, xt_Either_BitOr, ⟨none, xu_Either_BitOr, .inl rfl⟩⟩,
    oi_Named_BitOr := ⟨xo_Named_BitOr, xp_Named_BitOr, xt_Named_BitOr, ⟨none, xu_Named_BitOr, .inl rfl⟩⟩,
    spa_Never___repr__ := ⟨xv_Never___repr__, xw_Never___repr__⟩,
    spa_Blocks___repr__ := ⟨xv_Blocks___repr__, xw_Blocks___repr__⟩,
    spa_Behind___repr__ := ⟨xv_Behind___repr__, xw_Behind___repr__⟩,
    spa_Both___repr__ := ⟨xv_Both___repr__, xw_Both___repr__⟩,
    spa_Either___repr__ := ⟨xv_Either___repr__, xw_Either___repr__⟩,
    spa_Named___repr__ := ⟨xv_Named___repr__, xw_Named___repr__⟩ }, rfl, F37, PySem.W.mg_of X G a37⟩
end Hd
end
end L2.DL.LW
open PySem PySem.W PySem.Calls PyProof.Rows
set_option maxHeartbeats 0 in
theorem PySem.Challenge.cw_lastslip_k60_wishes_told_holds : PySem.Challenge.rw_lastslip_k60_wishes_told.Holds := by
  w_on; o_law
  refine HandSHeadRun.head_any (r := PySem.W.OpenLaw.row PySem.Challenge.rw_lastslip_k60_wishes_told) (q := PySem.W.view (PySem.W.OpenLaw.row PySem.Challenge.rw_lastslip_k60_wishes_told).prog [42]) (H := L2.DL.LW.Hd.hk) (ob := L2.DL.LW.Hd.ob) (M := 14000) (loose := L2.DL.LW.Hd.names) (d := HandSHeadRun.topDef (PySem.W.OpenLaw.row PySem.Challenge.rw_lastslip_k60_wishes_told).prog 42) (kwd := []) L2.DL.LW.Hd.ob_eq
    (by kernel_rfl) (fun s => by kernel_rfl) L2.DL.LW.Hd.run (by kernel_rfl) (by kernel_rfl) (by kernel_rfl) (by rfl) (by first | assumption | decide +kernel) (by decide +kernel) ⟨rfl, rfl, rfl, rfl, rfl, by decide +kernel⟩ ?hw ?hc
  case hw => w_witness2
  case hc =>
    refine L2.walk_ofE (l := PySem.Challenge.rw_lastslip_k60_wishes_told) (n := 63) (k := 70) (x := "_law_script") (CX := L2.CX0) rfl (by decide) (by kernel_rfl) ⟨rfl, by decide, by decide⟩ ?F (fun _ _ _ _ z => z)
    intro w mg fa h Y G hmg0
    obtain ⟨K, KX, c⟩ := Y
    obtain ⟨a, T, ea, FL, hmg1⟩ := L2.DL.LW.Hd.txt KX G c
    have hmg : mg ("law" : PySem.Str) = some (.ref fa) := by
      have e : (HandSHeadRun.topDef (PySem.W.OpenLaw.row PySem.Challenge.rw_lastslip_k60_wishes_told).prog 42).name = ("law" : PySem.Str) := by kernel_rfl
      rw [← e]
      exact hmg0
    rw [hmg1] at hmg
    cases hmg
    have b := L2.FunD.bindsA (ps := ["_law_script"]) FL fun _ _ _ _ _ _ us hl => match us, hl with | [_], _ => rfl
    exact ⟨K, a.fd_law, L2.DL.LW.spLaw K, KX, fun s v => b s [v] rfl, fun H a ns hl _ hS => ⟨a, ns, rfl, hS, hl, fun _ => rfl⟩, fun base _ _ => ea ▸ L2.DL.LW.law_at T⟩
#print axioms PySem.Challenge.cw_lastslip_k60_wishes_told_holds
