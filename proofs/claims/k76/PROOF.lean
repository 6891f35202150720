import PyProof.Rows.All
import HandS.ForMost
import HandS.ForExc
import HandS.IsInst
import HandS.Flow
import HandS.AnyAll
import HandS.StrMore
import HandS.Sort
import HandS.SortKw
import HandS.SetKeys
import HandS.Defaults
import HandS.Deep
import HandS.MakeKw
import KE.SortData
import HandS.SortInts
import HandS.Text
import HandS.Zip
import HandS.Style
import PyProof.Rows.SetFrom
import KE.KOpsOwn
import PyProof.InstNe
import HandS.Set
import HandS.FStr
import HandS.ClsMeth
import HandS.MakeKwOnly
import KE.KCallOwn
import PyProof.ListStr
import HandS.DictComp
import KE.GoesZip
import KE.GoesMore
import HandS.Conv
import HandS.ExcInit
import HandS.Lambda
import KE.KDflt
import HandS.HotCalls
import HandS.ExcField
import KE.KTryMore
import HandS.Codes
import HandS.TryOnly
import PyProof.TwoTypes
import PyProof.StrReplace2
import HandS.RaiseMore
import HandS.EndOwn
import HandS.TupLe
import HandS.Exc
import PySem.Challenge.RW_lastslip_k76_whole_automata_as_texts
set_option Elab.async false
set_option linter.all false
set_option maxRecDepth 100000
set_option maxHeartbeats 4000000
namespace L2.DL
open PySem PySem.Spec PyProof.Rows

/-! ### data -/
/-- a text by its codes -/
abbrev S2 (l : List Nat) : Str := ⟨l.toArray⟩
theorem S2_eta (x : Str) : S2 x.cps.toList = x := rfl
inductive D where
  | non
  | bl (b : Bool)
  | int (i : Int)
  | str (s : List Nat)
  | lst (xs : List D)
  | tup (xs : List D)
  | dic (t lk : Bool) (ks vs : List D)
  | ins (C : Addr) (ns : List Str) (vs : List D)
  | raw (v : V)
  | bag
  | clo (i : Nat)

/-- a dict's key as data -/
def kD : Key → D
  | .inl i => .int i
  | .inr x => .str x.cps.toList
abbrev tD (k : List Key) : D := .tup (k.map kD)
/-- what a lambda of the law's def is -/
structure LamN where
  params : Arguments
  body : Expr
  scope : Scope
/-- the bag and its list; the table of code objects that lambdas write; the lambdas, the cells that they take, the def's name -/
structure Bz where
  bag : Option (Addr × Addr)
  tab : Option Addr
  lam : List LamN
  cl : List (Str × Addr)
  q : Str
def isB (z : Bz) (a : Addr) : Prop := (∃ l, z.bag = some (a, l)) ∨ z.tab = some a
def resB (z : Bz) (a : Addr) : Prop := (∃ p q, z.bag = some (p, q) ∧ (a = p ∨ a = q)) ∨ z.tab = some a
theorem isB.res {z : Bz} {a : Addr} (h : isB z a) : resB z a := by
  rcases h with ⟨l, e⟩ | h
  · exact .inl ⟨a, l, e, .inl rfl⟩
  · exact .inr h
/-- a code object of the name q -/
def CodeO (c : Addr) (q : Str) : HO := .ext fun h => ∃ (oc : Obj) (vs : Array Value) (t : Tok), h.get? c = some oc ∧ oc.data = .fields vs ∧ vs[1]? = some (.str q t)
/-- the table at P: each code object that it tells bears the name q -/
def TabS (H : Hp) (P : Addr) (q : Str) : Prop := ∃ ps : Array Value, H P = some (.tbl ps) ∧ TriplesOk ps.toList ∧ ∀ (pos : Pos) (cv : Value), codeAmong pos ps.toList = some cv → ∃ c, cv = .ref c ∧ H c = some (CodeO c q)
theorem codeO_tbl {c : Addr} {q : Str} {ps : Array Value} : CodeO c q ≠ .tbl ps := fun z => by
  unfold CodeO at z
  cases z
theorem codeO_tup {c : Addr} {q : Str} {ps : List V} : CodeO c q ≠ .tup ps := fun z => by
  unfold CodeO at z
  cases z
abbrev MS := Addr → Prop

/-- all objects but the bag's are kept -/
def Ext (z : Bz) (H H' : Hp) : Prop := ∀ a o, H a = some o → ¬ isB z a → H' a = some o
theorem Ext.refl {z : Bz} {H : Hp} : Ext z H H := fun _ _ e _ => e
theorem Ext.trans {z : Bz} {H H1 H2 : Hp} (a : Ext z H H1) (b : Ext z H1 H2) : Ext z H H2 := fun c o e n => b c o (a c o e n) n
theorem Ext.new {z : Bz} {H : Hp} {p : Addr} {o : HO} (hp : H p = none) : Ext z H (upd H p o) := fun a u e _ => by
  rw [upd_ne (ne_of_none e hp)]; exact e
/-- an address that does not stand in H -/
theorem Ext.upd {z : Bz} {H H1 : Hp} {p : Addr} {o : HO} (h : Ext z H H1) (hp : H p = none) : Ext z H (upd H1 p o) := fun a u e n => by
  rw [upd_ne (ne_of_none e hp)]; exact h a u e n

structure BagAt (H : Hp) (a l : Addr) : Prop where
  ne : a ≠ l
  ex : ∃ (ns : List Int) (at_ big seed cnt : Int), H a = some (.lst [.ref l, .int at_, .int big, .int seed, .int cnt]) ∧ H l = some (.lst (ns.map .int)) ∧ ns.length ≤ 63 ∧ 0 ≤ at_ ∧ 0 ≤ big ∧ 0 ≤ seed ∧ seed < 2147483549 ∧ 0 ≤ cnt
structure BagOk (z : Bz) (H : Hp) : Prop where
  bg : ∀ a l, z.bag = some (a, l) → BagAt H a l
  tb : ∀ P, z.tab = some P → TabS H P (z.q ++ "<lambda>")
  ap : ∀ a l P, z.bag = some (a, l) → z.tab = some P → a ≠ P ∧ l ≠ P
/-- a thing stands there, and it is no tuple -/
def NtO : HO → Prop
  | .tup _ => False
  | .ext _ => False
  | _ => True
def Nt (H : Hp) (a : Addr) : Prop := ∃ o, H a = some o ∧ NtO o
theorem Nt.ne {H : Hp} {a : Addr} (h : Nt H a) : H a ≠ none := by
  obtain ⟨o, e, _⟩ := h
  rw [e]; intro q; cases q
theorem Nt.tup {H : Hp} {a : Addr} {xs : List V} (h : Nt H a) : H a ≠ some (.tup xs) := fun q => by
  obtain ⟨o, e, n⟩ := h
  rw [e] at q
  cases q
  exact n
theorem Nt.code {H : Hp} {a c : Addr} {q : Str} (h : Nt H a) : H a ≠ some (CodeO c q) := fun e' => by
  obtain ⟨o, e, n⟩ := h
  rw [e] at e'
  cases e'
  exact n
theorem Nt.upd {H : Hp} {a : Addr} {o : HO} (h : NtO o) : Nt (upd H a o) a := ⟨o, upd_same, h⟩
theorem BagOk.alive {z : Bz} {H : Hp} (h : BagOk z H) {a : Addr} (r : resB z a) : Nt H a := by
  rcases r with ⟨p, q, e, h'⟩ | r
  · obtain ⟨_, ns, at_, big, seed, cnt, e1, e2, _⟩ := h.bg p q e
    rcases h' with rfl | rfl
    · exact ⟨_, e1, trivial⟩
    · exact ⟨_, e2, trivial⟩
  · obtain ⟨ps, e, _⟩ := h.tb a r
    exact ⟨_, e, trivial⟩
/-- a dict that may be walked is locked -/
def LkD : Bool → Hp → Addr → HO → Prop
  | false, H, a, u => H a = some u
  | true, H, a, u => ∃ o, H a = some (.frz o u)
theorem LkD.rd {lk : Bool} {H : Hp} {a : Addr} {u : HO} (h : LkD lk H a u) : Rd H a u := by
  cases lk
  · exact .inl h
  · exact .inr h

/-- the defaults of a lambda: none, or one number -/
def DefV (M : MS) (H : Hp) (dv : Value) : Prop := dv = .none ∨ ∃ (b : Addr) (n : Int), dv = .ref b ∧ H b = some (.tup [.int n]) ∧ ¬ M b
/-- a function that the i-th lambda made stands at a -/
structure CloAt (z : Bz) (M : MS) (H : Hp) (a : Addr) (i : Nat) : Prop where
  ex : ∃ (nd : LamN) (c' : Addr) (dv doc pm ctv : Value), z.lam[i]? = some nd ∧ (dv = .none ↔ nd.params.defaults = []) ∧
    H a = some (.ext fun h => h.get? a = some ({ cls := .type "function", data := .func { name := "<lambda>", qualname := z.q ++ "<lambda>", params := nd.params, body := .expr nd.body, scope := nd.scope, globals := mainGlobals, closure := cloFrom z.cl nd.scope.names [], defaults := dv, kwdefaults := .none, doc := doc, pyModule := pm, annotations := none, code := .ref c', closureTuple := ctv, builtins := builtinsNs } } : Obj)) ∧
    H c' = some (CodeO c' (z.q ++ "<lambda>")) ∧ DefV M H dv ∧ ¬ M a ∧ ¬ M c'
/-! ### how data stand in the heap -/
mutual
inductive Rp (z : Bz) (M : MS) (H : Hp) : V → D → Prop
  | non : Rp z M H .non .non
  | bl (b : Bool) : Rp z M H (.bl b) (.bl b)
  | int (i : Int) : Rp z M H (.int i) (.int i)
  | str (x : List Nat) : Rp z M H (.str (S2 x)) (.str x)
  | lst {a : Addr} {xs : List V} {ds : List D} : H a = some (.lst xs) → ¬ M a → RpL z M H xs ds → Rp z M H (.ref a) (.lst ds)
  | tup {a : Addr} {xs : List V} {ds : List D} : H a = some (.tup xs) → ¬ M a → RpL z M H xs ds → Rp z M H (.ref a) (.tup ds)
  | dicK {a : Addr} {kvs : List (Key × V)} {vs : List D} {lk : Bool} : LkD lk H a (.dK kvs) → ¬ M a → RpL z M H (kvs.map fun p => p.2) vs → Rp z M H (.ref a) (.dic false lk (kvs.map fun p => kD p.1) vs)
  | dicT {a : Addr} {kvs : List (List Key × V)} {vs : List D} {lk : Bool} : LkD lk H a (.dT kvs) → ¬ M a → RpL z M H (kvs.map fun p => p.2) vs → Rp z M H (.ref a) (.dic true lk (kvs.map fun p => tD p.1) vs)
  | ins {a C dx : Addr} {fs : List (Str × V)} {ds : List D} : H a = some (.ins C dx fs) → ("" : Str) ∉ (fs.map fun p => p.1) → ¬ M a → RpL z M H (fs.map fun p => p.2) ds → Rp z M H (.ref a) (.ins C (fs.map fun p => p.1) ds)
  | slf {a C dx : Addr} {fs : List (Str × V)} {ds : List D} : H a = some (.ins C dx fs) → ¬ M a → RpL z M H (fs.map fun p => p.2) ds → Rp z M H (.ref a) (.ins C ("" :: fs.map fun p => p.1) (.raw (.ref a) :: ds))
  | raw (v : V) : Rp z M H v (.raw v)
  | bag {a l : Addr} : z.bag = some (a, l) → Rp z M H (.ref a) .bag
  | clo {a : Addr} {i : Nat} : CloAt z M H a i → Rp z M H (.ref a) (.clo i)
inductive RpL (z : Bz) (M : MS) (H : Hp) : List V → List D → Prop
  | nil : RpL z M H [] []
  | cons {v : V} {vs : List V} {d : D} {ds : List D} : Rp z M H v d → RpL z M H vs ds → RpL z M H (v :: vs) (d :: ds)
inductive RpLL (z : Bz) (M : MS) (H : Hp) : List (List V) → List (List D) → Prop
  | nil : RpLL z M H [] []
  | cons {v : List V} {vs : List (List V)} {d : List D} {ds : List (List D)} : RpL z M H v d → RpLL z M H vs ds → RpLL z M H (v :: vs) (d :: ds)
end

def isDic : HO → Bool
  | .dK _ => true
  | .dT _ => true
  | .frz _ u => isDic u
  | _ => false
structure Tr (M : MS) (H : Hp) (M' : MS) (H' : Hp) : Prop where
  ex : ∀ a o, ¬ M a → H a = some o → H' a = some o ∧ ¬ M' a
theorem Tr.of {M M' : MS} {H H' : Hp} (h : ∀ a o, ¬ M a → H a = some o → H' a = some o ∧ ¬ M' a) : Tr M H M' H' := ⟨h⟩
theorem Tr.lk {M M' : MS} {H H' : Hp} (t : Tr M H M' H') {a : Addr} {lk : Bool} {u : HO} (n : ¬ M a) (h : LkD lk H a u) : LkD lk H' a u ∧ ¬ M' a := by
  cases lk
  · exact t.ex a _ n h
  · obtain ⟨o, e⟩ := h
    exact ⟨⟨o, (t.ex a _ n e).1⟩, (t.ex a _ n e).2⟩
theorem CloAt.tr {z : Bz} {M M' : MS} {H H' : Hp} (t : Tr M H M' H') {a : Addr} {i : Nat} (c : CloAt z M H a i) : CloAt z M' H' a i := by
  obtain ⟨nd, c', dv, doc, pm, ctv, e, hd, h1, h2, h3, n1, n2⟩ := c.ex
  refine ⟨nd, c', dv, doc, pm, ctv, e, hd, (t.ex _ _ n1 h1).1, (t.ex _ _ n2 h2).1, ?_, (t.ex _ _ n1 h1).2, (t.ex _ _ n2 h2).2⟩
  rcases h3 with h3 | ⟨b, n, e, h, nb⟩
  · exact .inl h3
  · exact .inr ⟨b, n, e, (t.ex _ _ nb h).1, (t.ex _ _ nb h).2⟩
mutual
theorem Rp.tr {z : Bz} {M M' : MS} {H H' : Hp} (t : Tr M H M' H') : ∀ {v : V} {d : D}, Rp z M H v d → Rp z M' H' v d
  | _, _, .non => .non
  | _, _, .bl b => .bl b
  | _, _, .int b => .int b
  | _, _, .str b => .str b
  | _, _, .lst r n l => .lst (t.ex _ _ n r).1 (t.ex _ _ n r).2 (l.tr t)
  | _, _, .tup r n l => .tup (t.ex _ _ n r).1 (t.ex _ _ n r).2 (l.tr t)
  | _, _, .dicK r n l => .dicK (t.lk n r).1 (t.lk n r).2 (l.tr t)
  | _, _, .dicT r n l => .dicT (t.lk n r).1 (t.lk n r).2 (l.tr t)
  | _, _, .ins r q n l => .ins (t.ex _ _ n r).1 q (t.ex _ _ n r).2 (l.tr t)
  | _, _, .slf r n l => .slf (t.ex _ _ n r).1 (t.ex _ _ n r).2 (l.tr t)
  | _, _, .raw v => .raw v
  | _, _, .bag e => .bag e
  | _, _, .clo c => .clo (c.tr t)
theorem RpL.tr {z : Bz} {M M' : MS} {H H' : Hp} (t : Tr M H M' H') : ∀ {v : List V} {d : List D}, RpL z M H v d → RpL z M' H' v d
  | _, _, .nil => .nil
  | _, _, .cons a b => .cons (a.tr t) (b.tr t)
theorem RpLL.tr {z : Bz} {M M' : MS} {H H' : Hp} (t : Tr M H M' H') : ∀ {v : List (List V)} {d : List (List D)}, RpLL z M H v d → RpLL z M' H' v d
  | _, _, .nil => .nil
  | _, _, .cons a b => .cons (a.tr t) (b.tr t)
end
end L2.DL

namespace L2.DL
open PySem PySem.Spec PyProof.Rows

/-! ### slots and the state -/
/-- what is raised: its class, its fields -/
structure XD where
  C : Addr
  ns : List Str
  vs : List D
inductive Sl where
  | no
  | val (d : D)
  | own (d : D)
  | ex (E : XK) (Ed : XD → Prop)
  | zz (p : Bz → (Addr → Prop) → Hp → Prop)
def Sl.dat : Sl → Option D
  | .no => none
  | .val d => some d
  | .own d => some d
  | .ex _ _ => none
  | .zz _ => none
def Mo (M0 : MS) (z : Bz) (ow : Nat → Option Addr) : MS := fun a => M0 a ∨ resB z a ∨ ∃ i, ow i = some a
inductive Ow (z : Bz) (M : MS) (H : Hp) : Addr → D → Prop
  | lst {a : Addr} {xs : List V} {ds : List D} : H a = some (.lst xs) → RpL z M H xs ds → Ow z M H a (.lst ds)
  | dicK {a : Addr} {kvs : List (Key × V)} {vs : List D} : H a = some (.dK kvs) → RpL z M H (kvs.map fun p => p.2) vs → Ow z M H a (.dic false false (kvs.map fun p => kD p.1) vs)
  | dicT {a : Addr} {kvs : List (List Key × V)} {vs : List D} : H a = some (.dT kvs) → RpL z M H (kvs.map fun p => p.2) vs → Ow z M H a (.dic true false (kvs.map fun p => tD p.1) vs)
  | ins {a C dx : Addr} {fs : List (Str × V)} {ds : List D} : H a = some (.ins C dx fs) → ("" : Str) ∉ (fs.map fun p => p.1) → RpL z M H (fs.map fun p => p.2) ds → Ow z M H a (.ins C (fs.map fun p => p.1) ds)
  | slf {a C dx : Addr} {fs : List (Str × V)} {ds : List D} : H a = some (.ins C dx fs) → RpL z M H (fs.map fun p => p.2) ds → Ow z M H a (.ins C ("" :: fs.map fun p => p.1) (.raw (.ref a) :: ds))
theorem Ow.alive {z : Bz} {M : MS} {H : Hp} {a : Addr} {d : D} (h : Ow z M H a d) : Nt H a := by
  cases h with
  | lst e _ => exact ⟨_, e, trivial⟩
  | dicK e _ => exact ⟨_, e, trivial⟩
  | dicT e _ => exact ⟨_, e, trivial⟩
  | ins e _ _ => exact ⟨_, e, trivial⟩
  | slf e _ => exact ⟨_, e, trivial⟩
theorem Ow.tr {z : Bz} {M M' : MS} {H H' : Hp} {a : Addr} {d : D} (h : Ow z M H a d) (t : Tr M H M' H') (e : ∀ o, H a = some o → H' a = some o) : Ow z M' H' a d := by
  cases h with
  | lst r l => exact .lst (e _ r) (l.tr t)
  | dicK r l => exact .dicK (e _ r) (l.tr t)
  | dicT r l => exact .dicT (e _ r) (l.tr t)
  | ins r q l => exact .ins (e _ r) q (l.tr t)
  | slf r l => exact .slf (e _ r) (l.tr t)
theorem Ow.code {z : Bz} {M : MS} {H : Hp} {a : Addr} {d : D} (h : Ow z M H a d) (c : Addr) (q : Str) : H a ≠ some (CodeO c q) := fun e => by
  cases h with
  | lst e' _ => rw [e'] at e; cases e
  | dicK e' _ => rw [e'] at e; cases e
  | dicT e' _ => rw [e'] at e; cases e
  | ins e' _ _ => rw [e'] at e; cases e
  | slf e' _ => rw [e'] at e; cases e
/-- an owned thing that is owned no more -/
theorem Ow.rp {z : Bz} {M M' : MS} {H : Hp} {a : Addr} {d : D} (h : Ow z M H a d) (t : Tr M H M' H) (n : ¬ M' a) : Rp z M' H (.ref a) d := by
  cases h with
  | lst r l => exact .lst r n (l.tr t)
  | dicK r l => exact .dicK (lk := false) r n (l.tr t)
  | dicT r l => exact .dicT (lk := false) r n (l.tr t)
  | ins r q l => exact .ins r q n (l.tr t)
  | slf r l => exact .slf r n (l.tr t)

/-- an exception with the own dict at d -/
def XRp (z : Bz) (M : MS) (H : Hp) (d : Addr) (x : XD) : Prop := ∃ fs : List (Str × V), H d = some (.xd fs) ∧ (fs.map fun p => p.1) = x.ns ∧ RpL z M H (fs.map fun p => p.2) x.vs
/-- what the wish E takes, over data -/
def XLink (z : Bz) (M0 : MS) (H0 : Hp) (E : XK) (Ed : XD → Prop) : Prop := ∀ (x : XD) (d : Addr) (H' : Hp), Ed x → Ext z H0 H' → BagOk z H' → XRp z (Mo M0 z fun _ => none) H' d x → E (.ref x.C) (some d) H'
abbrev SS0 := List Sl
structure Gh where
  z : Bz
  M0 : MS
  H0 : Hp
  X0 : Hp
  XM : MS
  ow : Nat → Option Addr
  S : List Sl
/-- the wishes about exceptions that the slots hold -/
structure ExOk (g : Gh) : Prop where
  e0 : Ext g.z g.X0 g.H0
  em : ∀ a, g.XM a → g.M0 a
  ea : ∀ a, g.XM a → g.X0 a ≠ none
  el : ∀ (i : Nat) (E : XK) (Ed : XD → Prop), g.S[i]? = some (.ex E Ed) → XLink g.z g.XM g.X0 E Ed
  ez : ∀ (i : Nat) (p : Bz → MS → Hp → Prop), g.S[i]? = some (.zz p) → p g.z g.XM g.X0
  en : ∀ a, g.M0 a → g.XM a ∨ g.X0 a = none
abbrev Gh.M (g : Gh) : MS := Mo g.M0 g.z g.ow
structure Stt (g : Gh) (σ : St) (H : Hp) : Prop where
  len : g.S.length = σ.length
  val : ∀ (i : Nat) (d : D), g.S[i]? = some (.val d) → ∃ v, σ[i]? = some (some v) ∧ Rp g.z g.M H v d
  own : ∀ (i : Nat) (d : D), g.S[i]? = some (.own d) → ∃ a, σ[i]? = some (some (.ref a)) ∧ g.ow i = some a ∧ Ow g.z g.M H a d
  inj : ∀ (i j : Nat) (a : Addr), g.ow i = some a → g.ow j = some a → i = j
  new : ∀ (i : Nat) (a : Addr), g.ow i = some a → g.H0 a = none ∧ ¬ g.M0 a ∧ ¬ resB g.z a
  alive : ∀ a, g.M a → Nt H a
  keep : Ext g.z g.H0 H
  bag : BagOk g.z H
  ex : ExOk g
theorem res_M {g : Gh} {a : Addr} (h : resB g.z a) : g.M a := .inr (.inl h)
theorem Stt.x0 {g : Gh} {σ : St} {H : Hp} (s : Stt g σ H) {a : Addr} (ha : H a = none) : g.X0 a = none := by
  cases e : g.X0 a with
  | none => rfl
  | some o =>
    exfalso
    by_cases hb : isB g.z a
    · exact (s.alive a (res_M hb.res)).ne ha
    · have h1 := s.keep a o (s.ex.e0 a o e hb) hb
      rw [ha] at h1
      cases h1
theorem Ext.trM {g : Gh} {H H' : Hp} (x : Ext g.z H H') : Tr g.M H g.M H' := Tr.of fun a o n e => ⟨x a o e fun q => n (res_M q.res), n⟩
theorem Ext.trMS {z : Bz} {M : MS} {H H' : Hp} (x : Ext z H H') (hM : ∀ a, resB z a → M a) : Tr M H M H' := Tr.of fun a o n e => ⟨x a o e fun q => n (hM _ q.res), n⟩
theorem Rp.ext {g : Gh} {H H' : Hp} {v : V} {d : D} (h : Rp g.z g.M H v d) (x : Ext g.z H H') : Rp g.z g.M H' v d := h.tr x.trM
theorem RpL.ext {g : Gh} {H H' : Hp} {v : List V} {d : List D} (h : RpL g.z g.M H v d) (x : Ext g.z H H') : RpL g.z g.M H' v d := h.tr x.trM
theorem Stt.ext {g : Gh} {σ : St} {H H' : Hp} (s : Stt g σ H) (x : Ext g.z H H') (b : BagOk g.z H') : Stt g σ H' where
  len := s.len
  val := fun i d e => by
    obtain ⟨v, e1, r⟩ := s.val i d e
    exact ⟨v, e1, r.ext x⟩
  own := fun i d e => by
    obtain ⟨a, e1, e2, r⟩ := s.own i d e
    refine ⟨a, e1, e2, r.tr x.trM fun o q => x a o q fun z => (s.new i a e2).2.2 z.res⟩
  inj := s.inj
  new := s.new
  alive := fun a h => by
    by_cases hb : resB g.z a
    · exact b.alive hb
    · obtain ⟨o, e, n⟩ := s.alive a h
      exact ⟨o, x a o e fun z => hb z.res, n⟩
  keep := s.keep.trans x
  bag := b
  ex := s.ex
theorem TabS.keeps {H H' : Hp} {P : Addr} {q : Str} (t : TabS H P q) (e : ∀ b o, H b = some o → H' b = some o) : TabS H' P q := by
  obtain ⟨ps, h1, h2, h3⟩ := t
  refine ⟨ps, e _ _ h1, h2, fun pos cv hc => ?_⟩
  obtain ⟨c, e1, e2⟩ := h3 pos cv hc
  exact ⟨c, e1, e _ _ e2⟩
theorem BagOk.new {z : Bz} {H : Hp} {p : Addr} {o : HO} (b : BagOk z H) (hp : H p = none) : BagOk z (upd H p o) where
  bg := fun a l e => by
    obtain ⟨ne, ns, at_, big, seed, cnt, e1, e2, r⟩ := b.bg a l e
    refine ⟨ne, ns, at_, big, seed, cnt, ?_, ?_, r⟩
    · rw [upd_ne (ne_of_none e1 hp)]; exact e1
    · rw [upd_ne (ne_of_none e2 hp)]; exact e2
  tb := fun P e => (b.tb P e).keeps fun c u q => by rw [upd_ne (ne_of_none q hp)]; exact q
  ap := b.ap
theorem BagOk.mut {z : Bz} {H : Hp} {a : Addr} {o : HO} (b : BagOk z H) (h : ¬ resB z a) (hc : ∀ c q, H a ≠ some (CodeO c q)) : BagOk z (upd H a o) where
  bg := fun p l e => by
    obtain ⟨ne, ns, at_, big, seed, cnt, e1, e2, r⟩ := b.bg p l e
    have n1 : p ≠ a := by rintro rfl; exact h (.inl ⟨p, l, e, .inl rfl⟩)
    have n2 : l ≠ a := by rintro rfl; exact h (.inl ⟨p, l, e, .inr rfl⟩)
    exact ⟨ne, ns, at_, big, seed, cnt, by rw [upd_ne n1]; exact e1, by rw [upd_ne n2]; exact e2, r⟩
  tb := fun P e => by
    obtain ⟨ps, h1, h2, h3⟩ := b.tb P e
    have n1 : P ≠ a := by rintro rfl; exact h (.inr e)
    refine ⟨ps, by rw [upd_ne n1]; exact h1, h2, fun pos cv hcv => ?_⟩
    obtain ⟨c, e1, e2⟩ := h3 pos cv hcv
    exact ⟨c, e1, by rw [upd_ne (show c ≠ a by rintro rfl; exact hc _ _ e2)]; exact e2⟩
  ap := b.ap
/-- fewer things stand apart -/
theorem XLink.less {z : Bz} {M0 M1 : MS} {H0 : Hp} {E : XK} {Ed : XD → Prop} (l : XLink z M0 H0 E Ed) (h : ∀ a, M0 a → M1 a) : XLink z M1 H0 E Ed := fun x d H' q xt b ⟨fs, e1, e2, r⟩ => l x d H' q xt b ⟨fs, e1, e2, r.tr (Tr.of fun a o m e => ⟨e, fun q => m (by
    rcases q with q | q | ⟨i, q⟩
    · exact .inl (h a q)
    · exact .inr (.inl q)
    · cases q)⟩)⟩
theorem ex_set {S : SS0} {i j : Nat} {x : Sl} {E : XK} {Ed : XD → Prop} (e : (S.set i x)[j]? = some (.ex E Ed)) (hx : ∀ E Ed, x ≠ .ex E Ed) : S[j]? = some (.ex E Ed) := by
  rw [List.getElem?_set] at e
  by_cases hij : i = j
  · subst hij
    rw [if_pos rfl] at e
    split at e
    · exact absurd (Option.some.inj e) (hx E Ed)
    · cases e
  · rwa [if_neg hij] at e
theorem zz_set {S : SS0} {i j : Nat} {x : Sl} {p : Bz → MS → Hp → Prop} (e : (S.set i x)[j]? = some (.zz p)) (hx : ∀ p, x ≠ .zz p) : S[j]? = some (.zz p) := by
  rw [List.getElem?_set] at e
  by_cases hij : i = j
  · subst hij
    rw [if_pos rfl] at e
    split at e
    · exact absurd (Option.some.inj e) (hx p)
    · cases e
  · rwa [if_neg hij] at e
theorem ExOk.set {g : Gh} (e : ExOk g) {ow : Nat → Option Addr} {i : Nat} {x : Sl} (hx : ∀ E Ed, x ≠ .ex E Ed) (hz : ∀ p, x ≠ .zz p) : ExOk { g with ow := ow, S := g.S.set i x } := ⟨e.e0, e.em, e.ea, fun j E Ed q => e.el j E Ed (ex_set q hx), fun j p q => e.ez j p (zz_set q hz), e.en⟩
theorem ExOk.val {g : Gh} (e : ExOk g) {ow : Nat → Option Addr} {i : Nat} {d : D} : ExOk { g with ow := ow, S := g.S.set i (.val d) } := e.set (fun _ _ q => by cases q) fun _ q => by cases q
theorem ExOk.own {g : Gh} (e : ExOk g) {ow : Nat → Option Addr} {i : Nat} {d : D} : ExOk { g with ow := ow, S := g.S.set i (.own d) } := e.set (fun _ _ q => by cases q) fun _ q => by cases q
theorem ExOk.more {g : Gh} (e : ExOk g) {M1 : MS} (h : ∀ a, g.M0 a → M1 a) (hn : ∀ a, M1 a → g.M0 a ∨ g.X0 a = none) : ExOk { g with M0 := M1 } := ⟨e.e0, fun a q => h a (e.em a q), e.ea, e.el, e.ez, fun a q => (hn a q).elim (e.en a) .inr⟩
theorem Stt.alloc {g : Gh} {σ : St} {H : Hp} {p : Addr} {o : HO} (s : Stt g σ H) (hp : H p = none) : Stt g σ (upd H p o) := s.ext (.new hp) (s.bag.new hp)
theorem Stt.fresh {g : Gh} {σ : St} {H : Hp} {p : Addr} (s : Stt g σ H) (hp : H p = none) : ¬ g.M p := fun h => (s.alive p h).ne hp

/-- read, not kept -/
def Pk (g : Gh) (H : Hp) (v : V) (d : D) : Prop := Rp g.z g.M H v d ∨ ∃ a, v = .ref a ∧ (∃ i, g.ow i = some a) ∧ (¬ g.M0 a ∧ ¬ resB g.z a) ∧ Ow g.z g.M H a d
theorem Pk.ext {g : Gh} {H H' : Hp} {v : V} {d : D} (h : Pk g H v d) (x : Ext g.z H H') : Pk g H' v d := by
  rcases h with h | ⟨a, e, m, n, o⟩
  · exact .inl (h.ext x)
  · exact .inr ⟨a, e, m, n, o.tr x.trM fun o q => x a o q fun z => n.2 z.res⟩
theorem Pk.lst {g : Gh} {H : Hp} {v : V} {ds : List D} (h : Pk g H v (.lst ds)) : ∃ a xs, v = .ref a ∧ H a = some (.lst xs) ∧ RpL g.z g.M H xs ds := by
  rcases h with h | ⟨a, e, m, n, o⟩
  · cases h with | lst r _ l => exact ⟨_, _, rfl, r, l⟩
  · cases o with | lst r l => exact ⟨_, _, e, r, l⟩
theorem Pk.tup {g : Gh} {H : Hp} {v : V} {ds : List D} (h : Pk g H v (.tup ds)) : ∃ a xs, v = .ref a ∧ H a = some (.tup xs) ∧ RpL g.z g.M H xs ds := by
  rcases h with h | ⟨a, e, m, n, o⟩
  · cases h with | tup r _ l => exact ⟨_, _, rfl, r, l⟩
  · cases o
theorem Pk.int {g : Gh} {H : Hp} {v : V} {i : Int} (h : Pk g H v (.int i)) : v = .int i := by
  rcases h with h | ⟨a, e, m, n, o⟩
  · cases h; rfl
  · cases o
theorem Pk.bl {g : Gh} {H : Hp} {v : V} {i : Bool} (h : Pk g H v (.bl i)) : v = .bl i := by
  rcases h with h | ⟨a, e, m, n, o⟩
  · cases h; rfl
  · cases o
theorem Pk.str {g : Gh} {H : Hp} {v : V} {i : List Nat} (h : Pk g H v (.str i)) : v = .str (S2 i) := by
  rcases h with h | ⟨a, e, m, n, o⟩
  · cases h; rfl
  · cases o
theorem Pk.non {g : Gh} {H : Hp} {v : V} (h : Pk g H v .non) : v = .non := by
  rcases h with h | ⟨a, e, m, n, o⟩
  · cases h; rfl
  · cases o
theorem Pk.raw {g : Gh} {H : Hp} {v u : V} (h : Pk g H v (.raw u)) : v = u := by
  rcases h with h | ⟨a, e, m, n, o⟩
  · cases h; rfl
  · cases o

/-! ### readings over data -/
abbrev SS := List Sl
abbrev TDE := SS → (D → Prop) → Prop
abbrev TDT := SS → (Bool → Prop) → Prop
abbrev TDA := SS → (List D → Prop) → Prop
structure EndsD where
  nx : SS → Prop
  rt : D → Prop
  rf : D → Prop
  bk : SS → Prop := fun _ => False
  ct : SS → Prop := fun _ => False
abbrev TDS := EndsD → SS → Prop
/-- kept values; read values; new objects; tests; arguments -/
def lE (t : TDE) : TE := fun σ H Q => ∃ (g : Gh) (Qd : D → Prop), Stt g σ H ∧ t g.S Qd ∧ ∀ d v H', Qd d → Ext g.z H H' → Stt g σ H' → Rp g.z g.M H' v d → Q v H'
def lP (t : TDE) : TE := fun σ H Q => ∃ (g : Gh) (Qd : D → Prop), Stt g σ H ∧ t g.S Qd ∧ ∀ d v H', Qd d → Ext g.z H H' → Stt g σ H' → Pk g H' v d → Q v H'
def OwF (z : Bz) (M : MS) (H : Hp) (a : Addr) (d : D) : Prop := Ow z (fun b => M b ∨ b = a) H a d
def lF (t : TDE) : TE := fun σ H Q => ∃ (g : Gh) (Qd : D → Prop), Stt g σ H ∧ t g.S Qd ∧ ∀ d a H', Qd d → Ext g.z H H' → Stt g σ H' → H a = none → ¬ g.M a → OwF g.z g.M H' a d → Q (.ref a) H'
def lT (t : TDT) : TT := fun σ H Q => ∃ (g : Gh) (Qd : Bool → Prop), Stt g σ H ∧ t g.S Qd ∧ ∀ b H', Qd b → Ext g.z H H' → Stt g σ H' → Q b H'
def lA (t : TDA) : TA := fun σ H Q => ∃ (g : Gh) (Qd : List D → Prop), Stt g σ H ∧ t g.S Qd ∧ ∀ ds vs H', Qd ds → Ext g.z H H' → Stt g σ H' → RpL g.z g.M H' vs ds → Q vs H'
structure LE (g : Gh) (De : EndsD) (D : Ends) : Prop where
  nx : ∀ (ow : Nat → Option Addr) (S : SS) σ H, Stt { g with ow := ow, S := S } σ H → De.nx S → D.nx σ H
  bk : ∀ (ow : Nat → Option Addr) (S : SS) σ H, Stt { g with ow := ow, S := S } σ H → De.bk S → D.bk σ H
  ct : ∀ (ow : Nat → Option Addr) (S : SS) σ H, Stt { g with ow := ow, S := S } σ H → De.ct S → D.ct σ H
  rt : ∀ d v H, De.rt d → Ext g.z g.H0 H → BagOk g.z H → Rp g.z (Mo g.M0 g.z fun _ => none) H v d → D.rt v H
  rf : ∀ d a H, De.rf d → Ext g.z g.H0 H → BagOk g.z H → g.H0 a = none → ¬ Mo g.M0 g.z (fun _ => none) a → OwF g.z (Mo g.M0 g.z fun _ => none) H a d → D.rt (.ref a) H
def lS (t : TDS) : TS := fun D σ H => ∃ (g : Gh) (De : EndsD), Stt g σ H ∧ t De g.S ∧ LE g De D

theorem PE.imp {X : Cx} {e : Expr} {t t' : TE} (h : PE X e t) (i : ∀ σ H Q, t' σ H Q → t σ H Q) : PE X e t' := ⟨fun pins s σ H Q I w => h.run pins s σ H Q I (i _ _ _ w)⟩
theorem PT.imp {X : Cx} {e : Expr} {t t' : TT} (h : PT X e t) (i : ∀ σ H Q, t' σ H Q → t σ H Q) : PT X e t' := ⟨fun pins s σ H Q I w => h.run pins s σ H Q I (i _ _ _ w)⟩
theorem PW.imp {X : Cx} {e : Expr} {t t' : TT} (h : PW X e t) (i : ∀ σ H Q, t' σ H Q → t σ H Q) : PW X e t' := ⟨fun wh pins s σ H Q I w => h.run wh pins s σ H Q I (i _ _ _ w)⟩
theorem PA.imp {X : Cx} {e : List Expr} {t t' : TA} (h : PA X e t) (i : ∀ σ H Q, t' σ H Q → t σ H Q) : PA X e t' := ⟨fun pos pins s σ H Q I w => h.run pos pins s σ H Q I (i _ _ _ w)⟩
theorem PS.imp {X : Cx} {e : Stmt} {t t' : TS} (h : PS X e t) (i : ∀ D σ H, t' D σ H → t D σ H) : PS X e t' := ⟨fun pins s σ H D I w => h.run pins s σ H D I (i _ _ _ w)⟩
theorem PSs.imp {X : Cx} {e : List Stmt} {t t' : TS} (h : PSs X e t) (i : ∀ D σ H, t' D σ H → t D σ H) : PSs X e t' := ⟨fun pins s σ H D I w => h.run pins s σ H D I (i _ _ _ w)⟩
theorem PE.or {X : Cx} {e : Expr} {t t' : TE} (h : PE X e t) (h' : PE X e t') : PE X e (fun σ H Q => t σ H Q ∨ t' σ H Q) := ⟨fun pins s σ H Q I w => w.elim (fun w => h.run pins s σ H Q I w) fun w => h'.run pins s σ H Q I w⟩

section
variable {X : Cx} {e : Expr} {t : TDE}
/-- a kept value, a new object: read -/
theorem PE.toP (h : PE X e (lE t)) : PE X e (lP t) := PE.imp h fun σ H Q ⟨g, Qd, s, w, k⟩ => ⟨g, Qd, s, w, fun d v H' q x s' r => k d v H' q x s' (.inl r)⟩
theorem Ow.keepE {g : Gh} {H : Hp} {a : Addr} {d : D} (o : Ow g.z g.M H a d) (n : ¬ g.M a) : Rp g.z g.M H (.ref a) d := o.rp (Tr.of fun _ _ n e => ⟨e, n⟩) n
/-- a new thing, its items apart from it -/
theorem OwF.keepE {g : Gh} {H : Hp} {a : Addr} {d : D} (o : OwF g.z g.M H a d) (n : ¬ g.M a) : Rp g.z g.M H (.ref a) d := Ow.rp o (Tr.of fun _ _ n e => ⟨e, fun q => n (.inl q)⟩) n
theorem PE.toE (h : PE X e (lF t)) : PE X e (lE t) := PE.imp h fun σ H Q ⟨g, Qd, s, w, k⟩ => ⟨g, Qd, s, w, fun d a H' q x s' hn nm o => k d (.ref a) H' q x s' (o.keepE nm)⟩
end
end L2.DL

namespace L2.DL
open PySem PySem.Spec PyProof.Rows

/-! ### lists of data -/
section
variable {z : Bz} {M : MS} {H : Hp}
theorem RpL.length : ∀ {vs : List V} {ds : List D}, RpL z M H vs ds → vs.length = ds.length
  | _, _, .nil => rfl
  | _, _, .cons _ b => by rw [List.length_cons, List.length_cons, b.length]
theorem RpL.get : ∀ {vs : List V} {ds : List D} {i : Nat} {d : D}, RpL z M H vs ds → ds[i]? = some d → ∃ v, vs[i]? = some v ∧ Rp z M H v d
  | _, _, i, _, .nil, e => by simp at e
  | _, _, 0, _, .cons a _, e => by simp at e; subst e; exact ⟨_, rfl, a⟩
  | _, _, i + 1, d, .cons _ b, e => by
    obtain ⟨v, h1, h2⟩ := RpL.get (i := i) (d := d) b (by simpa using e)
    exact ⟨v, by simpa using h1, h2⟩
theorem RpL.getV : ∀ {vs : List V} {ds : List D} {i : Nat} {v : V}, RpL z M H vs ds → vs[i]? = some v → ∃ d, ds[i]? = some d ∧ Rp z M H v d
  | _, _, i, _, .nil, e => by simp at e
  | _, _, 0, _, .cons a _, e => by simp at e; subst e; exact ⟨_, rfl, a⟩
  | _, _, i + 1, d, .cons _ b, e => by
    obtain ⟨v, h1, h2⟩ := RpL.getV (i := i) (v := d) b (by simpa using e)
    exact ⟨v, by simpa using h1, h2⟩
theorem RpL.append : ∀ {vs vs' : List V} {ds ds' : List D}, RpL z M H vs ds → RpL z M H vs' ds' → RpL z M H (vs ++ vs') (ds ++ ds')
  | _, _, _, _, .nil, s => s
  | _, _, _, _, .cons a b, s => .cons a (b.append s)
theorem RpL.one {v : V} {d : D} (h : Rp z M H v d) : RpL z M H [v] [d] := .cons h .nil
theorem RpL.take : ∀ {vs : List V} {ds : List D} (n : Nat), RpL z M H vs ds → RpL z M H (vs.take n) (ds.take n)
  | _, _, 0, _ => by simp; exact .nil
  | _, _, n + 1, .nil => by simp; exact .nil
  | _, _, n + 1, .cons a b => by simp; exact .cons a (b.take n)
theorem RpL.drop : ∀ {vs : List V} {ds : List D} (n : Nat), RpL z M H vs ds → RpL z M H (vs.drop n) (ds.drop n)
  | _, _, 0, h => by simp; exact h
  | _, _, n + 1, .nil => by simp; exact .nil
  | _, _, n + 1, .cons a b => by simp; exact b.drop n
theorem RpL.set : ∀ {vs : List V} {ds : List D} {v : V} {d : D} (n : Nat), RpL z M H vs ds → Rp z M H v d → RpL z M H (vs.set n v) (ds.set n d)
  | _, _, _, _, 0, .nil, h => by simp; exact .nil
  | _, _, _, _, n + 1, .nil, h => by simp; exact .nil
  | _, _, _, _, 0, .cons a b, h => by simp; exact .cons h b
  | _, _, _, _, n + 1, .cons a b, h => by simp; exact .cons a (b.set n h)
theorem RpL.reverse : ∀ {vs : List V} {ds : List D}, RpL z M H vs ds → RpL z M H vs.reverse ds.reverse
  | _, _, .nil => by simp; exact .nil
  | _, _, .cons a b => by simp; exact b.reverse.append (.one a)
theorem RpL.rep : ∀ {vs : List V} {ds : List D} (n : Nat), RpL z M H vs ds → RpL z M H (List.replicate n vs).flatten (List.replicate n ds).flatten
  | _, _, 0, _ => by simp; exact .nil
  | _, _, n + 1, h => by rw [List.replicate_succ, List.replicate_succ, List.flatten_cons, List.flatten_cons]; exact h.append (h.rep n)
theorem Rp.int_inv {v : V} {i : Int} (h : Rp z M H v (.int i)) : v = .int i := by cases h; rfl
theorem Rp.str_inv {v : V} {i : List Nat} (h : Rp z M H v (.str i)) : v = .str (S2 i) := by cases h; rfl
theorem Rp.bl_inv {v : V} {i : Bool} (h : Rp z M H v (.bl i)) : v = .bl i := by cases h; rfl
theorem Rp.non_inv {v : V} (h : Rp z M H v .non) : v = .non := by cases h; rfl
theorem Rp.raw_inv {v u : V} (h : Rp z M H v (.raw u)) : v = u := by cases h; rfl
theorem RpL.ints : ∀ {vs : List V} {ns : List Int}, RpL z M H vs (ns.map D.int) → vs = ns.map V.int
  | _, [], .nil => rfl
  | _, n :: ns, .cons a b => by cases a; rw [b.ints]; rfl
theorem RpL.strs : ∀ {vs : List V} {ns : List (List Nat)}, RpL z M H vs (ns.map D.str) → vs = (ns.map S2).map V.str
  | _, [], .nil => rfl
  | _, n :: ns, .cons a b => by cases a; rw [b.strs]; rfl
theorem RpL.of_ints : ∀ (ns : List Int), RpL z M H (ns.map V.int) (ns.map D.int)
  | [] => .nil
  | n :: ns => .cons (.int n) (RpL.of_ints ns)
theorem RpL.of_strs : ∀ (ns : List (List Nat)), RpL z M H ((ns.map S2).map V.str) (ns.map D.str)
  | [] => .nil
  | n :: ns => .cons (.str n) (RpL.of_strs ns)
end
def cut {α : Type} (xs : List α) (lo hi : Option Int) : List α := (xs.drop (HT.sIx xs.length 0 lo)).take (HT.sIx xs.length xs.length hi - HT.sIx xs.length 0 lo)
theorem RpL.cut {z : Bz} {M : MS} {H : Hp} {vs : List V} {ds : List D} (h : RpL z M H vs ds) (lo hi : Option Int) : RpL z M H (cutV vs lo hi) (cut ds lo hi) := by
  unfold cutV DL.cut
  rw [h.length]
  exact (h.drop _).take _
theorem RpL.atI {z : Bz} {M : MS} {H : Hp} {vs : List V} {ds : List D} {i : Int} {d : D} (h : RpL z M H vs ds) (e : atI ds i = some d) : ∃ v, L2.atI vs i = some v ∧ Rp z M H v d := by
  unfold L2.atI at e ⊢
  rw [h.length]
  cases q : ixN ds.length i with
  | none => rw [q] at e; simp at e
  | some j =>
    rw [q] at e
    obtain ⟨v, h1, h2⟩ := h.get (i := j) (d := d) (by simpa using e)
    exact ⟨v, by simpa using h1, h2⟩

/-! ### what is handed on -/
def RetE (g : Gh) (σ : St) (H : Hp) (Qd : D → Prop) (Q : VK) : Prop := ∀ d v H', Qd d → Ext g.z H H' → Stt g σ H' → Rp g.z g.M H' v d → Q v H'
def RetF (g : Gh) (σ : St) (H : Hp) (Qd : D → Prop) (Q : VK) : Prop := ∀ d a H', Qd d → Ext g.z H H' → Stt g σ H' → H a = none → ¬ g.M a → OwF g.z g.M H' a d → Q (.ref a) H'
theorem RetE.F {g : Gh} {σ : St} {H : Hp} {Qd : D → Prop} {Q : VK} (h : RetE g σ H Qd Q) : RetF g σ H Qd Q := fun d a H' q x s n m o => h d (.ref a) H' q x s (o.keepE m)
/-- a value here -/
theorem RetE.here {g : Gh} {σ : St} {H : Hp} {Qd : D → Prop} {Q : VK} {d : D} {v : V} (h : RetE g σ H Qd Q) (s : Stt g σ H) (q : Qd d) (r : Rp g.z g.M H v d) : Q v H := h d v H q .refl s r
/-- a new list -/
theorem Tr.new {M : MS} {H : Hp} {p : Addr} {o : HO} (hp : H p = none) : Tr M H (fun b => M b ∨ b = p) (upd H p o) := Tr.of fun a u n e => by
  have ne := ne_of_none e hp
  exact ⟨by rw [upd_ne ne]; exact e, fun q => q.elim n ne⟩
theorem RetF.lst {g : Gh} {σ : St} {H : Hp} {Qd : D → Prop} {Q : VK} {xs : List V} {ds : List D} {p : Addr} (h : RetF g σ H Qd Q) (s : Stt g σ H) (hp : H p = none) (q : Qd (.lst ds)) (r : RpL g.z g.M H xs ds) : Q (.ref p) (upd H p (.lst xs)) :=
  h (.lst ds) p _ q (.new hp) (s.alloc hp) hp (s.fresh hp) (.lst upd_same (r.tr (.new hp)))
theorem RetE.tup {g : Gh} {σ : St} {H : Hp} {Qd : D → Prop} {Q : VK} {xs : List V} {ds : List D} {p : Addr} (h : RetE g σ H Qd Q) (s : Stt g σ H) (hp : H p = none) (q : Qd (.tup ds)) (r : RpL g.z g.M H xs ds) : Q (.ref p) (upd H p (.tup xs)) :=
  h (.tup ds) _ _ q (.new hp) (s.alloc hp) (.tup upd_same (s.fresh hp) (r.ext (.new hp)))

/-! ### names, constants -/
section
variable {X : Cx} {pos : Pos}
def dVar (i : Nat) : TDE := fun S Q => ∃ d, S[i]? = some (.val d) ∧ Q d
def dPeek (i : Nat) : TDE := fun S Q => ∃ d, (S[i]?).bind Sl.dat = some d ∧ Q d
def dC (d : D) : TDE := fun _ Q => Q d
theorem de_var {e : Expr} {i : Nat} (h : PE X e (tVar i)) : PE X e (lE (dVar i)) := PE.imp h fun σ H Q ⟨g, Qd, s, ⟨d, e1, q⟩, k⟩ => by
  obtain ⟨v, e2, r⟩ := s.val i d e1
  exact ⟨v, e2, k d v H q .refl s r⟩
theorem dp_var {e : Expr} {i : Nat} (h : PE X e (tVar i)) : PE X e (lP (dPeek i)) := PE.imp h fun σ H Q ⟨g, Qd, s, ⟨d, e1, q⟩, k⟩ => by
  cases e0 : g.S[i]? with
  | none => rw [e0] at e1; simp at e1
  | some w =>
    rw [e0] at e1
    cases w with
    | no => simp [Sl.dat] at e1
    | ex _ _ => simp [Sl.dat] at e1
    | zz _ => simp [Sl.dat] at e1
    | val d' =>
      simp [Sl.dat] at e1
      subst e1
      obtain ⟨v, e2, r⟩ := s.val i d' e0
      exact ⟨v, e2, k d' v H q .refl s (.inl r)⟩
    | own d' =>
      simp [Sl.dat] at e1
      subst e1
      obtain ⟨a, e2, e3, r⟩ := s.own i d' e0
      exact ⟨.ref a, e2, k d' (.ref a) H q .refl s (.inr ⟨a, rfl, ⟨i, e3⟩, (s.new i a e3).2, r⟩)⟩
theorem de_C {e : Expr} {v : V} {d : D} (h : PE X e (tC v)) (r : ∀ z M H, Rp z M H v d) : PE X e (lE (dC d)) := PE.imp h fun σ H Q ⟨g, Qd, s, q, k⟩ => k d v H q .refl s (r _ _ _)
theorem de_int {i : Int} {j : Nat} : PE X (.Constant (.int i) j pos) (lE (dC (.int i))) := de_C pe_int fun _ _ _ => .int i
theorem de_str {i : Str} {j : Nat} : PE X (.Constant (.str i) j pos) (lE (dC (.str i.cps.toList))) := de_C pe_str fun _ _ _ => .str i.cps.toList
theorem de_bl {i : Bool} {j : Nat} : PE X (.Constant (.bool i) j pos) (lE (dC (.bl i))) := de_C pe_bl fun _ _ _ => .bl i
theorem de_non {j : Nat} : PE X (.Constant .none j pos) (lE (dC .non)) := de_C pe_non fun _ _ _ => .non

/-! ### operators by values -/
variable {a b : Expr} {ta tb : TDE}
abbrev RD2 := D → D → (D → Prop) → Prop
def Real2 (r : R2) (R : RD2) : Prop := ∀ (g : Gh) (σ : St) (H : Hp) (x y : V) (d e : D) (Qd : D → Prop) (Q : VK), Stt g σ H → Pk g H x d → Pk g H y e → R d e Qd → RetE g σ H Qd Q → r x y H Q
def Real2F (r : R2) (R : RD2) : Prop := ∀ (g : Gh) (σ : St) (H : Hp) (x y : V) (d e : D) (Qd : D → Prop) (Q : VK), Stt g σ H → Pk g H x d → Pk g H y e → R d e Qd → RetF g σ H Qd Q → r x y H Q
def d2 (R : RD2) (ta tb : TDE) : TDE := fun S Q => ta S fun x => tb S fun y => R x y Q
theorem lift2 {r : R2} {R : RD2} (hr : Real2 r R) {e : Expr} (h : PE X e (tOp r (lP ta) (lP tb))) : PE X e (lE (d2 R ta tb)) := PE.imp h fun σ H Q ⟨g, Qd, s, w, k⟩ =>
  ⟨g, _, s, w, fun d v H1 w1 x1 s1 r1 => ⟨g, _, s1, w1, fun d2 v2 H2 w2 x2 s2 r2 =>
    hr g σ H2 v v2 d d2 Qd Q s2 (r1.ext x2) r2 w2 fun d' v' H' q x s' r => k d' v' H' q ((x1.trans x2).trans x) s' r⟩⟩
theorem lift2F {r : R2} {R : RD2} (hr : Real2F r R) {e : Expr} (h : PE X e (tOp r (lP ta) (lP tb))) : PE X e (lF (d2 R ta tb)) := PE.imp h fun σ H Q ⟨g, Qd, s, w, k⟩ =>
  ⟨g, _, s, w, fun d v H1 w1 x1 s1 r1 => ⟨g, _, s1, w1, fun d2 v2 H2 w2 x2 s2 r2 =>
    hr g σ H2 v v2 d d2 Qd Q s2 (r1.ext x2) r2 w2 fun d' a' H' q x s' n m r => k d' a' H' q ((x1.trans x2).trans x) s' (by
      cases e0 : H a' with
      | none => rfl
      | some o =>
        by_cases hb : isB g.z a'
        · exact absurd (res_M hb.res) m
        · rw [(x1.trans x2) a' o e0 hb] at n; cases n) m r⟩⟩
theorem de_op {op : Operator} {r : R2} {R : RD2} (ho : OpR X (binaryOp op) r) (hr : Real2 r R) (ha : PE X a (lP ta)) (hb : PE X b (lP tb)) : PE X (.BinOp a op b pos) (lE (d2 R ta tb)) := lift2 hr (pe_op ho ha hb)
theorem df_op {op : Operator} {r : R2} {R : RD2} (ho : OpR X (binaryOp op) r) (hr : Real2F r R) (ha : PE X a (lP ta)) (hb : PE X b (lP tb)) : PE X (.BinOp a op b pos) (lF (d2 R ta tb)) := lift2F hr (pe_op ho ha hb)
theorem de_cmp {op : CmpOp} {r : R2} {R : RD2} (ho : OpR X (compareOp op) r) (hr : Real2 r R) (ha : PE X a (lP ta)) (hb : PE X b (lP tb)) (hm : behindInMarks op b = false := by first | exact nomark _ | rfl) : PE X (.Compare a [op] [b] pos) (lE (d2 R ta tb)) := lift2 hr (pe_cmpR ho ha hb hm)
theorem de_ix {r : R2} {R : RD2} (ho : IxR X r) (hr : Real2 r R) (ha : PE X a (lP ta)) (hb : PE X b (lP tb)) (hs : PlainIx b := by exact fun _ _ => rfl) : PE X (.Subscript a b pos) (lE (d2 R ta tb)) := lift2 hr (pe_ix ho ha hb hs)

theorem S2_append (x y : List Nat) : S2 x ++ S2 y = S2 (x ++ y) := by
  show (⟨x.toArray ++ y.toArray⟩ : Str) = ⟨(x ++ y).toArray⟩
  simp
theorem S2_length (x : List Nat) : (S2 x).length = x.length := by simp [Str.length]
/-! ### + -/
def rAddD : RD2
  | .int i, .int j, Q => Q (.int (i + j))
  | .str x, .str y, Q => x.length + y.length ≤ sizeLine ∧ Q (.str (x ++ y))
  | .lst x, .lst y, Q => x.length + y.length ≤ sizeLine ∧ Q (.lst (x ++ y))
  | .tup x, .tup y, Q => x ≠ [] ∧ x.length + y.length ≤ sizeLine ∧ Q (.tup (x ++ y))
  | _, _, _ => False
def opAdd (K : PySem.W.Frag) : R2 := fun x y H Q => ((rI0 fun i j => .int (i + j)) x y H Q ∨ (∃ i j, x = .str i ∧ y = .str j ∧ i.length + j.length ≤ sizeLine ∧ Q (.str (i ++ j)) H)) ∨ (rCat x y H Q ∨ rCatT K x y H Q)
theorem op_addAll : OpR X (binaryOp .Add) (opAdd X.K) := OpR.or (OpR.or op_add op_add_str) (OpR.or op_cat op_catT)
theorem real_add {K : PySem.W.Frag} : Real2 (opAdd K) rAddD := by
  intro g σ H x y d e Qd Q s hx hy w k
  cases d <;> cases e <;> try exact w.elim
  · cases hx.int; cases hy.int
    exact .inl (.inl ⟨_, _, rfl, rfl, k.here s w (.int _)⟩)
  · cases hx.str; cases hy.str
    exact .inl (.inr ⟨_, _, rfl, rfl, by simpa [Str.length] using w.1, k.here s w.2 (by rw [S2_append]; exact .str _)⟩)
  · obtain ⟨p, xs, rfl, h1, l1⟩ := hx.lst
    obtain ⟨q, ys, rfl, h2, l2⟩ := hy.lst
    exact .inr (.inl ⟨_, _, _, _, rfl, rfl, h1, h2, by rw [l1.length, l2.length]; exact w.1, fun p hp => k.F.lst s hp w.2 (l1.append l2)⟩)
  · obtain ⟨p, xs, rfl, h1, l1⟩ := hx.tup
    obtain ⟨q, ys, rfl, h2, l2⟩ := hy.tup
    refine .inr (.inr ⟨_, _, _, _, rfl, rfl, .of h1, .of h2, ?_, by rw [l1.length, l2.length]; exact w.2.1, fun hy0 => ?_, fun _ p hp => k.tup s hp w.2.2 (l1.append l2)⟩)
    · intro e
      subst e
      cases l1
      exact w.1 rfl
    · subst hy0
      cases l2
      have q := w.2.2
      rw [List.append_nil] at q
      rcases hx with hx | ⟨a, e, _, _, o⟩
      · exact k.here s q hx
      · cases o
theorem real_addF {K : PySem.W.Frag} : Real2F (opAdd K) (fun d e Q => match d, e with | .lst x, .lst y => x.length + y.length ≤ sizeLine ∧ Q (.lst (x ++ y)) | _, _ => False) := by
  intro g σ H x y d e Qd Q s hx hy w k
  cases d <;> cases e <;> try exact w.elim
  obtain ⟨p, xs, rfl, h1, l1⟩ := hx.lst
  obtain ⟨q, ys, rfl, h2, l2⟩ := hy.lst
  exact .inr (.inl ⟨_, _, _, _, rfl, rfl, h1, h2, by rw [l1.length, l2.length]; exact w.1, fun p hp => k.lst s hp w.2 (l1.append l2)⟩)
theorem de_add (ha : PE X a (lP ta)) (hb : PE X b (lP tb)) : PE X (.BinOp a .Add b pos) (lE (d2 rAddD ta tb)) := de_op op_addAll real_add ha hb
theorem df_add (ha : PE X a (lP ta)) (hb : PE X b (lP tb)) : PE X (.BinOp a .Add b pos) (lF (d2 (fun d e Q => match d, e with | .lst x, .lst y => x.length + y.length ≤ sizeLine ∧ Q (.lst (x ++ y)) | _, _ => False) ta tb)) := df_op op_addAll real_addF ha hb
end
end L2.DL

namespace L2.DL
open PySem PySem.Spec PyProof.Rows

/-! ### plain data, equality -/
mutual
def toPy : D → PyData
  | .non => .none
  | .bl b => .bool b
  | .int i => .int i
  | .str s => .str (S2 s)
  | .lst xs => .list (toPyL xs)
  | .tup xs => .tuple (toPyL xs)
  | .dic _ _ _ _ => .none
  | .ins _ _ _ => .none
  | .raw _ => .none
  | .bag => .none
  | .clo _ => .none
def toPyL : List D → List PyData
  | [] => []
  | x :: xs => toPy x :: toPyL xs
end
mutual
def plainD : D → Bool
  | .non => true
  | .bl _ => true
  | .int _ => true
  | .str s => s.all (· < 0x110000)
  | .lst xs => plainL xs
  | .tup xs => plainL xs
  | .dic _ _ _ _ => false
  | .ins _ _ _ => false
  | .raw _ => false
  | .bag => false
  | .clo _ => false
def plainL : List D → Bool
  | [] => true
  | x :: xs => plainD x && plainL xs
end
mutual
def dep : D → Nat
  | .lst xs => depL xs + 1
  | .tup xs => depL xs + 1
  | _ => 0
def depL : List D → Nat
  | [] => 0
  | x :: xs => max (dep x) (depL xs)
end
theorem toPyL_map : ∀ xs : List D, toPyL xs = xs.map toPy
  | [] => by simp [toPyL]
  | x :: xs => by simp [toPyL, toPyL_map xs]
theorem plainL_all : ∀ xs : List D, plainL xs = xs.all plainD
  | [] => by simp [plainL]
  | x :: xs => by simp [plainL, plainL_all xs]
theorem depL_le : ∀ {xs : List D} {n : Nat}, depL xs ≤ n ↔ ∀ x ∈ xs, dep x ≤ n
  | [], n => by simp [depL]
  | x :: xs, n => by simp [depL, Nat.max_le, depL_le (xs := xs)]
mutual
theorem toPy_lay : ∀ d : D, plainD d = true → (toPy d).canLay0 = true
  | .non, _ => rfl
  | .bl _, _ => rfl
  | .int _, _ => rfl
  | .str s, h => by
    simp only [toPy, PyData.canLay0, PyData.strOk]
    simpa [plainD] using h
  | .lst xs, h => by simp only [toPy, PyData.canLay0]; exact toPyL_lay xs (by simpa [plainD] using h)
  | .tup xs, h => by simp only [toPy, PyData.canLay0]; exact toPyL_lay xs (by simpa [plainD] using h)
  | .dic _ _ _ _, h => by simp [plainD] at h
  | .ins _ _ _, h => by simp [plainD] at h
  | .raw _, h => by simp [plainD] at h
  | .bag, h => by simp [plainD] at h
  | .clo _, h => by simp [plainD] at h
theorem toPyL_lay : ∀ d : List D, plainL d = true → PyData.canLayAll0 (toPyL d) = true
  | [], _ => rfl
  | x :: xs, h => by
    have h' : plainD x = true ∧ plainL xs = true := by simpa [plainL] using h
    simp only [toPyL, PyData.canLayAll0, toPy_lay x h'.1, toPyL_lay xs h'.2, Bool.and_self]
end
mutual
theorem toPy_dep : ∀ d : D, (toPy d).depth = dep d
  | .non => by simp [toPy, PyData.depth, dep]
  | .bl _ => by simp [toPy, PyData.depth, dep]
  | .int _ => by simp [toPy, PyData.depth, dep]
  | .str s => by simp [toPy, PyData.depth, dep]
  | .lst xs => by simp only [toPy, PyData.depth, dep, toPyL_dep xs]
  | .tup xs => by simp only [toPy, PyData.depth, dep, toPyL_dep xs]
  | .dic _ _ _ _ => by simp [toPy, PyData.depth, dep]
  | .ins _ _ _ => by simp [toPy, PyData.depth, dep]
  | .raw _ => by simp [toPy, PyData.depth, dep]
  | .bag => by simp [toPy, PyData.depth, dep]
  | .clo _ => by simp [toPy, PyData.depth, dep]
theorem toPyL_dep : ∀ d : List D, PyData.depthAll (toPyL d) = depL d
  | [] => by simp [toPyL, PyData.depthAll, depL]
  | x :: xs => by simp only [toPyL, PyData.depthAll, depL, toPy_dep x, toPyL_dep xs]
end
mutual
theorem Rp.dp {z : Bz} {M : MS} {H : Hp} {K : PySem.W.Frag} : ∀ {v : V} {d : D}, Rp z M H v d → plainD d = true → Dp K H v (toPy d)
  | _, _, .non, _ => .non
  | _, _, .bl b, _ => .bl b
  | _, _, .int b, _ => .int b
  | _, _, .str b, _ => .str _
  | _, _, .lst r n l, h => .lst (.of r) (l.dp (by simpa [plainD] using h))
  | _, _, .tup r n l, h => .tup (.of r) (l.dp (by simpa [plainD] using h))
  | _, _, .dicK r n l, h => by simp [plainD] at h
  | _, _, .dicT r n l, h => by simp [plainD] at h
  | _, _, .ins r q n l, h => by simp [plainD] at h
  | _, _, .slf r n l, h => by simp [plainD] at h
  | _, _, .raw v, h => by simp [plainD] at h
  | _, _, .bag e, h => by simp [plainD] at h
  | _, _, .clo e, h => by simp [plainD] at h
theorem RpL.dp {z : Bz} {M : MS} {H : Hp} {K : PySem.W.Frag} : ∀ {v : List V} {d : List D}, RpL z M H v d → plainL d = true → DpAll K H v (toPyL d)
  | _, _, .nil, _ => .nil
  | _, _, .cons a b, h => by
    simp [plainL] at h
    exact .cons (a.dp h.1) (b.dp h.2)
end
theorem Pk.dp {g : Gh} {H : Hp} {K : PySem.W.Frag} {v : V} {d : D} (h : Pk g H v d) (p : plainD d = true) : Dp K H v (toPy d) := by
  rcases h with h | ⟨a, rfl, _, _, o⟩
  · exact h.dp p
  · cases o with
    | lst r l => exact .lst (.of r) (l.dp (by simpa [plainD] using p))
    | dicK => simp [plainD] at p
    | dicT => simp [plainD] at p
    | ins => simp [plainD] at p
    | slf => simp [plainD] at p
def okD (d : D) : Bool := plainD d && decide (dep d ≤ 64)
theorem okD.shaped {d : D} (h : okD d = true) : SeqAt.shaped (toPy d) = true := by
  unfold okD at h
  simp at h
  unfold SeqAt.shaped
  rw [toPy_lay d h.1, toPy_dep d]
  simpa using h.2
theorem okD.plain {d : D} (h : okD d = true) : plainD d = true := by
  unfold okD at h
  simp at h
  exact h.1
def deqv (d e : D) : Bool := PyData.eqv (toPy d) (toPy e)
def deqvL (d e : List D) : Bool := PyData.eqvAll (toPyL d) (toPyL e)
theorem S2_inj {a b : List Nat} (h : S2 a = S2 b) : a = b := by
  have := congrArg (fun x : Str => x.cps.toList) h
  simpa using this
theorem S2_beq (a b : List Nat) : (S2 a == S2 b) = (a == b) := by
  by_cases e : a = b
  · subst e; simp
  · have h : ¬ S2 a = S2 b := fun q => e (S2_inj q)
    rw [beq_eq_false_iff_ne.mpr h, beq_eq_false_iff_ne.mpr e]
section
variable {X : Cx} {pos : Pos} {a b c : Expr} {ta tb tc : TDE}
def rEqDD : RD2 := fun d e Q => okD d = true ∧ okD e = true ∧ Q (.bl (deqv d e))
def rNeDD : RD2 := fun d e Q => okD d = true ∧ okD e = true ∧ Q (.bl (!deqv d e))
theorem real_eq {K : PySem.W.Frag} : Real2 (rEqD K) rEqDD := fun g σ H x y d e Qd Q s hx hy w k => ⟨_, _, hx.dp (okD.plain w.1), hy.dp (okD.plain w.2.1), okD.shaped w.1, okD.shaped w.2.1, k.here s w.2.2 (.bl _)⟩
theorem real_ne {K : PySem.W.Frag} : Real2 (rNeD K) rNeDD := fun g σ H x y d e Qd Q s hx hy w k => ⟨_, _, hx.dp (okD.plain w.1), hy.dp (okD.plain w.2.1), okD.shaped w.1, okD.shaped w.2.1, k.here s w.2.2 (.bl _)⟩
theorem de_eq (hu : X.A.units + 64 < cLine) (ha : PE X a (lP ta)) (hb : PE X b (lP tb)) : PE X (.Compare a [.Eq] [b] pos) (lE (d2 rEqDD ta tb)) := de_cmp (op_eqD hu) real_eq ha hb
theorem de_ne (hu : X.A.units + 64 < cLine) (ha : PE X a (lP ta)) (hb : PE X b (lP tb)) : PE X (.Compare a [.NotEq] [b] pos) (lE (d2 rNeDD ta tb)) := de_cmp (op_neD hu) real_ne ha hb

/-! ### ints -/
def rII (C : Int → Int → Prop) (f : Int → Int → D) : RD2
  | .int i, .int j, Q => C i j ∧ Q (f i j)
  | _, _, _ => False
theorem real_ii {C : Int → Int → Prop} {f : Int → Int → Int} : Real2 (rI C fun i j => .int (f i j)) (rII C fun i j => .int (f i j)) := by
  intro g σ H x y d e Qd Q s hx hy w k
  cases d <;> cases e <;> try exact w.elim
  cases hx.int; cases hy.int
  exact ⟨_, _, rfl, rfl, w.1, k.here s w.2 (.int _)⟩
theorem real_ii0 {f : Int → Int → Int} : Real2 (rI0 fun i j => .int (f i j)) (rII (fun _ _ => True) fun i j => .int (f i j)) := by
  intro g σ H x y d e Qd Q s hx hy w k
  cases d <;> cases e <;> try exact w.elim
  cases hx.int; cases hy.int
  exact ⟨_, _, rfl, rfl, k.here s w.2 (.int _)⟩
theorem de_sub (ha : PE X a (lP ta)) (hb : PE X b (lP tb)) : PE X (.BinOp a .Sub b pos) (lE (d2 (rII (fun _ _ => True) fun i j => .int (i - j)) ta tb)) := de_op op_sub real_ii0 ha hb
theorem de_fdiv (ha : PE X a (lP ta)) (hb : PE X b (lP tb)) : PE X (.BinOp a .FloorDiv b pos) (lE (d2 (rII CDiv fun i j => .int (i / j)) ta tb)) := de_op op_fdiv real_ii ha hb
theorem de_mod (ha : PE X a (lP ta)) (hb : PE X b (lP tb)) : PE X (.BinOp a .Mod b pos) (lE (d2 (rII (fun _ j => 0 < j) fun i j => .int (i % j)) ta tb)) := de_op op_mod real_ii ha hb
theorem de_pow (ha : PE X a (lP ta)) (hb : PE X b (lP tb)) : PE X (.BinOp a .Pow b pos) (lE (d2 (rII CPow fun i j => .int (i ^ j.toNat)) ta tb)) := de_op op_pow real_ii ha hb

/-! ### * -/
def repL {α : Type} (n : Int) (xs : List α) : List α := (List.replicate n.toNat xs).flatten
theorem repL_length {α : Type} (n : Int) (xs : List α) : (repL n xs).length = n.toNat * xs.length := by
  unfold repL
  simp [List.length_flatten, List.map_replicate, List.sum_replicate_nat]
def rStrMul : R2 := fun x y H Q => ∃ i n, x = .str i ∧ y = .int n ∧ 0 ≤ n ∧ n < 2 ^ 62 ∧ i.length * n.toNat ≤ sizeLine ∧ Q (.str ⟨((List.replicate n.toNat i.cps.toList).flatten).toArray⟩) H
theorem foldl_app (a : Array Nat) (l : List (Array Nat)) : (l.foldl (· ++ ·) a).toList = a.toList ++ (l.map (·.toList)).flatten := by
  induction l generalizing a with
  | nil => simp
  | cons x r ih => simp [ih]
theorem op_mul_str : OpR X (binaryOp .Mult) rStrMul := by
  intro pins s σ H x y v u Q I rx ry h
  obtain ⟨i, n, rfl, rfl, h0, h1, hz, q⟩ := h
  obtain ⟨t, rfl⟩ := rx
  obtain ⟨t', rfl⟩ := ry
  have hline : sizeLine = 16777216 := sizeLine_eq
  have q' : Q (.str (Txt.mul i n)) H := by
    have e : Txt.mul i n = ⟨((List.replicate n.toNat i.cps.toList).flatten).toArray⟩ := by
      unfold Txt.mul
      by_cases c1 : n < 1
      · rw [if_pos c1]
        have : n.toNat = 0 := by omega
        rw [this]; rfl
      · rw [if_neg c1]
        by_cases c2 : (n == 1 || i.length == 0) = true
        · rw [if_pos c2]
          rcases (Bool.or_eq_true _ _).mp c2 with c | c
          · have : n = 1 := by simpa using c
            subst this
            simp
          · have c' : i.cps.toList = [] := by
              have c0 : i.cps.size = 0 := by simpa [Str.length] using c
              exact List.eq_nil_of_length_eq_zero (by simpa using c0)
            have e2 : (List.replicate n.toNat i.cps.toList).flatten = [] := by rw [c']; simp
            rw [e2]
            have : i = S2 i.cps.toList := rfl
            rw [this, c']
        · rw [if_neg c2]
          congr 1
          apply Array.toList_inj.mp
          rw [foldl_app]
          simp
    rw [e]; exact q
  refine SB.mul ⟨?_, fun c1 c2 => ?_, fun c1 c2 => ?_⟩ fun t' k => ⟨.str _, H, I.tok _, ⟨_, rfl⟩, q'⟩
  · rw [decide_eq_false (by omega), decide_eq_false (by omega)]; rfl
  · have hn : 0 < n := by omega
    intro hgt
    have h3 : (2 ^ 63 - 1) / n < (i.length : Int) := hgt
    have h4 : (2 ^ 63 - 1 : Int) < i.length * n := by
      have := (Int.ediv_lt_iff_lt_mul hn).mp h3
      exact this
    have h5 : (i.length : Int) * n = ((i.length * n.toNat : Nat) : Int) := by
      rw [Int.natCast_mul, Int.toNat_of_nonneg h0]
    rw [h5] at h4
    rw [hline] at hz
    omega
  · exact decide_eq_false (by omega)
def rMulD : RD2
  | .int i, .int j, Q => CMul i j ∧ Q (.int (i * j))
  | .str x, .int n, Q => (0 ≤ n ∧ n < 2 ^ 62 ∧ x.length * n.toNat ≤ sizeLine) ∧ Q (.str (repL n x))
  | .lst x, .int n, Q => (0 ≤ n ∧ n < 2 ^ 62 ∧ x.length * n.toNat ≤ sizeLine) ∧ Q (.lst (repL n x))
  | _, _, _ => False
def opMul : R2 := fun x y H Q => (rI CMul fun i j => .int (i * j)) x y H Q ∨ (rStrMul x y H Q ∨ rRep x y H Q)
theorem op_mulAll : OpR X (binaryOp .Mult) opMul := OpR.or op_mul (OpR.or op_mul_str op_rep)
theorem real_mul : Real2 opMul rMulD := by
  intro g σ H x y d e Qd Q s hx hy w k
  cases d <;> cases e <;> try exact w.elim
  · cases hx.int; cases hy.int
    exact .inl ⟨_, _, rfl, rfl, w.1, k.here s w.2 (.int _)⟩
  · cases hx.str; cases hy.int
    exact .inr (.inl ⟨_, _, rfl, rfl, w.1.1, w.1.2.1, by rw [S2_length]; exact w.1.2.2, k.here s w.2 (.str _)⟩)
  · obtain ⟨p, xs, rfl, h1, l1⟩ := hx.lst
    cases hy.int
    exact .inr (.inr ⟨_, _, _, rfl, rfl, h1, by have := w.1.1; omega, by have := w.1.2.1; omega, by rw [l1.length]; exact w.1.2.2, fun p hp => k.F.lst s hp w.2 (l1.rep _)⟩)
theorem de_mul (ha : PE X a (lP ta)) (hb : PE X b (lP tb)) : PE X (.BinOp a .Mult b pos) (lE (d2 rMulD ta tb)) := de_op op_mulAll real_mul ha hb
def rMulF : RD2 := fun d e Q => match d, e with | .lst x, .int n => (0 ≤ n ∧ n < 2 ^ 62 ∧ x.length * n.toNat ≤ sizeLine) ∧ Q (.lst (repL n x)) | _, _ => False
theorem real_mulF : Real2F opMul rMulF := by
  intro g σ H x y d e Qd Q s hx hy w k
  cases d <;> cases e <;> try exact w.elim
  obtain ⟨p, xs, rfl, h1, l1⟩ := hx.lst
  cases hy.int
  exact .inr (.inr ⟨_, _, _, rfl, rfl, h1, by have := w.1.1; omega, by have := w.1.2.1; omega, by rw [l1.length]; exact w.1.2.2, fun p hp => k.lst s hp w.2 (l1.rep _)⟩)
theorem df_mul (ha : PE X a (lP ta)) (hb : PE X b (lP tb)) : PE X (.BinOp a .Mult b pos) (lF (d2 rMulF ta tb)) := df_op op_mulAll real_mulF ha hb
end
end L2.DL

namespace L2.DL
open PySem PySem.Spec PyProof.Rows
section
variable {X : Cx} {pos : Pos} {a b c : Expr} {ta tb tc : TDE}

/-! ### order -/
def rOrdD (fi : Int → Int → Bool) (fs : List Nat → List Nat → Bool) : RD2
  | .int i, .int j, Q => Q (.bl (fi i j))
  | .str i, .str j, Q => Q (.bl (fs i j))
  | _, _, _ => False
def opOrd (fi : Int → Int → Bool) (fs : List Nat → List Nat → Bool) : R2 := fun x y H Q => (rI0 fun i j => .bl (fi i j)) x y H Q ∨ (∃ i j : Str, x = .str i ∧ y = .str j ∧ Q (.bl (fs i.cps.toList j.cps.toList)) H)
theorem real_ord {fi : Int → Int → Bool} {fs : List Nat → List Nat → Bool} : Real2 (opOrd fi fs) (rOrdD fi fs) := by
  intro g σ H x y d e Qd Q s hx hy w k
  cases d <;> cases e <;> try exact w.elim
  · cases hx.int; cases hy.int
    exact .inl ⟨_, _, rfl, rfl, k.here s w (.bl _)⟩
  · cases hx.str; cases hy.str
    exact .inr ⟨_, _, rfl, rfl, k.here s w (.bl _)⟩
abbrev rLt := rOrdD (fun i j => decide (i < j)) (fun i j => decide (i < j))
abbrev rLe := rOrdD (fun i j => decide (i ≤ j)) (fun i j => !decide (j < i))
abbrev rGt := rOrdD (fun i j => decide (j < i)) (fun i j => decide (j < i))
abbrev rGe := rOrdD (fun i j => decide (j ≤ i)) (fun i j => !decide (i < j))
theorem op_ltA : OpR X (compareOp .Lt) (opOrd (fun i j => decide (i < j)) (fun i j => decide (i < j))) := OpR.or op_lt op_lt_str
theorem op_leA : OpR X (compareOp .LtE) (opOrd (fun i j => decide (i ≤ j)) (fun i j => !decide (j < i))) := OpR.or op_le op_le_str
theorem op_gtA : OpR X (compareOp .Gt) (opOrd (fun i j => decide (j < i)) (fun i j => decide (j < i))) := OpR.or op_gt op_gt_str
theorem op_geA : OpR X (compareOp .GtE) (opOrd (fun i j => decide (j ≤ i)) (fun i j => !decide (i < j))) := OpR.or op_ge op_ge_str
theorem de_lt (ha : PE X a (lP ta)) (hb : PE X b (lP tb)) : PE X (.Compare a [.Lt] [b] pos) (lE (d2 rLt ta tb)) := de_cmp op_ltA real_ord ha hb
theorem de_le (ha : PE X a (lP ta)) (hb : PE X b (lP tb)) : PE X (.Compare a [.LtE] [b] pos) (lE (d2 rLe ta tb)) := de_cmp op_leA real_ord ha hb
theorem de_gt (ha : PE X a (lP ta)) (hb : PE X b (lP tb)) : PE X (.Compare a [.Gt] [b] pos) (lE (d2 rGt ta tb)) := de_cmp op_gtA real_ord ha hb
theorem de_ge (ha : PE X a (lP ta)) (hb : PE X b (lP tb)) : PE X (.Compare a [.GtE] [b] pos) (lE (d2 rGe ta tb)) := de_cmp op_geA real_ord ha hb
/-- a < b < c -/
def d3 (R R' : RD2) (ta tb tc : TDE) : TDE := fun S Q => ta S fun x => tb S fun y => R x y fun z => ∃ k, z = .bl k ∧ if k = true then tc S fun w => R' y w Q else Q (.bl false)
theorem de_chain {op op' : CmpOp} {r r' : R2} {R R' : RD2} (ho : OpR X (compareOp op) r) (ho' : OpR X (compareOp op') r') (hr : Real2 r R) (hr' : Real2 r' R') (ha : PE X a (lP ta)) (hb : PE X b (lP tb)) (hc : PE X c (lP tc))
    (hm : lastMarks [op, op'] [b, c] = false := by with_unfolding_all rfl) : PE X (.Compare a [op, op'] [b, c] pos) (lE (d3 R R' ta tb tc)) := PE.imp (pe_chain ho ho' ha hb hc hm) fun σ H Q ⟨g, Qd, s, w, k⟩ =>
  ⟨g, _, s, w, fun d v H1 w1 x1 s1 r1 => ⟨g, _, s1, w1, fun d2 v2 H2 w2 x2 s2 r2 =>
    hr g σ H2 v v2 d d2 _ _ s2 (r1.ext x2) r2 w2 fun d' v' H3 q x3 s3 r3 => by
      obtain ⟨kk, e, q⟩ := q
      subst e
      cases r3
      refine ⟨kk, rfl, ?_⟩
      cases kk with
      | false => exact k (.bl false) _ H3 q ((x1.trans x2).trans x3) s3 (.bl false)
      | true =>
        exact ⟨g, _, s3, q, fun d4 v4 H4 w4 x4 s4 r4 => hr' g σ H4 v2 v4 d2 d4 Qd Q s4 ((r2.ext x3).ext x4) r4 w4 fun d' v' H' q x s' r => k d' v' H' q ((((x1.trans x2).trans x3).trans x4).trans x) s' r⟩⟩⟩
theorem de_lele (ha : PE X a (lP ta)) (hb : PE X b (lP tb)) (hc : PE X c (lP tc)) (hm : lastMarks [.LtE, .LtE] [b, c] = false := by with_unfolding_all rfl) : PE X (.Compare a [.LtE, .LtE] [b, c] pos) (lE (d3 rLe rLe ta tb tc)) := de_chain op_leA op_leA real_ord real_ord ha hb hc hm
theorem de_lelt (ha : PE X a (lP ta)) (hb : PE X b (lP tb)) (hc : PE X c (lP tc)) (hm : lastMarks [.LtE, .Lt] [b, c] = false := by with_unfolding_all rfl) : PE X (.Compare a [.LtE, .Lt] [b, c] pos) (lE (d3 rLe rLt ta tb tc)) := de_chain op_leA op_ltA real_ord real_ord ha hb hc hm

/-! ### in -/
def flatD : D → Bool
  | .non => true
  | .bl _ => true
  | .int _ => true
  | .str _ => true
  | _ => false
def inStr (x y : List Nat) : Bool := match x with
  | [c] => decide (c ∈ y)
  | _ => !(Builtin.Str.occurrences (S2 y) (S2 x) 0 y.length 1).isEmpty
def rInDD (f : Bool → Bool) : RD2 := fun x c Q => match c with
  | .str y => (match x with | .str x => Q (.bl (f (inStr x y))) | _ => False)
  | .lst ys => okD x = true ∧ okD (.lst ys) = true ∧ Q (.bl (f (ys.any fun z => deqv z x)))
  | .tup ys => flatD x = true ∧ ys.all flatD = true ∧ Q (.bl (f (ys.any fun z => deqv z x)))
  | _ => False
theorem flatD.V {g : Gh} {H : Hp} {v : V} {d : D} (h : Rp g.z g.M H v d) (f : flatD d = true) : flatV v = true ∧ ∀ v' d', Rp g.z g.M H v' d' → flatD d' = true → eqV v v' = deqv d d' := by
  cases h <;> (try (simp [flatD] at f; done))
  all_goals refine ⟨rfl, fun v' d' h' f' => ?_⟩
  all_goals (cases h' <;> (try (simp [flatD] at f'; done)))
  all_goals first | rfl | (simp [eqV, deqv, toPy, PyData.eqv])
theorem flatL.V {g : Gh} {H : Hp} {v : V} {d : D} (h : Rp g.z g.M H v d) (f : flatD d = true) : ∀ {vs : List V} {ds : List D}, RpL g.z g.M H vs ds → ds.all flatD = true → vs.all flatV = true ∧ (vs.any fun y => eqV y v) = ds.any fun z => deqv z d
  | _, _, .nil, _ => ⟨rfl, rfl⟩
  | _, _, .cons a b, hf => by
    simp only [List.all_cons, Bool.and_eq_true] at hf
    obtain ⟨i1, i2⟩ := flatL.V h f b hf.2
    obtain ⟨j1, j2⟩ := flatD.V a hf.1
    exact ⟨by simp [j1, i1], by rw [List.any_cons, List.any_cons, i2, j2 _ _ h f]⟩
theorem toPyL_any (d : D) : ∀ ds : List D, ((toPyL ds).any fun z => PyData.eqv z (toPy d)) = ds.any fun z => deqv z d
  | [] => by simp [toPyL]
  | x :: xs => by simp [toPyL, toPyL_any d xs, deqv]
def opIn (K : PySem.W.Frag) (f : Bool → Bool) : R2 := fun x y H Q => ((∃ (c : Nat) (z : Str), x = .str ⟨#[c]⟩ ∧ y = .str z ∧ Q (.bl (f (decide (c ∈ z.cps.toList)))) H) ∨
   (∃ i j, x = .str i ∧ y = .str j ∧ Q (.bl (f (!(Builtin.Str.occurrences j i 0 j.length 1).isEmpty))) H)) ∨
   ((∃ d ds, Dp K H x d ∧ Dp K H y (.list ds) ∧ SeqAt.shaped d = true ∧ SeqAt.shaped (.list ds) = true ∧ Q (.bl (f (ds.any fun z => PyData.eqv z d))) H) ∨
   ∃ p xs, y = .ref p ∧ (SqL K H p xs ∨ SqT K H p xs) ∧ flatV x = true ∧ xs.all flatV = true ∧ Q (.bl (f (inV x xs))) H)
theorem op_inA (hu : X.A.units + 65 < cLine) : OpR X (compareOp .In) (opIn X.K id) := OpR.or (OpR.or op_in_sign op_in_str) (OpR.or (op_inD hu) op_in_seq)
theorem op_notInA (hu : X.A.units + 65 < cLine) : OpR X (compareOp .NotIn) (opIn X.K not) := OpR.or (OpR.or op_notIn_sign op_notin_str) (OpR.or (op_notInD hu) op_notIn_seq)
theorem Pk.flat {g : Gh} {H : Hp} {v : V} {d : D} (h : Pk g H v d) (f : flatD d = true) : Rp g.z g.M H v d := by
  rcases h with h | ⟨a, _, _, _, o⟩
  · exact h
  · cases o <;> simp [flatD] at f
theorem real_in {K : PySem.W.Frag} {f : Bool → Bool} : Real2 (opIn K f) (rInDD f) := by
  intro g σ H x y d e Qd Q s hx hy w k
  have tup : ∀ ys, e = .tup ys → flatD d = true ∧ ys.all flatD = true ∧ Qd (.bl (f (ys.any fun z => deqv z d))) → opIn K f x y H Q := fun ys h w' => by
    subst h
    obtain ⟨p, xs, rfl, h1, l1⟩ := hy.tup
    obtain ⟨i1, i2⟩ := flatL.V (hx.flat w'.1) w'.1 l1 w'.2.1
    obtain ⟨j1, _⟩ := flatD.V (hx.flat w'.1) w'.1
    refine .inr (.inr ⟨_, _, rfl, .inr (.of h1), j1, i1, ?_⟩)
    unfold inV
    rw [i2]
    exact k.here s w'.2.2 (.bl _)
  have lst : ∀ ys, e = .lst ys → okD d = true ∧ okD (.lst ys) = true ∧ Qd (.bl (f (ys.any fun z => deqv z d))) → opIn K f x y H Q := fun ys h w' => by
    subst h
    refine .inr (.inl ⟨_, toPyL ys, hx.dp (okD.plain w'.1), hy.dp (okD.plain w'.2.1), okD.shaped w'.1, okD.shaped w'.2.1, ?_⟩)
    rw [toPyL_any]
    exact k.here s w'.2.2 (.bl _)
  cases e with
  | lst ys => exact lst ys rfl w
  | tup ys => exact tup ys rfl w
  | str z =>
    cases d <;> try exact w.elim
    rename_i z0
    cases hx.str; cases hy.str
    match z0, w with
    | [c], w => exact .inl (.inl ⟨c, S2 z, rfl, rfl, k.here s w (.bl _)⟩)
    | [], w =>
      refine .inl (.inr ⟨_, _, rfl, rfl, k.here s (d := .bl _) w ?_⟩)
      simp only [inStr, S2_length]
      exact .bl _
    | c :: c' :: r, w =>
      refine .inl (.inr ⟨_, _, rfl, rfl, k.here s (d := .bl _) w ?_⟩)
      simp only [inStr, S2_length]
      exact .bl _
  | _ => exact w.elim
theorem de_in (hu : X.A.units + 65 < cLine) (ha : PE X a (lP ta)) (hb : PE X b (lP tb)) (hm : behindInMarks .In b = false := by rfl) : PE X (.Compare a [.In] [b] pos) (lE (d2 (rInDD id) ta tb)) := de_cmp (op_inA hu) real_in ha hb hm
theorem de_notIn (hu : X.A.units + 65 < cLine) (ha : PE X a (lP ta)) (hb : PE X b (lP tb)) (hm : behindInMarks .NotIn b = false := by rfl) : PE X (.Compare a [.NotIn] [b] pos) (lE (d2 (rInDD not) ta tb)) := de_cmp (op_notInA hu) real_in ha hb hm

/-! ### is None -/
def isNon : D → Bool
  | .non => true
  | _ => false
def knownD : D → Bool
  | .raw _ => false
  | _ => true
def d1 (R : D → (D → Prop) → Prop) (ta : TDE) : TDE := fun S Q => ta S fun x => R x Q
theorem Pk.nonIff {g : Gh} {H : Hp} {v : V} {d : D} (h : Pk g H v d) (hk : knownD d = true) : decide (v = .non) = isNon d := by
  rcases h with h | ⟨a, rfl, _, _, o⟩
  · cases h <;> first | (simp [knownD] at hk; done) | rfl | (simp [isNon]; done)
  · cases o <;> simp [isNon]
theorem de_isN {j pos'} (ha : PE X a (lP ta)) : PE X (.Compare a [.Is] [.Constant .none j pos'] pos) (lE (d1 (fun d Q => knownD d = true ∧ Q (.bl (isNon d))) ta)) := PE.imp (pe_cmp (pc_isN ha)) fun σ H Q ⟨g, Qd, s, w, k⟩ =>
  ⟨g, _, s, w, fun d v H1 w1 x1 s1 r1 => by
    show Q (.bl _) H1
    rw [r1.nonIff w1.1]
    exact k _ _ H1 w1.2 x1 s1 (.bl _)⟩
theorem de_notN {j pos'} (ha : PE X a (lP ta)) : PE X (.Compare a [.IsNot] [.Constant .none j pos'] pos) (lE (d1 (fun d Q => knownD d = true ∧ Q (.bl (!isNon d))) ta)) := PE.imp (pe_cmp (pc_notN ha)) fun σ H Q ⟨g, Qd, s, w, k⟩ =>
  ⟨g, _, s, w, fun d v H1 w1 x1 s1 r1 => by
    show Q (.bl _) H1
    rw [r1.nonIff w1.1]
    exact k _ _ H1 w1.2 x1 s1 (.bl _)⟩

/-! ### and, or, not, if -/
variable {rest : List Expr}
def dAnd (ta tb : TDE) : TDE := fun S Q => ta S fun x => ∃ k, x = .bl k ∧ if k = true then tb S Q else Q (.bl false)
def dOr (ta tb : TDE) : TDE := fun S Q => ta S fun x => ∃ k, x = .bl k ∧ if k = true then Q (.bl true) else tb S Q
def dNot (ta : TDE) : TDE := fun S Q => ta S fun x => ∃ k, x = .bl k ∧ Q (.bl (!k))
theorem de_and (ha : PE X a (lP ta)) (hb : PE X (.BoolOp .And (b :: rest) pos) (lE tb)) : PE X (.BoolOp .And (a :: b :: rest) pos) (lE (dAnd ta tb)) := PE.imp (pe_and ha hb) fun σ H Q ⟨g, Qd, s, w, k⟩ =>
  ⟨g, _, s, w, fun d v H1 w1 x1 s1 r1 => by
    obtain ⟨kk, e, q⟩ := w1
    subst e
    cases r1.bl
    refine ⟨kk, rfl, ?_⟩
    cases kk with
    | false => exact k (.bl false) _ H1 q x1 s1 (.bl false)
    | true => exact ⟨g, _, s1, q, fun d' v' H' q x s' r => k d' v' H' q (x1.trans x) s' r⟩⟩
theorem de_or (ha : PE X a (lP ta)) (hb : PE X (.BoolOp .Or (b :: rest) pos) (lE tb)) : PE X (.BoolOp .Or (a :: b :: rest) pos) (lE (dOr ta tb)) := PE.imp (pe_or ha hb) fun σ H Q ⟨g, Qd, s, w, k⟩ =>
  ⟨g, _, s, w, fun d v H1 w1 x1 s1 r1 => by
    obtain ⟨kk, e, q⟩ := w1
    subst e
    cases r1.bl
    refine ⟨kk, rfl, ?_⟩
    cases kk with
    | true => exact k (.bl true) _ H1 q x1 s1 (.bl true)
    | false => exact ⟨g, _, s1, q, fun d' v' H' q x s' r => k d' v' H' q (x1.trans x) s' r⟩⟩
theorem de_one {op} (ha : PE X a (lE ta)) : PE X (.BoolOp op [a] pos) (lE ta) := pe_one ha
theorem de_not (ha : PE X a (lP ta)) : PE X (.UnaryOp .Not a pos) (lE (dNot ta)) := PE.imp (pe_not ha) fun σ H Q ⟨g, Qd, s, w, k⟩ =>
  ⟨g, _, s, w, fun d v H1 w1 x1 s1 r1 => by
    obtain ⟨kk, e, q⟩ := w1
    subst e
    cases r1.bl
    exact ⟨kk, rfl, k (.bl (!kk)) _ H1 q x1 s1 (.bl _)⟩⟩
/-- tests -/
def truD : D → (Bool → Prop) → Prop
  | .non, Q => Q false
  | .bl b, Q => Q b
  | .int i, Q => Q (i != 0)
  | .str x, Q => x.length ≤ sizeLine ∧ Q (!x.isEmpty)
  | .lst x, Q => Q (!x.isEmpty)
  | .tup x, Q => Q (!x.isEmpty)
  | _, _ => False
def dTest (ta : TDE) : TDT := fun S Q => ta S fun x => truD x Q
theorem isEmpty_len {α β : Type} {x : List α} {y : List β} (h : x.length = y.length) : (!x.isEmpty) = !y.isEmpty := by cases x <;> cases y <;> simp_all
theorem truD.V {g : Gh} {H : Hp} {v : V} {d : D} {K : PySem.W.Frag} {Qd : Bool → Prop} (h : Pk g H v d) (w : truD d Qd) : ∃ k, TruV K v H k ∧ Qd k := by
  cases d <;> try exact w.elim
  · cases h.non; exact ⟨_, rfl, w⟩
  · cases h.bl; exact ⟨_, rfl, w⟩
  · cases h.int; exact ⟨_, rfl, w⟩
  · rename_i x
    cases h.str
    refine ⟨_, ⟨by rw [S2_length]; exact w.1, rfl⟩, ?_⟩
    rw [S2_length]
    have e : (((x.length : Nat) : Int) != 0) = !x.isEmpty := by
      cases x with
      | nil => rfl
      | cons y r =>
        have : ((((y :: r).length : Nat) : Int) != 0) = true := bne_iff_ne.mpr (by rw [List.length_cons]; omega)
        rw [this]; rfl
    rw [e]
    exact w.2
  · obtain ⟨p, xs, rfl, h1, l1⟩ := h.lst
    exact ⟨_, .inl ⟨_, .of h1, rfl⟩, by rw [isEmpty_len l1.length]; exact w⟩
  · obtain ⟨p, xs, rfl, h1, l1⟩ := h.tup
    exact ⟨_, .inr (.inl ⟨_, .of h1, rfl⟩), by rw [isEmpty_len l1.length]; exact w⟩
theorem dt_val (ha : PE X a (lP ta)) (he : ∀ whole, isTrue a X.env whole = (do let v ← whole; standAt a.pos; holding [v] (truthy v)) := by intro _; rfl) : PT X a (lT (dTest ta)) := PT.imp (pt_truth ha he) fun σ H Q ⟨g, Qd, s, w, k⟩ =>
  ⟨g, _, s, w, fun d v H1 w1 x1 s1 r1 => by
    obtain ⟨kk, t, q⟩ := truD.V r1 w1
    exact ⟨kk, t, k _ H1 q x1 s1⟩⟩
end
end L2.DL

namespace L2.DL
open PySem PySem.Spec PyProof.Rows
section
variable {X : Cx} {pos : Pos} {a b c : Expr} {ta tb tc : TDE} {tt tu : TDT} {rest : List Expr} {es : List Expr}

/-! ### tests -/
def dtAnd (t u : TDT) : TDT := fun S Q => t S fun k => if k = true then u S Q else Q false
def dtOr (t u : TDT) : TDT := fun S Q => t S fun k => if k = true then Q true else u S Q
def dtNot (t : TDT) : TDT := fun S Q => t S fun k => Q (!k)
theorem dt_and1 (ha : PT X a (lT tt)) : PW X (.BoolOp .And [a] pos) (lT tt) := pw_and1 ha
theorem dt_or1 (ha : PT X a (lT tt)) : PW X (.BoolOp .Or [a] pos) (lT tt) := pw_or1 ha
theorem dt_and (ha : PT X a (lT tt)) (hb : PW X (.BoolOp .And (b :: rest) pos) (lT tu)) : PW X (.BoolOp .And (a :: b :: rest) pos) (lT (dtAnd tt tu)) := PW.imp (pw_and ha hb) fun σ H Q ⟨g, Qd, s, w, k⟩ =>
  ⟨g, _, s, w, fun kk H1 w1 x1 s1 => by
    cases kk with
    | false => exact k false H1 w1 x1 s1
    | true => exact ⟨g, _, s1, w1, fun d' H' q x s' => k d' H' q (x1.trans x) s'⟩⟩
theorem dt_or (ha : PT X a (lT tt)) (hb : PW X (.BoolOp .Or (b :: rest) pos) (lT tu)) : PW X (.BoolOp .Or (a :: b :: rest) pos) (lT (dtOr tt tu)) := PW.imp (pw_or ha hb) fun σ H Q ⟨g, Qd, s, w, k⟩ =>
  ⟨g, _, s, w, fun kk H1 w1 x1 s1 => by
    cases kk with
    | true => exact k true H1 w1 x1 s1
    | false => exact ⟨g, _, s1, w1, fun d' H' q x s' => k d' H' q (x1.trans x) s'⟩⟩
theorem dt_not (ha : PT X a (lT tt)) : PT X (.UnaryOp .Not a pos) (lT (dtNot tt)) := PT.imp (pt_not ha) fun σ H Q ⟨g, Qd, s, w, k⟩ => ⟨g, _, s, w, fun kk H1 w1 x1 s1 => k _ H1 w1 x1 s1⟩
def dIf (t : TDT) (ta tb : TDE) : TDE := fun S Q => t S fun k => if k = true then ta S Q else tb S Q
theorem de_if (hc : PT X c (lT tt)) (ha : PE X a (lE ta)) (hb : PE X b (lE tb)) : PE X (.IfExp c a b pos) (lE (dIf tt ta tb)) := PE.imp (pe_ifExp hc ha hb) fun σ H Q ⟨g, Qd, s, w, k⟩ =>
  ⟨g, _, s, w, fun kk H1 w1 x1 s1 => by
    cases kk with
    | true => exact ⟨g, _, s1, w1, fun d' v' H' q x s' r => k d' v' H' q (x1.trans x) s' r⟩
    | false => exact ⟨g, _, s1, w1, fun d' v' H' q x s' r => k d' v' H' q (x1.trans x) s' r⟩⟩
theorem Ext.none_of {z : Bz} {H H' : Hp} {a : Addr} (x : Ext z H H') (n : H' a = none) (m : ¬ isB z a) : H a = none := by
  cases e0 : H a with
  | none => rfl
  | some o => rw [x a o e0 m] at n; cases n
theorem df_if (hc : PT X c (lT tt)) (ha : PE X a (lF ta)) (hb : PE X b (lF tb)) : PE X (.IfExp c a b pos) (lF (dIf tt ta tb)) := PE.imp (pe_ifExp hc ha hb) fun σ H Q ⟨g, Qd, s, w, k⟩ =>
  ⟨g, _, s, w, fun kk H1 w1 x1 s1 => by
    cases kk with
    | true => exact ⟨g, _, s1, w1, fun d' v' H' q x s' n m r => k d' v' H' q (x1.trans x) s' (x1.none_of n fun h => m (res_M h.res)) m r⟩
    | false => exact ⟨g, _, s1, w1, fun d' v' H' q x s' n m r => k d' v' H' q (x1.trans x) s' (x1.none_of n fun h => m (res_M h.res)) m r⟩⟩

/-! ### arguments -/
inductive PkL (g : Gh) (H : Hp) : List V → List D → Prop
  | nil : PkL g H [] []
  | cons {v : V} {vs : List V} {d : D} {ds : List D} : Pk g H v d → PkL g H vs ds → PkL g H (v :: vs) (d :: ds)
def lAP (t : TDA) : TA := fun σ H Q => ∃ (g : Gh) (Qd : List D → Prop), Stt g σ H ∧ t g.S Qd ∧ ∀ ds vs H', Qd ds → Ext g.z H H' → Stt g σ H' → PkL g H' vs ds → Q vs H'
def daNil : TDA := fun _ Q => Q []
def daCons (te : TDE) (t : TDA) : TDA := fun S Q => te S fun d => t S fun ds => Q (d :: ds)
variable {e : Expr} {te : TDE} {ts : TDA}
theorem da_nil : PA X [] (lA daNil) := PA.imp pa_nil fun σ H Q ⟨g, Qd, s, w, k⟩ => k [] [] H w .refl s .nil
theorem da_cons (he : PE X e (lE te)) (hr : PA X es (lA ts)) (hs : starEach (e :: es) X.env = (false, eval e X.env) :: starEach es X.env := by rfl) : PA X (e :: es) (lA (daCons te ts)) := PA.imp (pa_cons he hr hs) fun σ H Q ⟨g, Qd, s, w, k⟩ =>
  ⟨g, _, s, w, fun d v H1 w1 x1 s1 r1 => ⟨g, _, s1, w1, fun ds vs H2 w2 x2 s2 r2 => k _ _ H2 w2 (x1.trans x2) s2 (.cons (r1.ext x2) r2)⟩⟩
theorem dap_nil : PA X [] (lAP daNil) := PA.imp pa_nil fun σ H Q ⟨g, Qd, s, w, k⟩ => k [] [] H w .refl s .nil
theorem dap_cons (he : PE X e (lP te)) (hr : PA X es (lAP ts)) (hs : starEach (e :: es) X.env = (false, eval e X.env) :: starEach es X.env := by rfl) : PA X (e :: es) (lAP (daCons te ts)) := PA.imp (pa_cons he hr hs) fun σ H Q ⟨g, Qd, s, w, k⟩ =>
  ⟨g, _, s, w, fun d v H1 w1 x1 s1 r1 => ⟨g, _, s1, w1, fun ds vs H2 w2 x2 s2 r2 => k _ _ H2 w2 (x1.trans x2) s2 (.cons (r1.ext x2) r2)⟩⟩
def dLst (t : TDA) : TDE := fun S Q => t S fun ds => ds.length ≤ sizeLine ∧ Q (.lst ds)
def dTup (t : TDA) : TDE := fun S Q => t S fun ds => ds.length ≤ sizeLine ∧ Q (.tup ds)
theorem df_lst (h : PA X es (lA ts)) : PE X (.List es pos) (lF (dLst ts)) := PE.imp (pe_lst h) fun σ H Q ⟨g, Qd, s, w, k⟩ =>
  ⟨g, _, s, w, fun ds vs H1 w1 x1 s1 r1 => ⟨by rw [r1.length]; exact w1.1, fun p hp => k (.lst ds) p _ w1.2 (x1.trans (.new hp)) (s1.alloc hp) (x1.none_of hp fun h => s1.fresh hp (res_M h.res)) (s1.fresh hp) (.lst upd_same (r1.tr (.new hp)))⟩⟩
theorem de_tup {x1} (h : PA X es (lA ts)) : PE X (.Tuple es x1 pos) (lE (dTup ts)) := PE.imp (pe_tup h) fun σ H Q ⟨g, Qd, s, w, k⟩ =>
  ⟨g, _, s, w, fun ds vs H1 w1 x1 s1 r1 => ⟨by rw [r1.length]; exact w1.1, fun p hp => k (.tup ds) _ _ w1.2 (x1.trans (.new hp)) (s1.alloc hp) (.tup upd_same (s1.fresh hp) (r1.ext (.new hp)))⟩⟩

/-! ### subscripts, slices -/
def rIxD : RD2
  | .lst xs, .int i, Q => ∃ d, atI xs i = some d ∧ Q d
  | .tup xs, .int i, Q => ∃ d, atI xs i = some d ∧ Q d
  | .str xs, .int i, Q => xs.length ≤ sizeLine ∧ ∃ c, atI xs i = some c ∧ Q (.str [c])
  | _, _, _ => False
def opIx (K : PySem.W.Frag) : R2 := fun x y H Q => rIxL K x y H Q ∨ (rIxT K x y H Q ∨ rIxS x y H Q)
theorem IxR.or {r r' : R2} (h : IxR X r) (h' : IxR X r') : IxR X (fun x y H Q => r x y H Q ∨ r' x y H Q) := by
  intro value slice pins s σ H x y v u Q I rx ry w hs
  rcases w with w | w
  · exact h value slice pins s σ H x y v u Q I rx ry w hs
  · exact h' value slice pins s σ H x y v u Q I rx ry w hs
theorem ix_all : IxR X (opIx X.K) := IxR.or ix_list (IxR.or ix_tup ix_str)
theorem real_ix {K : PySem.W.Frag} : Real2 (opIx K) rIxD := by
  intro g σ H x y d e Qd Q s hx hy w k
  cases d <;> cases e <;> try exact w.elim
  · cases hx.str; cases hy.int
    obtain ⟨w0, c, e1, q⟩ := w
    exact .inr (.inr ⟨_, _, c, rfl, rfl, by rw [S2_length]; exact w0, e1, k.here s q (.str [c])⟩)
  · obtain ⟨p, xs, rfl, h1, l1⟩ := hx.lst
    cases hy.int
    obtain ⟨d, e1, q⟩ := w
    obtain ⟨v, e2, r⟩ := l1.atI e1
    exact .inl ⟨p, xs, _, v, rfl, rfl, .of h1, e2, k.here s q r⟩
  · obtain ⟨p, xs, rfl, h1, l1⟩ := hx.tup
    cases hy.int
    obtain ⟨d, e1, q⟩ := w
    obtain ⟨v, e2, r⟩ := l1.atI e1
    exact .inr (.inl ⟨p, xs, _, v, rfl, rfl, .of h1, e2, k.here s q r⟩)
theorem de_item (ha : PE X a (lP ta)) (hb : PE X b (lP tb)) (hs : PlainIx b := by exact fun _ _ => rfl) : PE X (.Subscript a b pos) (lE (d2 rIxD ta tb)) := de_ix ix_all real_ix ha hb hs

abbrev TDO := SS → (Option Int → Prop) → Prop
def lO (t : TDO) : TO := fun σ H Q => ∃ (g : Gh) (Qd : Option Int → Prop), Stt g σ H ∧ t g.S Qd ∧ ∀ o H', Qd o → Ext g.z H H' → Stt g σ H' → Q o H'
theorem PO.imp {e : Option Expr} {t t' : TO} (h : PO X e t) (i : ∀ σ H Q, t' σ H Q → t σ H Q) : PO X e t' := ⟨fun pins s σ H Q I w => h.run pins s σ H Q I (i _ _ _ w)⟩
def doNone : TDO := fun _ Q => Q none
def doSome (t : TDE) : TDO := fun S Q => t S fun d => ∃ i, d = .int i ∧ Q (some i)
theorem do_none : PO X none (lO doNone) := PO.imp po_none fun σ H Q ⟨g, Qd, s, w, k⟩ => k none H w .refl s
theorem do_some (h : PE X e (lP te)) : PO X (some e) (lO (doSome te)) := PO.imp (po_some h) fun σ H Q ⟨g, Qd, s, w, k⟩ =>
  ⟨g, _, s, w, fun d v H1 w1 x1 s1 r1 => by
    obtain ⟨i, rfl, q⟩ := w1
    cases r1.int
    exact ⟨i, rfl, k _ H1 q x1 s1⟩⟩
def rSlD (d : D) (lo hi : Option Int) (Q : D → Prop) : Prop := match d with
  | .str x => x.length ≤ sizeLine ∧ Q (.str (cut x lo hi))
  | .lst x => Q (.lst (cut x lo hi))
  | .tup x => ¬ (HT.sIx x.length 0 lo = 0 ∧ HT.sIx x.length x.length hi = x.length) ∧ Q (.tup (cut x lo hi))
  | _ => False
def opSl (K : PySem.W.Frag) : V → Option Int → Option Int → Hp → VK → Prop := fun x lo hi H Q => rSlL K x lo hi H Q ∨ (rSlT K x lo hi H Q ∨ rSlS x lo hi H Q)
theorem sl_all : SlR X (opSl X.K) := SlR.or sl_list (SlR.or sl_tup sl_str)
theorem cutS_S2 (x : List Nat) (lo hi : Option Int) : cutS (S2 x) lo hi = S2 (cut x lo hi) := by
  unfold cutS cut
  rw [S2_length]
def dSl (te : TDE) (tl th : TDO) : TDE := fun S Q => te S fun x => tl S fun l => th S fun h => rSlD x l h Q
theorem real_sl {K : PySem.W.Frag} {g : Gh} {σ : St} {H : Hp} {x : V} {d : D} {lo hi : Option Int} {Qd : D → Prop} {Q : VK} (s : Stt g σ H) (hx : Pk g H x d) (w : rSlD d lo hi Qd) (k : RetE g σ H Qd Q) : opSl K x lo hi H Q := by
  cases d <;> try exact w.elim
  · cases hx.str
    exact .inr (.inr ⟨_, rfl, by rw [S2_length]; exact w.1, by rw [cutS_S2]; exact k.here s w.2 (.str _)⟩)
  · obtain ⟨p, xs, rfl, h1, l1⟩ := hx.lst
    exact .inl ⟨p, xs, rfl, .of h1, fun p hp => k.F.lst s hp w (l1.cut lo hi)⟩
  · obtain ⟨p, xs, rfl, h1, l1⟩ := hx.tup
    exact .inr (.inl ⟨p, xs, rfl, .of h1, by rw [l1.length]; exact w.1, fun p hp => k.tup s hp w.2 (l1.cut lo hi)⟩)
theorem de_slice {lo hi : Option Expr} {tl th : TDO} {p2 : Pos} (he : PE X e (lP te)) (hl : PO X lo (lO tl)) (hu : PO X hi (lO th)) : PE X (.Subscript e (.Slice lo hi none p2) pos) (lE (dSl te tl th)) := PE.imp (pe_slice sl_all he hl hu) fun σ H Q ⟨g, Qd, s, w, k⟩ =>
  ⟨g, _, s, w, fun d v H1 w1 x1 s1 r1 => ⟨g, _, s1, w1, fun l H2 w2 x2 s2 => ⟨g, _, s2, w2, fun u H3 w3 x3 s3 =>
    real_sl s3 ((r1.ext x2).ext x3) w3 fun d' v' H' q x s' r => k d' v' H' q (((x1.trans x2).trans x3).trans x) s' r⟩⟩⟩
def dSlF (te : TDE) (tl th : TDO) : TDE := fun S Q => te S fun x => tl S fun l => th S fun h => ∃ xs, x = .lst xs ∧ Q (.lst (cut xs l h))
theorem df_slice {lo hi : Option Expr} {tl th : TDO} {p2 : Pos} (he : PE X e (lP te)) (hl : PO X lo (lO tl)) (hu : PO X hi (lO th)) : PE X (.Subscript e (.Slice lo hi none p2) pos) (lF (dSlF te tl th)) := PE.imp (pe_slice sl_all he hl hu) fun σ H Q ⟨g, Qd, s, w, k⟩ =>
  ⟨g, _, s, w, fun d v H1 w1 x1 s1 r1 => ⟨g, _, s1, w1, fun l H2 w2 x2 s2 => ⟨g, _, s2, w2, fun u H3 w3 x3 s3 => by
    obtain ⟨xs, rfl, q⟩ := w3
    obtain ⟨p, vs, rfl, h1, l1⟩ := ((r1.ext x2).ext x3).lst
    refine .inl ⟨p, vs, rfl, .of h1, fun p hp => ?_⟩
    have x0 := (x1.trans x2).trans x3
    exact k (.lst (cut xs l u)) p _ q (x0.trans (.new hp)) (s3.alloc hp) (x0.none_of hp fun h => s3.fresh hp (res_M h.res)) (s3.fresh hp) (.lst upd_same ((l1.cut l u).tr (.new hp)))⟩⟩⟩

/-! ### calls of built-ins by values -/
abbrev RDC := List D → (D → Prop) → Prop
def RealC (r : List V → Hp → VK → Prop) (R : RDC) : Prop := ∀ (g : Gh) (σ : St) (H : Hp) (xs : List V) (ds : List D) (Qd : D → Prop) (Q : VK), Stt g σ H → PkL g H xs ds → R ds Qd → RetE g σ H Qd Q → r xs H Q
def RealCF (r : List V → Hp → VK → Prop) (R : RDC) : Prop := ∀ (g : Gh) (σ : St) (H : Hp) (xs : List V) (ds : List D) (Qd : D → Prop) (Q : VK), Stt g σ H → PkL g H xs ds → R ds Qd → RetF g σ H Qd Q → r xs H Q
def dCall (R : RDC) (ts : TDA) : TDE := fun S Q => ts S fun ds => R ds Q
theorem liftC {r : List V → Hp → VK → Prop} {R : RDC} (hr : RealC r R) (h : PE X e (tCB r (lAP ts))) : PE X e (lE (dCall R ts)) := PE.imp h fun σ H Q ⟨g, Qd, s, w, k⟩ =>
  ⟨g, _, s, w, fun ds vs H1 w1 x1 s1 r1 => hr g σ H1 vs ds Qd Q s1 r1 w1 fun d' v' H' q x s' r => k d' v' H' q (x1.trans x) s' r⟩
theorem liftCF {r : List V → Hp → VK → Prop} {R : RDC} (hr : RealCF r R) (h : PE X e (tCB r (lAP ts))) : PE X e (lF (dCall R ts)) := PE.imp h fun σ H Q ⟨g, Qd, s, w, k⟩ =>
  ⟨g, _, s, w, fun ds vs H1 w1 x1 s1 r1 => hr g σ H1 vs ds Qd Q s1 r1 w1 fun d' v' H' q x s' n m r => k d' v' H' q (x1.trans x) s' (x1.none_of n fun h => m (res_M h.res)) m r⟩
theorem CallR.or {f : Value} {r r' : List V → Hp → VK → Prop} (h : CallR X f r) (h' : CallR X f r') : CallR X f (fun x H Q => r x H Q ∨ r' x H Q) := by
  intro pins s σ H xs us Q I rv w
  rcases w with w | w
  · exact h pins s σ H xs us Q I rv w
  · exact h' pins s σ H xs us Q I rv w
end
end L2.DL

namespace L2.DL
open PySem PySem.Spec PyProof.Rows
section
variable {X : Cx} {pos p : Pos} {a b c : Expr} {ta tb tc : TDE} {es : List Expr} {e : Expr} {te : TDE} {ts : TDA} {x : Str}

theorem PkL.one {g : Gh} {H : Hp} {vs : List V} {d : D} (h : PkL g H vs [d]) : ∃ v, vs = [v] ∧ Pk g H v d := by
  cases h with | cons a b => cases b; exact ⟨_, rfl, a⟩
theorem PkL.two {g : Gh} {H : Hp} {vs : List V} {d d' : D} (h : PkL g H vs [d, d']) : ∃ v v', vs = [v, v'] ∧ Pk g H v d ∧ Pk g H v' d' := by
  cases h with | cons a b => cases b with | cons b c => cases c; exact ⟨_, _, rfl, a, b⟩
/-- a built-in function, a built-in class, called by its name -/
theorem de_callB {id : String} {r : List V → Hp → VK → Prop} {R : RDC} (hc : CallR X (.builtin id) r) (hr : RealC r R) (hg : Gl X x) (hm : X.mg x = none) (hv : bootBuiltins x = some (.builtin id)) (ha : PA X (e :: es) (lAP ts)) (hn : x ≠ "__name__" := by decide) (hdb : (x == ("__debug__" : Str)) = false := by decide)
    (he : starEach (e :: es) X.env = (false, eval e X.env) :: starEach es X.env := by rfl) (hpl : (backTo pos (starEach es X.env)).any (·.1) = false := by rfl) : PE X (.Call (.Name x p) (e :: es) [] pos) (lE (dCall R ts)) := liftC hr (pe_callB hc hg hm hv ha hn hdb he hpl)
theorem df_callB {id : String} {r : List V → Hp → VK → Prop} {R : RDC} (hc : CallR X (.builtin id) r) (hr : RealCF r R) (hg : Gl X x) (hm : X.mg x = none) (hv : bootBuiltins x = some (.builtin id)) (ha : PA X (e :: es) (lAP ts)) (hn : x ≠ "__name__" := by decide) (hdb : (x == ("__debug__" : Str)) = false := by decide)
    (he : starEach (e :: es) X.env = (false, eval e X.env) :: starEach es X.env := by rfl) (hpl : (backTo pos (starEach es X.env)).any (·.1) = false := by rfl) : PE X (.Call (.Name x p) (e :: es) [] pos) (lF (dCall R ts)) := liftCF hr (pe_callB hc hg hm hv ha hn hdb he hpl)
theorem de_callTy {T : String} {r : List V → Hp → VK → Prop} {R : RDC} (hc : CallR X (.type T) r) (hr : RealC r R) (hg : Gl X x) (hm : X.mg x = none) (hv : bootBuiltins x = some (.type T)) (ha : PA X (e :: es) (lAP ts)) (hn : x ≠ "__name__" := by decide) (hdb : (x == ("__debug__" : Str)) = false := by decide)
    (he : starEach (e :: es) X.env = (false, eval e X.env) :: starEach es X.env := by rfl) (hpl : (backTo pos (starEach es X.env)).any (·.1) = false := by rfl) : PE X (.Call (.Name x p) (e :: es) [] pos) (lE (dCall R ts)) := liftC hr (pe_callTy hc hg hm hv ha hn hdb he hpl)
theorem df_callTy {T : String} {r : List V → Hp → VK → Prop} {R : RDC} (hc : CallR X (.type T) r) (hr : RealCF r R) (hg : Gl X x) (hm : X.mg x = none) (hv : bootBuiltins x = some (.type T)) (ha : PA X (e :: es) (lAP ts)) (hn : x ≠ "__name__" := by decide) (hdb : (x == ("__debug__" : Str)) = false := by decide)
    (he : starEach (e :: es) X.env = (false, eval e X.env) :: starEach es X.env := by rfl) (hpl : (backTo pos (starEach es X.env)).any (·.1) = false := by rfl) : PE X (.Call (.Name x p) (e :: es) [] pos) (lF (dCall R ts)) := liftCF hr (pe_callTy hc hg hm hv ha hn hdb he hpl)

/-! ### len -/
def rLenD : RDC
  | [.str x], Q => x.length ≤ sizeLine ∧ Q (.int x.length)
  | [.lst x], Q => Q (.int x.length)
  | [.tup x], Q => Q (.int x.length)
  | _, _ => False
theorem real_len {K : PySem.W.Frag} : RealC (fun xs H Q => ∃ x n, xs = [x] ∧ LenV K x H n ∧ Q (.int n) H) rLenD := by
  intro g σ H xs ds Qd Q s hx w k
  match ds, w, hx with
  | [.str x], w, hx =>
    obtain ⟨v, rfl, h⟩ := hx.one
    cases h.str
    refine ⟨_, (S2 x).length, rfl, ⟨by rw [S2_length]; exact w.1, rfl⟩, ?_⟩
    rw [S2_length]
    exact k.here s w.2 (.int _)
  | [.lst x], w, hx =>
    obtain ⟨v, rfl, h⟩ := hx.one
    obtain ⟨p, xs, rfl, h1, l1⟩ := h.lst
    exact ⟨_, _, rfl, .inl ⟨_, .of h1, rfl⟩, by rw [l1.length]; exact k.here s w (.int _)⟩
  | [.tup x], w, hx =>
    obtain ⟨v, rfl, h⟩ := hx.one
    obtain ⟨p, xs, rfl, h1, l1⟩ := h.tup
    exact ⟨_, _, rfl, .inr ⟨_, .of h1, rfl⟩, by rw [l1.length]; exact k.here s w (.int _)⟩
theorem de_len (hm : X.mg "len" = none) (ha : PA X [e] (lAP ts)) (hg : Gl X "len" := by rfl) (he : starEach [e] X.env = (false, eval e X.env) :: starEach [] X.env := by rfl) : PE X (.Call (.Name "len" p) [e] [] pos) (lE (dCall rLenD ts)) := de_callB call_len real_len hg hm PySem.boot_len ha (he := he) (hpl := by rfl)

/-! ### int, min, max, all, any, list, tuple, str -/
def rIntD : RDC
  | [.int i], Q => Q (.int i)
  | [.bl b], Q => Q (.int (if b then 1 else 0))
  | [.str s], Q => ∃ n, PySem.intText? (S2 s) = some n ∧ s.length ≤ 640 ∧ Q (.int n)
  | _, _ => False
def opInt : List V → Hp → VK → Prop := fun xs H Q => ((∃ i, xs = [.int i] ∧ Q (.int i) H) ∨ ∃ k, xs = [.bl k] ∧ Q (.int (if k then 1 else 0)) H) ∨ (∃ x n, xs = [.str x] ∧ PySem.intText? x = some n ∧ x.length ≤ 640 ∧ Q (.int n) H)
theorem call_intA : CallR X (.type "int") opInt := CallR.or call_int1 call_int_str
theorem real_int : RealC opInt rIntD := by
  intro g σ H xs ds Qd Q s hx w k
  match ds, w, hx with
  | [.int i], w, hx =>
    obtain ⟨v, rfl, h⟩ := hx.one
    cases h.int
    exact .inl (.inl ⟨_, rfl, k.here s w (.int _)⟩)
  | [.bl i], w, hx =>
    obtain ⟨v, rfl, h⟩ := hx.one
    cases h.bl
    exact .inl (.inr ⟨_, rfl, k.here s w (.int _)⟩)
  | [.str i], w, hx =>
    obtain ⟨v, rfl, h⟩ := hx.one
    cases h.str
    obtain ⟨n, e1, e2, q⟩ := w
    exact .inr ⟨_, n, rfl, e1, by rw [S2_length]; exact e2, k.here s q (.int _)⟩
theorem de_intc (hm : X.mg "int" = none) (ha : PA X [e] (lAP ts)) (hg : Gl X "int" := by rfl) (he : starEach [e] X.env = (false, eval e X.env) :: starEach [] X.env := by rfl) : PE X (.Call (.Name "int" p) [e] [] pos) (lE (dCall rIntD ts)) := de_callTy call_intA real_int hg hm (by decide +kernel) ha (he := he) (hpl := by rfl)
def rMM (f : Int → Int → Int) : RDC
  | [.int i, .int j], Q => Q (.int (f i j))
  | _, _ => False
theorem real_mm {f : Int → Int → Int} : RealC (fun xs H Q => ∃ i j, xs = [.int i, .int j] ∧ Q (.int (f i j)) H) (rMM f) := by
  intro g σ H xs ds Qd Q s hx w k
  match ds, w, hx with
  | [.int i, .int j], w, hx =>
    obtain ⟨v, v', rfl, h, h'⟩ := hx.two
    cases h.int; cases h'.int
    exact ⟨_, _, rfl, k.here s w (.int _)⟩
theorem de_min2 (hm : X.mg "min" = none) (ha : PA X [a, b] (lAP ts)) (hc : X.calm = true := by rfl) (hg : Gl X "min" := by rfl) (he : starEach [a, b] X.env = (false, eval a X.env) :: starEach [b] X.env := by rfl) (hpl : (backTo pos (starEach [b] X.env)).any (·.1) = false := by rfl) : PE X (.Call (.Name "min" p) [a, b] [] pos) (lE (dCall (rMM fun i j => if j < i then j else i) ts)) := de_callB (call_min2 hc) real_mm hg hm (by decide +kernel) ha (he := he) (hpl := hpl)
theorem de_max2 (hm : X.mg "max" = none) (ha : PA X [a, b] (lAP ts)) (hc : X.calm = true := by rfl) (hg : Gl X "max" := by rfl) (he : starEach [a, b] X.env = (false, eval a X.env) :: starEach [b] X.env := by rfl) (hpl : (backTo pos (starEach [b] X.env)).any (·.1) = false := by rfl) : PE X (.Call (.Name "max" p) [a, b] [] pos) (lE (dCall (rMM fun i j => if j > i then j else i) ts)) := de_callB (call_max2 hc) real_mm hg hm (by decide +kernel) ha (he := he) (hpl := hpl)
def bools : List D → Option (List Bool)
  | [] => some []
  | .bl b :: r => (bools r).map (b :: ·)
  | _ :: _ => none
theorem bools_eq : ∀ {ds : List D} {bs : List Bool}, bools ds = some bs → ds = bs.map D.bl
  | [], bs, h => by simp [bools] at h; subst h; rfl
  | .bl b :: r, bs, h => by
    simp [bools] at h
    obtain ⟨c, h1, h2⟩ := h
    subst h2
    rw [bools_eq h1]; rfl
theorem bools_map (bs : List Bool) : bools (bs.map D.bl) = some bs := by
  induction bs with
  | nil => rfl
  | cons b r ih => simp [bools, ih]
theorem RpL.bls {z : Bz} {M : MS} {H : Hp} : ∀ {vs : List V} {ns : List Bool}, RpL z M H vs (ns.map D.bl) → vs = ns.map V.bl
  | _, [], .nil => rfl
  | _, n :: ns, .cons a b => by cases a; rw [b.bls]; rfl
def rAllD (f : List Bool → Bool) : RDC
  | [.lst x], Q => ∃ bs, bools x = some bs ∧ Q (.bl (f bs))
  | _, _ => False
theorem real_allD {K : PySem.W.Frag} {f : List Bool → Bool} : RealC (fun vs H Q => ∃ (a : Addr) (bs : List Bool), vs = [V.ref a] ∧ SqL K H a (bs.map V.bl) ∧ Q (.bl (f bs)) H) (rAllD f) := by
  intro g σ H xs ds Qd Q s hx w k
  match ds, w, hx with
  | [.lst x], w, hx =>
    obtain ⟨v, rfl, h⟩ := hx.one
    obtain ⟨p, xs, rfl, h1, l1⟩ := h.lst
    obtain ⟨bs, e, q⟩ := w
    rw [bools_eq e] at l1
    rw [l1.bls] at h1
    exact ⟨p, bs, rfl, .of h1, k.here s q (.bl _)⟩
theorem de_all (hm : X.mg "all" = none) (ha : PA X [e] (lAP ts)) (hc : X.calm = true := by rfl) (hg : Gl X "all" := by rfl) (he : starEach [e] X.env = (false, eval e X.env) :: starEach [] X.env := by rfl) : PE X (.Call (.Name "all" p) [e] [] pos) (lE (dCall (rAllD fun bs => bs.all id) ts)) := de_callB (cr_all hc) real_allD hg hm (by decide +kernel) ha (he := he) (hpl := by rfl)
theorem de_any (hm : X.mg "any" = none) (ha : PA X [e] (lAP ts)) (hc : X.calm = true := by rfl) (hg : Gl X "any" := by rfl) (he : starEach [e] X.env = (false, eval e X.env) :: starEach [] X.env := by rfl) : PE X (.Call (.Name "any" p) [e] [] pos) (lE (dCall (rAllD fun bs => bs.any id) ts)) := de_callB (cr_any hc) real_allD hg hm (by decide +kernel) ha (he := he) (hpl := by rfl)
def rListD : RDC
  | [.lst x], Q => Q (.lst x)
  | [.tup x], Q => Q (.lst x)
  | _, _ => False
theorem real_list {K : PySem.W.Frag} : RealCF (fun xs H Q => ∃ p ys, xs = [.ref p] ∧ (SqL K H p ys ∨ SqT K H p ys) ∧ ∀ l, H l = none → Q (.ref l) (upd H l (.lst ys))) rListD := by
  intro g σ H xs ds Qd Q s hx w k
  match ds, w, hx with
  | [.lst x], w, hx =>
    obtain ⟨v, rfl, h⟩ := hx.one
    obtain ⟨p, xs, rfl, h1, l1⟩ := h.lst
    exact ⟨p, xs, rfl, .inl (.of h1), fun l hl => k.lst s hl w l1⟩
  | [.tup x], w, hx =>
    obtain ⟨v, rfl, h⟩ := hx.one
    obtain ⟨p, xs, rfl, h1, l1⟩ := h.tup
    exact ⟨p, xs, rfl, .inr (.of h1), fun l hl => k.lst s hl w l1⟩
theorem df_listc (hm : X.mg "list" = none) (ha : PA X [e] (lAP ts)) (hg : Gl X "list" := by rfl) (he : starEach [e] X.env = (false, eval e X.env) :: starEach [] X.env := by rfl) : PE X (.Call (.Name "list" p) [e] [] pos) (lF (dCall rListD ts)) := df_callTy call_list_of real_list hg hm (by decide +kernel) ha (he := he) (hpl := by rfl)
def rTupD : RDC
  | [.lst x], Q => Q (.tup x)
  | [.tup x], Q => Q (.tup x)
  | _, _ => False
theorem real_tuple {K : PySem.W.Frag} : RealC (fun xs H Q => ∃ p ys, xs = [.ref p] ∧ ((SqL K H p ys ∧ ∀ l, H l = none → Q (.ref l) (upd H l (.tup ys))) ∨ (SqT K H p ys ∧ Q (.ref p) H))) rTupD := by
  intro g σ H xs ds Qd Q s hx w k
  match ds, w, hx with
  | [.lst x], w, hx =>
    obtain ⟨v, rfl, h⟩ := hx.one
    obtain ⟨p, xs, rfl, h1, l1⟩ := h.lst
    exact ⟨p, xs, rfl, .inl ⟨.of h1, fun l hl => k.tup s hl w l1⟩⟩
  | [.tup x], w, hx =>
    obtain ⟨v, rfl, h⟩ := hx.one
    rcases h with h | ⟨a, e, _, _, o⟩
    · cases h with
      | tup h1 n l1 => exact ⟨_, _, rfl, .inr ⟨.of h1, k.here s w (.tup h1 n l1)⟩⟩
    · cases o
theorem de_tuplec (hm : X.mg "tuple" = none) (ha : PA X [e] (lAP ts)) (hg : Gl X "tuple" := by rfl) (he : starEach [e] X.env = (false, eval e X.env) :: starEach [] X.env := by rfl) : PE X (.Call (.Name "tuple" p) [e] [] pos) (lE (dCall rTupD ts)) := de_callTy call_tuple_of real_tuple hg hm (by decide +kernel) ha (he := he) (hpl := by rfl)
/-- str(n) -/
def decOf (n : Int) : List Nat := (Str.ofString (toString n)).cps.toList
def rStrI : RDC
  | [.int i], Q => i.natAbs.log2 < 1920 ∧ Q (.str (decOf i))
  | _, _ => False
theorem real_strI : RealC (fun xs H Q => ∃ i : Int, xs = [.int i] ∧ i.natAbs.log2 < 1920 ∧ Q (.str (toString i)) H) rStrI := by
  intro g σ H xs ds Qd Q s hx w k
  match ds, w, hx with
  | [.int i], w, hx =>
    obtain ⟨v, rfl, h⟩ := hx.one
    cases h.int
    exact ⟨_, rfl, w.1, k.here s w.2 (.str _)⟩
theorem de_strI (hm : X.mg "str" = none) (ha : PA X [e] (lAP ts)) (hg : Gl X "str" := by rfl) (he : starEach [e] X.env = (false, eval e X.env) :: starEach [] X.env := by rfl) : PE X (.Call (.Name "str" p) [e] [] pos) (lE (dCall rStrI ts)) := de_callTy call_str_int real_strI hg hm (by decide +kernel) ha (he := he) (hpl := by rfl)

/-! ### isinstance -/
def tyN : D → Option String
  | .non => some "NoneType"
  | .bl _ => some "bool"
  | .int _ => some "int"
  | .str _ => some "str"
  | .lst _ => some "list"
  | .tup _ => some "tuple"
  | _ => none
theorem Pk.ty {g : Gh} {H : Hp} {v : V} {d : D} {n : String} {K : PySem.W.Frag} (h : Pk g H v d) (e : tyN d = some n) : TyX K H v (.type n) := by
  rcases h with h | ⟨a, rfl, _, _, o⟩
  · cases h <;> first | (simp [tyN] at e; done) | (simp [tyN] at e; subst e)
    · exact .base .non
    · exact .base (.bl _)
    · exact .base (.int _)
    · exact .base (.str _)
    · exact .base (.lst (by assumption))
    · exact .base (.tup (by assumption))
  · cases o <;> first | (simp [tyN] at e; done) | (simp [tyN] at e; subst e)
    exact .base (.lst (by assumption))
def isIntD : D → Bool
  | .int _ => true
  | .bl _ => true
  | _ => false
def isBoolD : D → Bool
  | .bl _ => true
  | _ => false
def isStrD : D → Bool
  | .str _ => true
  | _ => false
def isListD : D → Bool
  | .lst _ => true
  | _ => false
def isTupD : D → Bool
  | .tup _ => true
  | _ => false
def isSeqD : D → Bool
  | .lst _ => true
  | .tup _ => true
  | _ => false
/-- the answers for data that the built-in classes tell -/
def IsTab (T : String) (f : D → Bool) : Prop := ∀ d n, tyN d = some n → kitB n T = some (f d)
theorem tab_of {T : String} {f : D → Bool} (h0 : kitB "NoneType" T = some (f .non)) (h1 : ∀ b, kitB "bool" T = some (f (.bl b))) (h2 : ∀ b, kitB "int" T = some (f (.int b))) (h3 : ∀ b, kitB "str" T = some (f (.str b))) (h4 : ∀ b, kitB "list" T = some (f (.lst b))) (h5 : ∀ b, kitB "tuple" T = some (f (.tup b))) : IsTab T f := by
  intro d n e
  cases d <;> simp [tyN] at e <;> subst e
  · exact h0
  · exact h1 _
  · exact h2 _
  · exact h3 _
  · exact h4 _
  · exact h5 _
theorem tab_int : IsTab "int" isIntD := tab_of (by decide +kernel) (fun _ => by show _ = some true; decide +kernel) (fun _ => by show _ = some true; decide +kernel) (fun _ => by show _ = some false; decide +kernel) (fun _ => by show _ = some false; decide +kernel) (fun _ => by show _ = some false; decide +kernel)
theorem tab_bool : IsTab "bool" isBoolD := tab_of (by decide +kernel) (fun _ => by show _ = some true; decide +kernel) (fun _ => by show _ = some false; decide +kernel) (fun _ => by show _ = some false; decide +kernel) (fun _ => by show _ = some false; decide +kernel) (fun _ => by show _ = some false; decide +kernel)
theorem tab_str : IsTab "str" isStrD := tab_of (by decide +kernel) (fun _ => by show _ = some false; decide +kernel) (fun _ => by show _ = some false; decide +kernel) (fun _ => by show _ = some true; decide +kernel) (fun _ => by show _ = some false; decide +kernel) (fun _ => by show _ = some false; decide +kernel)
theorem tab_list : IsTab "list" isListD := tab_of (by decide +kernel) (fun _ => by show _ = some false; decide +kernel) (fun _ => by show _ = some false; decide +kernel) (fun _ => by show _ = some false; decide +kernel) (fun _ => by show _ = some true; decide +kernel) (fun _ => by show _ = some false; decide +kernel)
theorem tab_tup : IsTab "tuple" isTupD := tab_of (by decide +kernel) (fun _ => by show _ = some false; decide +kernel) (fun _ => by show _ = some false; decide +kernel) (fun _ => by show _ = some false; decide +kernel) (fun _ => by show _ = some false; decide +kernel) (fun _ => by show _ = some true; decide +kernel)
def rIsiD (T : String) (f : D → Bool) : RDC
  | [d, .raw (.ty T')], Q => T' = T ∧ (tyN d).isSome = true ∧ Q (.bl (f d))
  | _, _ => False
theorem real_isi {K : PySem.W.Frag} {T : String} {f : D → Bool} (t : IsTab T f) : RealC (rIsi K) (rIsiD T f) := by
  intro g σ H xs ds Qd Q s hx w k
  match ds, w, hx with
  | [d, .raw (.ty T')], w, hx =>
    obtain ⟨v, v', rfl, h, h'⟩ := hx.two
    cases h'.raw
    obtain ⟨rfl, e, q⟩ := w
    obtain ⟨n, e⟩ := Option.isSome_iff_exists.mp e
    exact ⟨v, _, _, _, f d, rfl, .ty _, h.ty e, kit_ty (t d n e), k.here s q (.bl _)⟩
theorem de_isi {T : String} {f : D → Bool} (t : IsTab T f) (hm : X.mg "isinstance" = none) (ha : PA X [a, b] (lAP ts)) (hg : Gl X "isinstance" := by rfl) (he : starEach [a, b] X.env = (false, eval a X.env) :: starEach [b] X.env := by rfl) (hpl : (backTo pos (starEach [b] X.env)).any (·.1) = false := by rfl) : PE X (.Call (.Name "isinstance" p) [a, b] [] pos) (lE (dCall (rIsiD T f) ts)) := de_callB call_isi (real_isi t) hg hm (by decide +kernel) ha (he := he) (hpl := hpl)
/-- isinstance(x, (list, tuple)) -/
def rIsiLT : RDC
  | [d, .tup [.raw (.ty T), .raw (.ty T')]], Q => T = "list" ∧ T' = "tuple" ∧ (tyN d).isSome = true ∧ Q (.bl (isSeqD d))
  | _, _ => False
theorem real_isiLT {K : PySem.W.Frag} : RealC (rIsiT K) rIsiLT := by
  intro g σ H xs ds Qd Q s hx w k
  match ds, w, hx with
  | [d, .tup [.raw (.ty T), .raw (.ty T')]], w, hx =>
    obtain ⟨v, v', rfl, h, h'⟩ := hx.two
    obtain ⟨p, xs, rfl, h1, l1⟩ := h'.tup
    rcases l1 with _ | ⟨r1, l1⟩
    rcases l1 with _ | ⟨r2, l1⟩
    cases l1
    cases r1
    cases r2
    obtain ⟨rfl, rfl, e, q⟩ := w
    obtain ⟨n, e⟩ := Option.isSome_iff_exists.mp e
    refine ⟨v, p, _, _, _, isSeqD d, rfl, h1, .cons (.ty _) (.cons (.ty _) .nil), h.ty e, ?_, k.here s q (.bl _)⟩
    refine kitAny_cons (kit_ty (tab_list d n e)) (fun e1 => kitAny_cons (kit_ty (tab_tup d n e)) (fun e2 => ?_) fun e2 => ?_) fun e1 => ?_
    · have : isSeqD d = false := by cases d <;> simp_all [isSeqD, isListD, isTupD]
      rw [this]; exact kitAny_nil
    · cases d <;> simp_all [isSeqD, isListD, isTupD]
    · cases d <;> simp_all [isSeqD, isListD, isTupD]
theorem de_isiLT (hm : X.mg "isinstance" = none) (ha : PA X [a, b] (lAP ts)) (hg : Gl X "isinstance" := by rfl) (he : starEach [a, b] X.env = (false, eval a X.env) :: starEach [b] X.env := by rfl) (hpl : (backTo pos (starEach [b] X.env)).any (·.1) = false := by rfl) : PE X (.Call (.Name "isinstance" p) [a, b] [] pos) (lE (dCall rIsiLT ts)) := de_callB call_isiT real_isiLT hg hm (by decide +kernel) ha (he := he) (hpl := hpl)
/-- a built-in class as a value -/
theorem de_ty {T : String} (hm : X.mg x = none) (hv : bootBuiltins x = some (.type T)) (hg : Gl X x := by rfl) (hn : x ≠ "__name__" := by decide) (hdb : (x == ("__debug__" : Str)) = false := by decide) : PE X (.Name x pos) (lE (dC (.raw (.ty T)))) := de_C (pe_bltn (v := .ty T) hg hm hv rfl hn hdb) fun _ _ _ => .raw _
theorem de_gint {i : Int} (hm : ∃ t, X.mg x = some (.int i t)) (hg : Gl X x := by rfl) (hdb : (x == ("__debug__" : Str)) = false := by decide) : PE X (.Name x pos) (lE (dC (.int i))) := by
  obtain ⟨t, hm⟩ := hm
  exact de_C (pe_glob (v := .int i) hg hm ⟨t, rfl⟩ hdb) fun _ _ _ => .int _
theorem de_gstr {i : Str} (hm : ∃ t, X.mg x = some (.str i t)) (hg : Gl X x := by rfl) (hdb : (x == ("__debug__" : Str)) = false := by decide) : PE X (.Name x pos) (lE (dC (.str i.cps.toList))) := by
  obtain ⟨t, hm⟩ := hm
  exact de_C (pe_glob (v := .str i) hg hm ⟨t, rfl⟩ hdb) fun _ _ _ => .str _
end
end L2.DL

namespace L2.DL
open PySem PySem.Spec PyProof.Rows

/-! ### contracts of defs -/
abbrev TDF := List D → (D → Prop) → Prop
structure Amb (z : Bz) (M : MS) (H : Hp) : Prop where
  bag : BagOk z H
  alive : ∀ a, M a → Nt H a
  res : ∀ a, resB z a → M a
theorem Stt.amb {g : Gh} {σ : St} {H : Hp} (s : Stt g σ H) : Amb g.z g.M H := ⟨s.bag, s.alive, fun _ h => res_M h⟩
def spE (n : Nat) (tf : TDF) : Sp := fun vs H Q _ => vs.length = n ∧ ∃ (z : Bz) (M : MS) (ds : List D) (Qd : D → Prop), Amb z M H ∧ RpL z M H vs ds ∧ tf ds Qd ∧ ∀ d v H', Qd d → Ext z H H' → BagOk z H' → Rp z M H' v d → Q v H'
def spF (n : Nat) (tf : TDF) : Sp := fun vs H Q _ => vs.length = n ∧ ∃ (z : Bz) (M : MS) (ds : List D) (Qd : D → Prop), Amb z M H ∧ RpL z M H vs ds ∧ tf ds Qd ∧ ∀ d a H', Qd d → Ext z H H' → BagOk z H' → H a = none → ¬ M a → OwF z M H' a d → Q (.ref a) H'
/-- the state at a def's start -/
def gh0 (z : Bz) (M : MS) (H : Hp) (N : List Str) (ds : List D) : Gh := ⟨z, M, H, H, M, fun _ => none, ds.map .val ++ List.replicate (N.length - ds.length) .no⟩
theorem mo_none {z : Bz} {M : MS} (h : ∀ a, resB z a → M a) : Mo M z (fun _ => none) = M := by
  funext a
  apply propext
  constructor
  · rintro (h1 | h1 | ⟨i, h1⟩)
    · exact h1
    · exact h a h1
    · cases h1
  · exact .inl
theorem start_eq (N : List Str) (vs : List V) : start N vs = vs.map some ++ List.replicate (N.length - vs.length) none := rfl
theorem stt0 {z : Bz} {M : MS} {H : Hp} {N : List Str} {vs : List V} {ds : List D} (A : Amb z M H) (r : RpL z M H vs ds) : Stt (gh0 z M H N ds) (start N vs) H := by
  have hM : (gh0 z M H N ds).M = M := mo_none A.res
  have hl := r.length
  refine ⟨?_, fun i d e => ?_, fun i d e => ?_, (fun i j a e => nomatch e), (fun i a e => nomatch e), fun a h => ?_, Ext.refl, A.bag, Ext.refl, fun _ h => h, fun a h => (A.alive a h).ne, fun i E Ed e => ?_, fun i p e => ?_, fun _ h => .inl h⟩
  · rw [start_eq]; simp [gh0, hl]
  · rw [hM]
    show ∃ v, (start N vs)[i]? = some (some v) ∧ Rp z M H v d
    have e' : (ds.map Sl.val ++ List.replicate (N.length - ds.length) .no)[i]? = some (.val d) := e
    by_cases hi : i < ds.length
    · rw [List.getElem?_append_left (by simpa using hi), List.getElem?_map] at e'
      cases q : ds[i]? with
      | none => rw [q] at e'; cases e'
      | some d' =>
        rw [q] at e'
        cases e'
        obtain ⟨v, h1, h2⟩ := r.get q
        refine ⟨v, ?_, h2⟩
        rw [start_eq, List.getElem?_append_left (by simp; omega), List.getElem?_map, h1]; rfl
    · rw [List.getElem?_append_right (by simp; omega)] at e'
      have := List.mem_of_getElem? e'
      simp at this
  · have e' : (ds.map Sl.val ++ List.replicate (N.length - ds.length) .no)[i]? = some (.own d) := e
    have := List.mem_of_getElem? e'
    simp at this
  · rw [hM] at h; exact A.alive a h
  · have e' : (ds.map Sl.val ++ List.replicate (N.length - ds.length) .no)[i]? = some (.ex E Ed) := e
    have := List.mem_of_getElem? e'
    simp at this
  · have e' : (ds.map Sl.val ++ List.replicate (N.length - ds.length) .no)[i]? = some (.zz p) := e
    have := List.mem_of_getElem? e'
    simp at this

/-- a def by its body, over data -/
theorem ok_E {P : Program} {w : World} {K : PySem.W.Frag} {mg : Str → Option Value} {base : Heap} {x qual : Str} {st : Stmt} {f : Addr} {fd : FuncData} {N ps : List Str} {k : Nat} {n : Nat} {tf : TDF} {dfv : List V} {kwv : List (Str × V)} (F : FunD K x qual (defArgs st) (defBody st) (defScope st) dfv kwv f fd) (S : FnScope N ps (defScope st)) (hn : ps.length = n := by rfl)
    (hb : ∀ (cdv : Value) (A : Around) (outer : List Env) (s : Shared) (H : Hp) (E : XK), Room k (A.deeper (envOfC qual (defScope st) s.heap.objs.size f cdv)) → ∃ t : TDS, PSs (cxOf CX0 P w K mg base N qual (defScope st) f cdv A outer s H E).nox (defBody st) (lS t) ∧
      ∀ ds Qd, ds.length = n → tf ds Qd → t { nx := fun _ => Qd .non, rt := Qd, rf := Qd } (ds.map .val ++ List.replicate (N.length - n) .no)) : FnOk P w K mg base CX0 (k + 1) f fd ps (spE n tf) := by
  refine F.ok S (fun vs H Q E h => ?_) (fun cdv A outer s H vs Q E hr h => ?_)
  · rw [hn]; exact h.1
  · obtain ⟨hl, z, M, ds, Qd, Am, r, t, k⟩ := h
    obtain ⟨tt, hp, hw⟩ := hb cdv A outer s H E hr
    have hM : Mo M z (fun _ => none) = M := mo_none Am.res
    have hd : ds.length = n := by rw [← r.length]; exact hl
    refine ⟨_, PSs.nox hp, gh0 z M H N ds, { nx := fun _ => Qd .non, rt := Qd, rf := Qd }, stt0 Am r, ?_, ?_⟩
    · have := hw ds Qd hd t
      show tt _ (ds.map .val ++ List.replicate (N.length - ds.length) .no)
      rw [hd]; exact this
    · refine ⟨fun ow S σ H' s' q => k .non .non H' q s'.keep s'.bag .non, fun _ _ _ _ _ q => q.elim, fun _ _ _ _ _ q => q.elim, fun d v H' q x b rp => k d v H' q x b ?_, fun d a H' q x b hn nm o => k d (.ref a) H' q x b ?_⟩
      · have rp' : Rp z (Mo M z fun _ => none) H' v d := rp
        rw [hM] at rp'; exact rp'
      · have o' : OwF z (Mo M z fun _ => none) H' a d := o
        have nm' : ¬ Mo M z (fun _ => none) a := nm
        rw [hM] at o' nm'
        exact Ow.rp o' (Tr.of fun _ _ n e => ⟨e, fun q => n (.inl q)⟩) nm'
theorem ok_F {P : Program} {w : World} {K : PySem.W.Frag} {mg : Str → Option Value} {base : Heap} {x qual : Str} {st : Stmt} {f : Addr} {fd : FuncData} {N ps : List Str} {k : Nat} {n : Nat} {tf : TDF} {dfv : List V} {kwv : List (Str × V)} (F : FunD K x qual (defArgs st) (defBody st) (defScope st) dfv kwv f fd) (S : FnScope N ps (defScope st)) (hn : ps.length = n := by rfl)
    (hb : ∀ (cdv : Value) (A : Around) (outer : List Env) (s : Shared) (H : Hp) (E : XK), Room k (A.deeper (envOfC qual (defScope st) s.heap.objs.size f cdv)) → ∃ t : TDS, PSs (cxOf CX0 P w K mg base N qual (defScope st) f cdv A outer s H E).nox (defBody st) (lS t) ∧
      ∀ ds Qd, ds.length = n → tf ds Qd → t { nx := fun _ => False, rt := fun _ => False, rf := Qd } (ds.map .val ++ List.replicate (N.length - n) .no)) : FnOk P w K mg base CX0 (k + 1) f fd ps (spF n tf) := by
  refine F.ok S (fun vs H Q E h => ?_) (fun cdv A outer s H vs Q E hr h => ?_)
  · rw [hn]; exact h.1
  · obtain ⟨hl, z, M, ds, Qd, Am, r, t, k⟩ := h
    obtain ⟨tt, hp, hw⟩ := hb cdv A outer s H E hr
    have hM : Mo M z (fun _ => none) = M := mo_none Am.res
    have hd : ds.length = n := by rw [← r.length]; exact hl
    refine ⟨_, PSs.nox hp, gh0 z M H N ds, { nx := fun _ => False, rt := fun _ => False, rf := Qd }, stt0 Am r, ?_, ?_⟩
    · have := hw ds Qd hd t
      show tt _ (ds.map .val ++ List.replicate (N.length - ds.length) .no)
      rw [hd]; exact this
    · refine ⟨fun ow S σ H' s' q => q.elim, fun _ _ _ _ _ q => q.elim, fun _ _ _ _ _ q => q.elim, fun d v H' q x b rp => q.elim, fun d a H' q x b hn nm o => k d a H' q x b hn ?_ ?_⟩
      · have nm' : ¬ Mo M z (fun _ => none) a := nm
        rw [hM] at nm'; exact nm'
      · have o' : OwF z (Mo M z fun _ => none) H' a d := o
        rw [hM] at o'; exact o'

section
variable {X : Cx} {pos p : Pos} {es : List Expr} {e : Expr} {te : TDE} {ts : TDA} {x : Str} {tf : TDF} {n k : Nat} {f : Addr} {fd : FuncData} {ps : List Str} {dvs : List V} {dds : List D}
/-- f(..): the written arguments, then the defaults -/
def dFn (tf : TDF) (dds : List D) (ts : TDA) : TDE := fun S Q => ts S fun ds => tf (ds ++ dds) Q
theorem de_fn (F : FnOk X.prog X.w X.K X.mg X.base CX0 k f fd ps (spE n tf)) (hr : Room k X.A) (hm : X.mg x = some (.ref f)) (hk : PySem.W.keepIn X.K (.ref f) = true) (hb : ∃ dsv, Vals dvs dsv ∧ Binds X.K fd ps dsv) (hdd : ∀ z M H, RpL z M H dvs dds) (ha : PA X (e :: es) (lA ts)) (hn : ∀ ds Q, tf ds Q → ds.length = n) (hg : Gl X x := by rfl)
    (hdb : (x == ("__debug__" : Str)) = false := by decide) (he : starEach (e :: es) X.env = (false, eval e X.env) :: starEach es X.env := by rfl) (hpl : (backTo pos (starEach es X.env)).any (·.1) = false := by rfl) : PE X (.Call (.Name x p) (e :: es) [] pos) (lE (dFn tf dds ts)) := by
  obtain ⟨dsv, hd, hb⟩ := hb
  exact PE.imp (pe_call F hr hg hm hk hb hd pass0 ha hdb he hpl) fun σ H Q ⟨g, Qd, s, w, kk⟩ =>
    ⟨g, _, s, w, fun ds vs H1 w1 x1 s1 r1 => by
      have r2 := r1.append (hdd g.z g.M H1)
      exact ⟨by rw [r2.length]; exact hn _ _ w1, g.z, g.M, _, Qd, s1.amb, r2, w1, fun d v H' q x b rp => kk d v H' q (x1.trans x) (s1.ext x b) rp⟩⟩
theorem df_fn (F : FnOk X.prog X.w X.K X.mg X.base CX0 k f fd ps (spF n tf)) (hr : Room k X.A) (hm : X.mg x = some (.ref f)) (hk : PySem.W.keepIn X.K (.ref f) = true) (hb : ∃ dsv, Vals dvs dsv ∧ Binds X.K fd ps dsv) (hdd : ∀ z M H, RpL z M H dvs dds) (ha : PA X (e :: es) (lA ts)) (hn : ∀ ds Q, tf ds Q → ds.length = n) (hg : Gl X x := by rfl)
    (hdb : (x == ("__debug__" : Str)) = false := by decide) (he : starEach (e :: es) X.env = (false, eval e X.env) :: starEach es X.env := by rfl) (hpl : (backTo pos (starEach es X.env)).any (·.1) = false := by rfl) : PE X (.Call (.Name x p) (e :: es) [] pos) (lF (dFn tf dds ts)) := by
  obtain ⟨dsv, hd, hb⟩ := hb
  exact PE.imp (pe_call F hr hg hm hk hb hd pass0 ha hdb he hpl) fun σ H Q ⟨g, Qd, s, w, kk⟩ =>
    ⟨g, _, s, w, fun ds vs H1 w1 x1 s1 r1 => by
      have r2 := r1.append (hdd g.z g.M H1)
      exact ⟨by rw [r2.length]; exact hn _ _ w1, g.z, g.M, _, Qd, s1.amb, r2, w1, fun d a H' q x b hn nm o => kk d a H' q (x1.trans x) (s1.ext x b) (x1.none_of hn fun h => nm (res_M h.res)) nm o⟩⟩
end
end L2.DL

namespace L2.DL
open PySem PySem.Spec PyProof.Rows

/-! ### states changed -/
section
variable {g : Gh} {σ : St} {H H' : Hp} {i : Nat} {v : V} {d : D} {a : Addr}
theorem Stt.setVal (s : Stt g σ H) (r : Rp g.z g.M H v d) : Stt { g with S := g.S.set i (.val d) } (σ.set i (some v)) H where
  len := by simpa using s.len
  val := fun j d' e => by
    have e' : (g.S.set i (.val d))[j]? = some (.val d') := e
    rw [List.getElem?_set] at e'
    by_cases hij : i = j
    · subst hij
      rw [if_pos rfl] at e'
      split at e'
      · rename_i hlt
        cases e'
        exact ⟨v, by rw [List.getElem?_set_self (by rw [← s.len]; exact hlt)], r⟩
      · cases e'
    · rw [if_neg hij] at e'
      obtain ⟨u, e1, r1⟩ := s.val j d' e'
      exact ⟨u, by rw [List.getElem?_set_ne hij]; exact e1, r1⟩
  own := fun j d' e => by
    have e' : (g.S.set i (.val d))[j]? = some (.own d') := e
    rw [List.getElem?_set] at e'
    by_cases hij : i = j
    · subst hij
      rw [if_pos rfl] at e'
      split at e' <;> cases e'
    · rw [if_neg hij] at e'
      obtain ⟨u, e1, r1⟩ := s.own j d' e'
      exact ⟨u, by rw [List.getElem?_set_ne hij]; exact e1, r1⟩
  inj := s.inj
  new := s.new
  alive := s.alive
  keep := s.keep
  bag := s.bag
  ex := s.ex.val
def setOw (ow : Nat → Option Addr) (i : Nat) (a : Option Addr) : Nat → Option Addr := fun j => if j = i then a else ow j
theorem mo_set {M0 : MS} {z : Bz} {ow : Nat → Option Addr} {b : Addr} (h : Mo M0 z (setOw ow i (some a)) b) : Mo M0 z ow b ∨ b = a := by
  rcases h with h | h | ⟨j, h⟩
  · exact .inl (.inl h)
  · exact .inl (.inr (.inl h))
  · unfold setOw at h
    split at h
    · cases h; exact .inr rfl
    · exact .inl (.inr (.inr ⟨j, h⟩))
/-- a new thing goes to a name that owns it -/
theorem Stt.setOwn (s : Stt g σ H) (x : Ext g.z H H') (b' : BagOk g.z H') (hn : H a = none) (hM : ¬ g.M a) (o : OwF g.z g.M H' a d) :
    Stt { g with ow := setOw g.ow i (some a), S := g.S.set i (.own d) } (σ.set i (some (.ref a))) H' := by
  have tr : Tr g.M H (Mo g.M0 g.z (setOw g.ow i (some a))) H' := Tr.of fun b u n e => ⟨x b u e fun q => n (res_M q.res), fun q => (mo_set q).elim n fun e' => by subst e'; rw [hn] at e; cases e⟩
  have tro : Tr (fun b => g.M b ∨ b = a) H' (Mo g.M0 g.z (setOw g.ow i (some a))) H' := Tr.of fun b u n e => ⟨e, fun q => n (mo_set q)⟩
  have na : ∀ j, g.ow j = some a → False := fun j e => hM (.inr (.inr ⟨j, e⟩))
  have hH0 : g.H0 a = none := s.keep.none_of hn fun h => hM (res_M h.res)
  refine ⟨by simpa using s.len, fun j d' e => ?_, fun j d' e => ?_, fun j k c e1 e2 => ?_, fun j c e => ?_, fun c h => ?_, s.keep.trans x, b', s.ex.own⟩
  · have e' : (g.S.set i (.own d))[j]? = some (.val d') := e
    rw [List.getElem?_set] at e'
    by_cases hij : i = j
    · subst hij
      rw [if_pos rfl] at e'
      split at e' <;> cases e'
    · rw [if_neg hij] at e'
      obtain ⟨u, e1, r1⟩ := s.val j d' e'
      exact ⟨u, by rw [List.getElem?_set_ne hij]; exact e1, r1.tr tr⟩
  · have e' : (g.S.set i (.own d))[j]? = some (.own d') := e
    rw [List.getElem?_set] at e'
    by_cases hij : i = j
    · subst hij
      rw [if_pos rfl] at e'
      split at e'
      · rename_i hlt
        cases e'
        exact ⟨a, by rw [List.getElem?_set_self (by rw [← s.len]; exact hlt)], by show setOw g.ow i (some a) i = some a; unfold setOw; rw [if_pos rfl], Ow.tr o tro fun u q => q⟩
      · cases e'
    · rw [if_neg hij] at e'
      obtain ⟨u, e1, e2, r1⟩ := s.own j d' e'
      refine ⟨u, by rw [List.getElem?_set_ne hij]; exact e1, ?_, r1.tr tr fun w q => x u w q fun z => (s.new j u e2).2.2 z.res⟩
      show setOw g.ow i (some a) j = some u
      unfold setOw; rw [if_neg (Ne.symm hij)]; exact e2
  · have e1' : setOw g.ow i (some a) j = some c := e1
    have e2' : setOw g.ow i (some a) k = some c := e2
    unfold setOw at e1' e2'
    split at e1' <;> split at e2'
    · omega
    · cases e1'; exact (na k e2').elim
    · cases e2'; exact (na j e1').elim
    · exact s.inj j k c e1' e2'
  · have e' : setOw g.ow i (some a) j = some c := e
    unfold setOw at e'
    split at e'
    · cases e'
      exact ⟨hH0, fun h => hM (.inl h), fun h => hM (res_M h)⟩
    · exact s.new j c e'
  · have s' := s.ext x b'
    rcases mo_set h with h | rfl
    · exact s'.alive c h
    · exact Ow.alive o
/-- what was owned is owned no more -/
theorem Stt.freeze (s : Stt g σ H) (e : g.S[i]? = some (.own d)) : Stt { g with ow := setOw g.ow i none, S := g.S.set i (.val d) } σ H := by
  obtain ⟨a, ea, eo, o⟩ := s.own i d e
  have sub : ∀ b, Mo g.M0 g.z (setOw g.ow i none) b → g.M b := fun b h => by
    rcases h with h | h | ⟨j, h⟩
    · exact .inl h
    · exact .inr (.inl h)
    · unfold setOw at h
      split at h
      · cases h
      · exact .inr (.inr ⟨j, h⟩)
  have tr : Tr g.M H (Mo g.M0 g.z (setOw g.ow i none)) H := Tr.of fun b u n e => ⟨e, fun q => n (sub b q)⟩
  have na : ¬ Mo g.M0 g.z (setOw g.ow i none) a := fun h => by
    rcases h with h | h | ⟨j, h⟩
    · exact (s.new i a eo).2.1 h
    · exact (s.new i a eo).2.2 h
    · unfold setOw at h
      split at h
      · cases h
      · rename_i hj
        exact hj (s.inj j i a h eo)
  refine ⟨by simpa using s.len, fun j d' e' => ?_, fun j d' e' => ?_, fun j k c e1 e2 => ?_, fun j c e1 => ?_, fun c h => s.alive c (sub c h), s.keep, s.bag, s.ex.val⟩ -- (S := g.S) (x := .val d) e' fun _ _ q => by cases q)⟩
  · have e1 : (g.S.set i (.val d))[j]? = some (.val d') := e'
    rw [List.getElem?_set] at e1
    by_cases hij : i = j
    · subst hij
      rw [if_pos rfl] at e1
      split at e1
      · cases e1
        exact ⟨.ref a, ea, o.rp tr na⟩
      · cases e1
    · rw [if_neg hij] at e1
      obtain ⟨u, e2, r1⟩ := s.val j d' e1
      exact ⟨u, e2, r1.tr tr⟩
  · have e1 : (g.S.set i (.val d))[j]? = some (.own d') := e'
    rw [List.getElem?_set] at e1
    by_cases hij : i = j
    · subst hij
      rw [if_pos rfl] at e1
      split at e1 <;> cases e1
    · rw [if_neg hij] at e1
      obtain ⟨u, e2, e3, r1⟩ := s.own j d' e1
      refine ⟨u, e2, ?_, r1.tr tr fun _ q => q⟩
      show setOw g.ow i none j = some u
      unfold setOw; rw [if_neg (Ne.symm hij)]; exact e3
  · have e1' : setOw g.ow i none j = some c := e1
    have e2' : setOw g.ow i none k = some c := e2
    unfold setOw at e1' e2'
    split at e1' <;> split at e2' <;> try cases e1'
    · cases e2'
    · exact s.inj j k c e1' e2'
  · have e' : setOw g.ow i none j = some c := e1
    unfold setOw at e'
    split at e'
    · cases e'
    · exact s.new j c e'
theorem tr_mut (hM : g.M a) (o' : HO) : Tr g.M H g.M (upd H a o') := Tr.of fun b u n e => ⟨by rw [upd_ne (show b ≠ a by rintro rfl; exact n hM)]; exact e, n⟩
/-- an owned thing is changed -/
theorem Stt.mutate {o' : HO} {d' : D} (s : Stt g σ H) (e : g.S[i]? = some (.own d)) (ea : σ[i]? = some (some (.ref a))) (hd : isDic o' = true ∨ isDic o' = false) (o : Ow g.z g.M (upd H a o') a d') :
    Stt { g with S := g.S.set i (.own d') } σ (upd H a o') := by
  obtain ⟨a', ea', eo, ow0⟩ := s.own i d e
  rw [ea] at ea'
  cases ea'
  have hM : g.M a := .inr (.inr ⟨i, eo⟩)
  have tr : Tr g.M H g.M (upd H a o') := Tr.of fun b u n e => ⟨by rw [upd_ne (show b ≠ a by rintro rfl; exact n hM)]; exact e, n⟩
  refine ⟨by simpa using s.len, fun j d' e' => ?_, fun j d'' e' => ?_, s.inj, s.new, fun c h => ?_, fun b u e1 n => ?_, s.bag.mut (fun h => (s.new i a eo).2.2 h) (Ow.code ow0), s.ex.own⟩ -- (S := g.S) (x := .own d') e' fun _ _ q => by cases q)⟩
  · have e1 : (g.S.set i (.own _))[j]? = some (.val d') := e'
    rw [List.getElem?_set] at e1
    by_cases hij : i = j
    · subst hij
      rw [if_pos rfl] at e1
      split at e1 <;> cases e1
    · rw [if_neg hij] at e1
      obtain ⟨u, e2, r1⟩ := s.val j d' e1
      exact ⟨u, e2, r1.tr tr⟩
  · have e1 : (g.S.set i (.own d'))[j]? = some (.own d'') := e'
    rw [List.getElem?_set] at e1
    by_cases hij : i = j
    · subst hij
      rw [if_pos rfl] at e1
      split at e1
      · cases e1
        exact ⟨a, ea, eo, o⟩
      · cases e1
    · rw [if_neg hij] at e1
      obtain ⟨u, e2, e3, r1⟩ := s.own j d'' e1
      refine ⟨u, e2, e3, r1.tr tr fun w q => ?_⟩
      rw [upd_ne (show u ≠ a by rintro rfl; exact hij (s.inj i j u eo e3))]; exact q
  · by_cases hc : c = a
    · subst hc; exact Ow.alive o
    · obtain ⟨u, e, n⟩ := s.alive c h
      exact ⟨u, by rw [upd_ne hc]; exact e, n⟩
  · rw [upd_ne (show b ≠ a by rintro rfl; rw [(s.new i b eo).1] at e1; cases e1)]
    exact s.keep b u e1 n
end

/-! ### blocks and small statements -/
section
variable {X : Cx} {pos pos' : Pos} {st : Stmt} {rest : List Stmt} {t u : TDS} {e : Expr} {te : TDE} {ta : TDA} {x y : Str} {i j : Nat} {c a b : Expr} {tt : TDT}
theorem LE.back {g : Gh} {De : EndsD} {D : Ends} {ow : Nat → Option Addr} {S : SS} (l : LE g De D) : LE { g with ow := ow, S := S } De D := ⟨fun ow' S' => l.nx ow' S', fun ow' S' => l.bk ow' S', fun ow' S' => l.ct ow' S', l.rt, l.rf⟩
def dsNil : TDS := fun De S => De.nx S
def dsSeq (t u : TDS) : TDS := fun De S => t { De with nx := u De } S
theorem ds_nil : PSs X [] (lS dsNil) := PSs.imp pss_nil fun D σ H ⟨g, De, s, w, l⟩ => l.nx g.ow g.S σ H s w
theorem ds_cons (h1 : PS X st (lS t)) (h2 : PSs X rest (lS u)) : PSs X (st :: rest) (lS (dsSeq t u)) := PSs.imp (pss_cons h1 h2) fun D σ H ⟨g, De, s, w, l⟩ =>
  ⟨g, { De with nx := u De }, s, w, ⟨fun ow S σ' H' s' q => ⟨{ g with ow := ow, S := S }, De, s', q, l.back⟩, l.bk, l.ct, l.rt, l.rf⟩⟩
theorem ds_one (h1 : PS X st (lS t)) : PSs X [st] (lS t) := pss_one h1
theorem ds_pass : PS X (.Pass pos) (lS dsNil) := PS.imp ps_pass fun D σ H ⟨g, De, s, w, l⟩ => l.nx g.ow g.S σ H s w
def dsBreak : TDS := fun De S => De.bk S
def dsCont : TDS := fun De S => De.ct S
theorem ds_break : PS X (.Break pos) (lS dsBreak) := PS.imp ps_break fun D σ H ⟨g, De, s, w, l⟩ => l.bk g.ow g.S σ H s w
theorem ds_cont : PS X (.Continue pos) (lS dsCont) := PS.imp ps_continue fun D σ H ⟨g, De, s, w, l⟩ => l.ct g.ow g.S σ H s w
def dsNever : TDS := fun _ _ => False
theorem ds_never : PS X st (lS dsNever) := PS.imp ps_never fun D σ H ⟨g, De, s, w, l⟩ => w
theorem ds_nevers {sts : List Stmt} : PSs X sts (lS dsNever) := PSs.imp pss_never fun D σ H ⟨g, De, s, w, l⟩ => w
def dsDrop (te : TDE) : TDS := fun De S => te S fun _ => De.nx S
theorem ds_expr (he : PE X e (lP te)) (hs : swapsWith e none pos.line X.env = pure false := by rfl) : PS X (.Expr e pos) (lS (dsDrop te)) := PS.imp (ps_expr he hs) fun D σ H ⟨g, De, s, w, l⟩ =>
  ⟨g, _, s, w, fun d v H' q x s' r => l.nx g.ow g.S σ H' s' q⟩
def dsRet (te : TDE) : TDS := fun De S => te S De.rt
def dsRetF (te : TDE) : TDS := fun De S => te S De.rf
theorem Mo.sub {M0 : MS} {z : Bz} {ow : Nat → Option Addr} {a : Addr} (h : Mo M0 z (fun _ => none) a) : Mo M0 z ow a := by
  rcases h with h | h | ⟨_, h⟩
  · exact .inl h
  · exact .inr (.inl h)
  · cases h
theorem ds_ret (he : PE X e (lE te)) : PS X (.Return (some e) pos) (lS (dsRet te)) := PS.imp (ps_ret he) fun D σ H ⟨g, De, s, w, l⟩ =>
  ⟨g, _, s, w, fun d v H' q x s' r => l.rt d v H' q s'.keep s'.bag (r.tr (Tr.of fun _ _ n e => ⟨e, fun h => n h.sub⟩))⟩
theorem ds_retF (he : PE X e (lF te)) : PS X (.Return (some e) pos) (lS (dsRetF te)) := PS.imp (ps_ret he) fun D σ H ⟨g, De, s, w, l⟩ =>
  ⟨g, _, s, w, fun d a H' q x s' hn nm o => l.rf d a H' q s'.keep s'.bag (s.keep.none_of hn fun h => nm (res_M h.res)) (fun h => nm h.sub) (Ow.tr o (Tr.of fun _ _ n e => ⟨e, fun h => n (h.imp Mo.sub id)⟩) fun _ q => q)⟩
def dsRetN : TDS := fun De S => De.rt .non
theorem ds_retN : PS X (.Return none pos) (lS dsRetN) := PS.imp ps_retN fun D σ H ⟨g, De, s, w, l⟩ => l.rt .non .non H w s.keep s.bag .non
/-- return of a name that owns -/
def dsRetO (i : Nat) : TDS := fun De S => ∃ d, S[i]? = some (.own d) ∧ De.rf d
theorem ds_retO (he : PE X e (tVar i)) : PS X (.Return (some e) pos) (lS (dsRetO i)) := PS.imp (ps_ret he) fun D σ H ⟨g, De, s, ⟨d, e1, w⟩, l⟩ => by
  obtain ⟨a, ea, eo, o⟩ := s.own i d e1
  refine ⟨.ref a, ea, l.rf d a H w s.keep s.bag (s.new i a eo).1 (fun h => ?_) (o.tr (Tr.of fun b u n e => ⟨e, fun h => ?_⟩) fun _ q => q)⟩
  · rcases h with h | h | ⟨_, h⟩
    · exact (s.new i a eo).2.1 h
    · exact (s.new i a eo).2.2 h
    · cases h
  · rcases h with h | h
    · exact n h.sub
    · subst h; exact n (.inr (.inr ⟨i, eo⟩))
def dsIf (c : TDT) (t u : TDS) : TDS := fun De S => c S fun k => if k = true then t De S else u De S
theorem ds_if {bs cs : List Stmt} (hc : PT X c (lT tt)) (ha : PSs X bs (lS t)) (hb : PSs X cs (lS u)) : PS X (.If c bs cs pos) (lS (dsIf tt t u)) := PS.imp (ps_if hc ha hb) fun D σ H ⟨g, De, s, w, l⟩ =>
  ⟨g, _, s, w, fun k H1 w1 x1 s1 => by
    cases k with
    | true => exact ⟨g, De, s1, w1, l⟩
    | false => exact ⟨g, De, s1, w1, l⟩⟩
/-- x = e -/
def dsSet (i : Nat) (te : TDE) : TDS := fun De S => te S fun d => De.nx (S.set i (.val d))
def dsOwn (i : Nat) (te : TDE) : TDS := fun De S => te S fun d => De.nx (S.set i (.own d))
theorem ds_set (hN : X.N.Nodup) (hi : X.N[i]? = some x) (hx : Loc X.env.scope x) (he : PE X e (lE te)) (hs : swapsWith e (some (.Name x pos')) pos.line X.env = pure false := by rfl) (hf : X.fn x = true ∨ X.env.scope.names.lookup x = some .local := by first | exact .inl rfl | exact .inr rfl | assumption) :
    PS X (.Assign [.Name x pos'] e pos) (lS (dsSet i te)) := PS.imp (ps_set hN hi hx he hs hf) fun D σ H ⟨g, De, s, w, l⟩ =>
  ⟨g, _, s, w, fun d v H1 w1 x1 s1 r1 => l.nx g.ow _ _ H1 (s1.setVal r1) w1⟩
theorem ds_own (hN : X.N.Nodup) (hi : X.N[i]? = some x) (hx : Loc X.env.scope x) (he : PE X e (lF te)) (hs : swapsWith e (some (.Name x pos')) pos.line X.env = pure false := by rfl) (hf : X.fn x = true ∨ X.env.scope.names.lookup x = some .local := by first | exact .inl rfl | exact .inr rfl | assumption) :
    PS X (.Assign [.Name x pos'] e pos) (lS (dsOwn i te)) := PS.imp (ps_set hN hi hx he hs hf) fun D σ H ⟨g, De, s, w, l⟩ =>
  ⟨g, _, s, w, fun d a H1 w1 x1 s1 hn nm o => l.nx _ _ _ H1 (s.setOwn x1 s1.bag hn nm o) w1⟩
/-- a statement behind: what name i owns is kept from here on -/
def dsFrz (i : Nat) (t : TDS) : TDS := fun De S => ∃ d, S[i]? = some (.own d) ∧ t De (S.set i (.val d))
theorem ds_frz {sts : List Stmt} (i : Nat) (h : PSs X sts (lS t)) : PSs X sts (lS (dsFrz i t)) := PSs.imp h fun D σ H ⟨g, De, s, ⟨d, e, w⟩, l⟩ => ⟨_, De, s.freeze e, w, l.back⟩
/-- a, b = e1, e2 -/
def dsPar (i j : Nat) (ta : TDA) : TDS := fun De S => ta S fun ds => ∃ d d', ds = [d, d'] ∧ De.nx ((S.set i (.val d)).set j (.val d'))
theorem ds_par {px py pt : Pos} {kt k2 pt2} (hN : X.N.Nodup) (hi : X.N[i]? = some x) (hj : X.N[j]? = some y) (hij : i ≠ j) (hx : X.env.scope.names.lookup x = some .local) (hy : X.env.scope.names.lookup y = some .local) (ha : PA X [a, b] (lA ta))
    (hw : swappedStores [.Tuple [.Name x px, .Name y py] kt pt] (.Tuple [a, b] k2 pt2) X.env = pure (some [x, y])) (hc : X.calm = true := by rfl)
    (hs : swapsWithSole [.Tuple [.Name x px, .Name y py] kt pt] (.Tuple [a, b] k2 pt2) pos.line X.env = pure false := by rfl) :
    PS X (.Assign [.Tuple [.Name x px, .Name y py] kt pt] (.Tuple [a, b] k2 pt2) pos) (lS (dsPar i j ta)) := PS.imp (ps_par hc hN hi hj hij hx hy ha hw hs) fun D σ H ⟨g, De, s, w, l⟩ =>
  ⟨g, _, s, w, fun ds vs H1 w1 x1 s1 r1 => by
    obtain ⟨d, d', rfl, q⟩ := w1
    rcases r1 with _ | ⟨r1, r2⟩
    rcases r2 with _ | ⟨r2, r3⟩
    cases r3
    exact ⟨_, _, rfl, l.nx _ _ _ H1 ((s1.setVal r1).setVal (g := { g with S := g.S.set i (.val d) }) r2) q⟩⟩
/-- x op= e -/
def dsAug (i : Nat) (te : TDE) (R : RD2) : TDS := fun De S => ∃ d, S[i]? = some (.val d) ∧ te S fun e => R d e fun d' => De.nx (S.set i (.val d'))
def augD : RD2
  | .int i, .int j, Q => Q (.int (i + j))
  | .str x, .str y, Q => x.length + y.length ≤ sizeLine ∧ Q (.str (x ++ y))
  | _, _, _ => False
def ipAdd : TIp := fun x y H Q => (∃ i j, x = .int i ∧ y = .int j ∧ Q (.int (i + j)) H) ∨ (∃ i j, x = .str i ∧ y = .str j ∧ i.length + j.length ≤ sizeLine ∧ Q (.str (i ++ j)) H)
theorem ip_addA : PIp X .Add ipAdd := by
  intro pins s σ H x y v u Q I r1 r2 h
  rcases h with h | h
  · exact ip_add pins s σ H x y v u Q I r1 r2 h
  · exact iop_add_str pins s σ H x y v u Q I r1 r2 h
theorem ds_aug (hN : X.N.Nodup) (hi : X.N[i]? = some x) (hx : Loc X.env.scope x) (he : PE X e (lP te)) (hf : X.fn x = true ∨ X.env.scope.names.lookup x = some .local := by first | exact .inl rfl | exact .inr rfl | assumption) :
    PS X (.AugAssign (.Name x pos') .Add e pos) (lS (dsAug i te augD)) := PS.imp (ps_aug hN hi hx he ip_addA hf) fun D σ H ⟨g, De, s, ⟨d, e1, w⟩, l⟩ => by
  obtain ⟨v, e2, r⟩ := s.val i d e1
  refine ⟨v, e2, g, _, s, w, fun d1 v1 H1 w1 x1 s1 r1 => ?_⟩
  have r' := r.ext x1
  cases d <;> cases d1 <;> try exact w1.elim
  · cases r'; cases r1.int
    exact .inl ⟨_, _, rfl, rfl, l.nx _ _ _ H1 (s1.setVal (.int _)) w1⟩
  · cases r'; cases r1.str
    refine .inr ⟨_, _, rfl, rfl, by rw [S2_length, S2_length]; exact w1.1, ?_⟩
    rw [S2_append]
    exact l.nx _ _ _ H1 (s1.setVal (.str _)) w1.2
/-- xs.append(e), xs a name that owns -/
def dsApp (i : Nat) (te : TDE) : TDS := fun De S => ∃ ds, S[i]? = some (.own (.lst ds)) ∧ te S fun d => ds.length < sizeLine ∧ De.nx (S.set i (.own (.lst (ds ++ [d]))))
theorem ds_app {o : Expr} {ap cp : Pos} (ho : PE X o (tVar i)) (he : PE X e (lE te))
    (hbase : attributeBase o "append" X.env (eval o X.env) = eval o X.env := by rfl)
    (hfew : ((backTo cp (starEach [e] X.env)).all (fun x => !x.1) && (backToKw cp (keywordEach [] X.env)).all (fun x => x.1.isSome)
      && decide ([e].length + ([] : List Keyword).length + (if ([] : List Keyword).isEmpty then 0 else 1) < 30)) = true := by rfl)
    (hline : (ap.endLine == cp.line) = true := by rfl) (hs : starEach [e] X.env = (false, eval e X.env) :: starEach [] X.env := by rfl)
    (hsw : swapsWith (.Call (.Attribute o "append" ap) [e] [] cp) none pos.line X.env = pure false := by rfl) :
    PS X (.Expr (.Call (.Attribute o "append" ap) [e] [] cp) pos) (lS (dsApp i te)) :=
  PS.imp (ps_expr (pe_bm PySem.F.plainAttrs_list PySem.F.slot_list_append PySem.F.type_list_append mt_append ho (pa_cons he pa_nil hs) hbase hfew hline hs (by rfl)) hsw) fun D σ H ⟨g, De, s, ⟨ds, e1, w⟩, l⟩ => by
    obtain ⟨a, ea, eo, o⟩ := s.own i _ e1
    cases o with
    | lst h1 l1 =>
      refine ⟨.ref a, ea, .inl ⟨rfl, _, .of h1⟩, g, _, s, w, fun d v H1 w1 x1 s1 r1 => ?_⟩
      obtain ⟨a', ea', eo', o'⟩ := s1.own i _ e1
      rw [ea] at ea'
      cases ea'
      cases o' with
      | lst h2 l2 =>
        refine ⟨a, _, v, rfl, rfl, h2, by rw [l2.length]; exact w1.1, ?_⟩
        exact l.nx g.ow _ σ _ (s1.mutate e1 ea (.inr rfl) (.lst upd_same ((l2.append (.one r1)).tr (tr_mut (.inr (.inr ⟨i, eo⟩)) _)))) w1.2
end
end L2.DL

namespace L2.DL
open PySem PySem.Spec PyProof.Rows

/-! ### what a loop walks -/
def Lat (g : Gh) (H1 H' : Hp) : Prop := ∀ b o, ¬ g.M b → H1 b = some o → H' b = some o
def Grow (H H' : Hp) : Prop := ∀ b o, H b = some o → H' b = some o
structure Wk (g : Gh) (H1 : Hp) (J : It) (ds : List D) : Prop where
  go : ∀ i H', Lat g H1 H' → i < ds.length → J.go i H'
  stop : ∀ H', Lat g H1 H' → J.stop ds.length H'
  yld : ∀ (i : Nat) H' x H'' d, Lat g H1 H' → J.yld i H' x H'' → ds[i]? = some d → Grow H' H'' ∧ ∀ M', Tr g.M H1 M' H' → (∀ p, M' p → Nt H' p) → Rp g.z M' H'' x d
abbrev TDI := SS → (List D → Prop) → Prop
def DI (X : Cx) (tg iter : Expr) (ti : TDI) : Prop := ∃ wi : TI, PI X tg iter wi ∧ ∀ (g : Gh) (σ : St) (H : Hp) (Qd : List D → Prop) (R : It → Hp → Prop), Stt g σ H → ti g.S Qd → (∀ ds J H1, Qd ds → Ext g.z H H1 → Stt g σ H1 → Wk g H1 J ds → R J H1) → wi σ H R

theorem Wk.list {g : Gh} {H1 : Hp} {K : PySem.W.Frag} {a : Addr} {xs : List V} {ds : List D} (e : H1 a = some (.lst xs)) (n : ¬ g.M a) (l : RpL g.z g.M H1 xs ds) : Wk g H1 (Itl K a) ds where
  go := fun i H' h hi => by
    obtain ⟨v, hv, _⟩ := l.get (List.getElem?_eq_getElem hi)
    exact ⟨xs, v, .of (h a _ n e), hv⟩
  stop := fun H' h => ⟨xs, .of (h a _ n e), by rw [l.length]; exact Nat.le_refl _⟩
  yld := fun i H' x H'' d h y hd => by
    obtain ⟨rfl, y⟩ := y
    obtain ⟨v, hv, r⟩ := l.get hd
    have := (y xs (.of (h a _ n e))).symm.trans hv
    cases this
    exact ⟨fun _ _ e => e, fun M' t _ => r.tr t⟩
theorem Wk.tup {g : Gh} {H1 : Hp} {K : PySem.W.Frag} {a : Addr} {xs : List V} {ds : List D} (e : H1 a = some (.tup xs)) (n : ¬ g.M a) (l : RpL g.z g.M H1 xs ds) : Wk g H1 (Itt K a) ds where
  go := fun i H' h hi => by
    obtain ⟨v, hv, _⟩ := l.get (List.getElem?_eq_getElem hi)
    exact ⟨xs, v, .of (h a _ n e), hv⟩
  stop := fun H' h => ⟨xs, .of (h a _ n e), by rw [l.length]; exact Nat.le_refl _⟩
  yld := fun i H' x H'' d h y hd => by
    obtain ⟨rfl, y⟩ := y
    obtain ⟨v, hv, r⟩ := l.get hd
    have := (y xs (.of (h a _ n e))).symm.trans hv
    cases this
    exact ⟨fun _ _ e => e, fun M' t _ => r.tr t⟩
theorem Wk.str {g : Gh} {H1 : Hp} (x : List Nat) : Wk g H1 (Its (S2 x)) (x.map fun c => .str [c]) where
  go := fun i H' h hi => by
    show i < (S2 x).cps.size
    simpa using hi
  stop := fun H' h => by
    show (S2 x).cps.size ≤ _
    simp
  yld := fun i H' v H'' d h y hd => by
    obtain ⟨rfl, c, e, rfl⟩ := y
    have e' : x[i]? = some c := by simpa using e
    rw [List.getElem?_map, e'] at hd
    cases hd
    exact ⟨fun _ _ e => e, fun M' t _ => .str [c]⟩
theorem Wk.range {g : Gh} {H1 : Hp} (lo : Int) (n : Nat) : Wk g H1 (Itr lo n) ((List.range n).map fun i : Nat => .int (lo + (i : Int))) where
  go := fun i H' h hi => by
    show i < n
    simpa using hi
  stop := fun H' h => by
    show n ≤ _
    simp
  yld := fun i H' v H'' d h y hd => by
    obtain ⟨rfl, rfl⟩ := y
    rw [List.getElem?_map] at hd
    cases q : (List.range n)[i]? with
    | none => rw [q] at hd; cases hd
    | some j =>
      rw [q] at hd
      cases hd
      have hj : j = i := by
        rw [List.getElem?_range] at q
        · cases q; rfl
        · cases Nat.lt_or_ge i n with
          | inl h => exact h
          | inr h => rw [List.getElem?_eq_none (by simpa using h)] at q; cases q
      subst hj
      exact ⟨fun _ _ e => e, fun M' t _ => .int _⟩
def itemsD : D → Option (List D)
  | .lst xs => some xs
  | .tup xs => some xs
  | .str xs => some (xs.map fun c => .str [c])
  | _ => none
section
variable {X : Cx} {tg e : Expr} {te : TDE} {p pos tpos : Pos} {ts : TDA} {elts : List Expr} {kk : Nat}
/-- any sequence -/
def iAny (K : PySem.W.Frag) (tl : TE) : TI := fun σ H R => tl σ H fun x H1 =>
  (∃ a xs, x = .ref a ∧ H1 a = some (.lst xs) ∧ R (Itl K a) H1) ∨ (∃ a xs, x = .ref a ∧ H1 a = some (.tup xs) ∧ R (Itt K a) H1) ∨ ∃ z, x = .str z ∧ R (Its z) H1
theorem pi_any {tl : TE} (hl : PE X e tl) : PI X tg e (iAny X.K tl) := by
  constructor
  intro pins s σ H R I h
  apply thn (hl.run pins s σ H _ I h)
  rintro v s1 ⟨x, H1, I1, r1, ⟨a, xs, rfl, hq, q⟩ | ⟨a, xs, rfl, hq, q⟩ | ⟨z, rfl, q⟩⟩
  · cases r1
    obtain ⟨its, rv, pl, hz⟩ := I1.list (.of hq)
    exact wpAny_pyIter_list pl.isList (pi_one (tk := s1.toks) I1 _ (turn_list a _) ⟨_, Heap.get?_push_size _ rfl, rfl, rfl⟩ q)
  · cases r1
    obtain ⟨its, rv, pl, hz⟩ := I1.tuple (.of hq)
    have pl' : s1.heap.IsTuple a its.toArray := pl
    exact wpAny_pyIter_tuple pl' (pi_one (tk := s1.toks) I1 _ (turn_tuple a _) ⟨_, Heap.get?_push_size _ rfl, rfl, rfl⟩ q)
  · obtain ⟨t, rfl⟩ := r1
    by_cases ha : z.cps.all (· < 128) = true
    · exact wpAny_pyIter_ascii ha (pi_one (tk := s1.toks) I1 _ (turn_str _ z t _ (.inl rfl)) ⟨_, Heap.get?_push_size _ rfl, rfl, rfl⟩ q)
    · exact wpAny_pyIter_wide (by simpa using ha) (pi_one (tk := s1.toks) I1 _ (turn_str _ z t _ (.inr rfl)) ⟨_, Heap.get?_push_size _ rfl, rfl, rfl⟩ q)
def diSeq (te : TDE) : TDI := fun S Q => te S fun d => ∃ ds, itemsD d = some ds ∧ Q ds
theorem di_seq (he : PE X e (lE te)) : DI X tg e (diSeq te) := ⟨_, pi_any he, fun g σ H Qd R s w k => ⟨g, _, s, w, fun d v H1 w1 x1 s1 r1 => by
  obtain ⟨ds, e1, q⟩ := w1
  cases r1 <;> simp [itemsD] at e1
  · rename_i z
    subst e1
    exact .inr (.inr ⟨_, rfl, k _ _ H1 q x1 s1 (Wk.str z)⟩)
  · rename_i h n l
    subst e1
    exact .inl ⟨_, _, rfl, h, k _ _ H1 q x1 s1 (Wk.list h n l)⟩
  · rename_i h n l
    subst e1
    exact .inr (.inl ⟨_, _, rfl, h, k _ _ H1 q x1 s1 (Wk.tup h n l)⟩)⟩⟩
/-- range(n), range(a, b) -/
def diRng1 (ts : TDA) : TDI := fun S Q => ts S fun ds => ∃ n : Int, ds = [.int n] ∧ n < 2 ^ 62 ∧ -(2 ^ 62) ≤ n ∧ Q ((List.range n.toNat).map fun i : Nat => .int (0 + (i : Int)))
theorem di_range1 (hm : X.mg "range" = none) (ha : PA X [e] (lAP ts)) (hg : Gl X "range" := by rfl) (hs : starEach [e] X.env = [(false, eval e X.env)] := by rfl) : DI X tg (.Call (.Name "range" p) [e] [] pos) (diRng1 ts) :=
  ⟨_, pi_range1 hg hm ha hs, fun g σ H Qd R s w k => ⟨g, _, s, w, fun ds vs H1 w1 x1 s1 r1 => by
    obtain ⟨n, rfl, h1, h2, q⟩ := w1
    obtain ⟨v, rfl, h⟩ := r1.one
    cases h.int
    exact ⟨n, rfl, h2, h1, k _ _ H1 q x1 s1 (Wk.range 0 _)⟩⟩⟩
def diRng2 (ts : TDA) : TDI := fun S Q => ts S fun ds => ∃ m n : Int, ds = [.int m, .int n] ∧ (-(2 ^ 62) ≤ m ∧ m < 2 ^ 62 ∧ -(2 ^ 62) ≤ n ∧ n < 2 ^ 62) ∧ Q ((List.range (n - m).toNat).map fun i : Nat => .int (m + (i : Int)))
theorem di_range2 {e2 : Expr} (hm : X.mg "range" = none) (ha : PA X [e, e2] (lAP ts)) (hg : Gl X "range" := by rfl) (hs : starEach [e, e2] X.env = [(false, eval e X.env), (false, eval e2 X.env)] := by rfl) (hs2 : starEach [e2] X.env = [(false, eval e2 X.env)] := by rfl) : DI X tg (.Call (.Name "range" p) [e, e2] [] pos) (diRng2 ts) :=
  ⟨_, pi_range2 hg hm ha hs hs2, fun g σ H Qd R s w k => ⟨g, _, s, w, fun ds vs H1 w1 x1 s1 r1 => by
    obtain ⟨m, n, rfl, h1, q⟩ := w1
    obtain ⟨v, v', rfl, h, h'⟩ := r1.two
    cases h.int; cases h'.int
    exact ⟨m, n, rfl, h1, k _ _ H1 q x1 s1 (Wk.range m _)⟩⟩⟩
/-- enumerate(xs), xs a list -/
def enumD : Nat → List D → List D
  | _, [] => []
  | i, d :: ds => .tup [.int (i : Int), d] :: enumD (i + 1) ds
theorem enumD_length : ∀ (i : Nat) (ds : List D), (enumD i ds).length = ds.length
  | _, [] => rfl
  | i, d :: ds => by simp [enumD, enumD_length (i + 1) ds]
theorem enumD_get : ∀ (i j : Nat) (ds : List D), (enumD i ds)[j]? = (ds[j]?).map fun d => .tup [.int ((i + j : Nat) : Int), d]
  | i, j, [] => by simp [enumD]
  | i, 0, d :: ds => by simp [enumD]
  | i, j + 1, d :: ds => by
    simp only [enumD, List.getElem?_cons_succ]
    rw [enumD_get (i + 1) j ds]
    congr 1
    funext d
    rw [show i + 1 + j = i + (j + 1) by omega]
theorem Rp.pair {z : Bz} {M : MS} {H : Hp} {T : Addr} {xs : List V} {ds : List D} (l : RpL z M H xs ds) (hT : H T = none) (n : ¬ M T) : Rp z M (upd H T (.tup xs)) (.ref T) (.tup ds) :=
  .tup upd_same n (l.tr (Tr.of fun b o m e => ⟨by rw [upd_ne (ne_of_none e hT)]; exact e, m⟩))
theorem Wk.enum {g : Gh} {H1 : Hp} {K : PySem.W.Frag} {a : Addr} {xs : List V} {ds : List D} (e : H1 a = some (.lst xs)) (n : ¬ g.M a) (l : RpL g.z g.M H1 xs ds) : Wk g H1 (Ite K a) (enumD 0 ds) where
  go := fun i H' h hi => by
    rw [enumD_length] at hi
    obtain ⟨v, hv, _⟩ := l.get (List.getElem?_eq_getElem hi)
    exact ⟨xs, v, .of (h a _ n e), hv⟩
  stop := fun H' h => ⟨xs, .of (h a _ n e), by rw [l.length, enumD_length]; exact Nat.le_refl _⟩
  yld := fun i H' x H'' d h y hd => by
    obtain ⟨T, v, rfl, hT, rfl, y⟩ := y
    rw [enumD_get] at hd
    cases q : ds[i]? with
    | none => rw [q] at hd; cases hd
    | some d0 =>
      rw [q] at hd
      cases hd
      obtain ⟨v', hv, r⟩ := l.get q
      have := (y xs (.of (h a _ n e))).symm.trans hv
      cases this
      refine ⟨fun b o e => by rw [upd_ne (ne_of_none e hT)]; exact e, fun M' t fr => Rp.pair (.cons ?_ (.cons (r.tr t) .nil)) hT (fun h => (fr T h).ne hT)⟩
      rw [Nat.zero_add]
      exact .int _
def diEnum (ts : TDA) : TDI := fun S Q => ts S fun ds => ∃ xs, ds = [.lst xs] ∧ Q (enumD 0 xs)
theorem di_enum (hm : X.mg "enumerate" = none) (ha : PA X [e] (lA ts)) (hg : Gl X "enumerate" := by rfl) (hs : starEach [e] X.env = [(false, eval e X.env)] := by rfl) : DI X (.Tuple elts kk tpos) (.Call (.Name "enumerate" p) [e] [] pos) (diEnum ts) :=
  ⟨_, pi_enum hg hm ha hs, fun g σ H Qd R s w k => ⟨g, _, s, w, fun ds vs H1 w1 x1 s1 r1 => by
    obtain ⟨xs, rfl, q⟩ := w1
    rcases r1 with _ | ⟨r1, r2⟩
    cases r2
    cases r1 with
    | lst h n l => exact ⟨_, _, rfl, .of h, k _ _ H1 q x1 s1 (Wk.enum h n l)⟩⟩⟩
/-- zip(xs, ys), two lists or two tuples -/
def zipD : List D → List D → List D
  | x :: xs, y :: ys => .tup [x, y] :: zipD xs ys
  | _, _ => []
theorem zipD_length : ∀ xs ys : List D, (zipD xs ys).length = min xs.length ys.length
  | [], ys => by simp [zipD]
  | _ :: _, [] => by simp [zipD]
  | x :: xs, y :: ys => by simp [zipD, zipD_length xs ys, Nat.succ_min_succ]
theorem zipD_get : ∀ (j : Nat) (xs ys : List D) {d : D}, (zipD xs ys)[j]? = some d → ∃ x y, xs[j]? = some x ∧ ys[j]? = some y ∧ d = .tup [x, y]
  | j, [], ys, d, h => by simp [zipD] at h
  | j, _ :: _, [], d, h => by simp [zipD] at h
  | 0, x :: xs, y :: ys, d, h => by simp [zipD] at h; exact ⟨x, y, rfl, rfl, h.symm⟩
  | j + 1, x :: xs, y :: ys, d, h => by
    simp only [zipD, List.getElem?_cons_succ] at h
    simpa using zipD_get j xs ys h
theorem Wk.zip {g : Gh} {H1 : Hp} {K : PySem.W.Frag} {a b : Addr} {xs ys : List V} {ds es : List D} (e : H1 a = some (.lst xs)) (n : ¬ g.M a) (l : RpL g.z g.M H1 xs ds) (e' : H1 b = some (.lst ys)) (n' : ¬ g.M b) (l' : RpL g.z g.M H1 ys es) : Wk g H1 (Itz K a b) (zipD ds es) where
  go := fun i H' h hi => by
    rw [zipD_length] at hi
    obtain ⟨v, hv, _⟩ := l.get (List.getElem?_eq_getElem (show i < ds.length by omega))
    obtain ⟨v', hv', _⟩ := l'.get (List.getElem?_eq_getElem (show i < es.length by omega))
    exact ⟨xs, ys, v, v', .of (h a _ n e), .of (h b _ n' e'), hv, hv'⟩
  stop := fun H' h => ⟨xs, ys, .of (h a _ n e), .of (h b _ n' e'), by rw [l.length, l'.length, zipD_length]; omega⟩
  yld := fun i H' x H'' d h y hd => by
    obtain ⟨T, v, v', rfl, hT, rfl, y, y'⟩ := y
    obtain ⟨x, y0, e1, e2, rfl⟩ := zipD_get i _ _ hd
    obtain ⟨w, hv, r⟩ := l.get e1
    obtain ⟨w', hv', r'⟩ := l'.get e2
    have := (y xs (.of (h a _ n e))).symm.trans hv
    cases this
    have := (y' ys (.of (h b _ n' e'))).symm.trans hv'
    cases this
    exact ⟨fun b o e => by rw [upd_ne (ne_of_none e hT)]; exact e, fun M' t fr => Rp.pair (.cons (r.tr t) (.cons (r'.tr t) .nil)) hT (fun h => (fr T h).ne hT)⟩
theorem Wk.zipT {g : Gh} {H1 : Hp} {K : PySem.W.Frag} {a b : Addr} {xs ys : List V} {ds es : List D} (e : H1 a = some (.tup xs)) (n : ¬ g.M a) (l : RpL g.z g.M H1 xs ds) (e' : H1 b = some (.tup ys)) (n' : ¬ g.M b) (l' : RpL g.z g.M H1 ys es) : Wk g H1 (RZ.ItzT K a b) (zipD ds es) where
  go := fun i H' h hi => by
    rw [zipD_length] at hi
    obtain ⟨v, hv, _⟩ := l.get (List.getElem?_eq_getElem (show i < ds.length by omega))
    obtain ⟨v', hv', _⟩ := l'.get (List.getElem?_eq_getElem (show i < es.length by omega))
    exact ⟨xs, ys, v, v', .of (h a _ n e), .of (h b _ n' e'), hv, hv'⟩
  stop := fun H' h => ⟨xs, ys, .of (h a _ n e), .of (h b _ n' e'), by rw [l.length, l'.length, zipD_length]; omega⟩
  yld := fun i H' x H'' d h y hd => by
    obtain ⟨T, v, v', rfl, hT, rfl, y, y'⟩ := y
    obtain ⟨x, y0, e1, e2, rfl⟩ := zipD_get i _ _ hd
    obtain ⟨w, hv, r⟩ := l.get e1
    obtain ⟨w', hv', r'⟩ := l'.get e2
    have := (y xs (.of (h a _ n e))).symm.trans hv
    cases this
    have := (y' ys (.of (h b _ n' e'))).symm.trans hv'
    cases this
    exact ⟨fun b o e => by rw [upd_ne (ne_of_none e hT)]; exact e, fun M' t fr => Rp.pair (.cons (r.tr t) (.cons (r'.tr t) .nil)) hT (fun h => (fr T h).ne hT)⟩
def diZip (ts : TDA) : TDI := fun S Q => ts S fun ds => ∃ xs ys, (ds = [.lst xs, .lst ys] ∨ ds = [.tup xs, .tup ys]) ∧ Q (zipD xs ys)
theorem di_zip {e2 : Expr} (hm : X.mg "zip" = none) (ha : PA X [e, e2] (lA ts)) (hg : Gl X "zip" := by rfl) (hs : starEach [e, e2] X.env = (false, eval e X.env) :: starEach [e2] X.env := by rfl) (hpl : (backTo pos (starEach [e2] X.env)).any (·.1) = false := by rfl) :
    DI X (.Tuple elts kk tpos) (.Call (.Name "zip" p) [e, e2] [] pos) (diZip ts) :=
  ⟨_, RZ.pi_zipA hg hm ha hs hpl, fun g σ H Qd R s w k => ⟨g, _, s, w, fun ds vs H1 w1 x1 s1 r1 => by
    obtain ⟨xs, ys, hh, q⟩ := w1
    rcases hh with rfl | rfl
    · rcases r1 with _ | ⟨r1, r2⟩
      rcases r2 with _ | ⟨r2, r3⟩
      cases r3
      cases r1 with
      | lst h n l =>
        cases r2 with
        | lst h' n' l' => exact ⟨_, _, _, _, rfl, .inl ⟨.of h, .of h', k _ _ H1 q x1 s1 (Wk.zip h n l h' n' l')⟩⟩
    · rcases r1 with _ | ⟨r1, r2⟩
      rcases r2 with _ | ⟨r2, r3⟩
      cases r3
      cases r1 with
      | tup h n l =>
        cases r2 with
        | tup h' n' l' => exact ⟨_, _, _, _, rfl, .inr ⟨.of h, .of h', k _ _ H1 q x1 s1 (Wk.zipT h n l h' n' l')⟩⟩⟩⟩
end
end L2.DL

namespace L2.DL
open PySem PySem.Spec PyProof.Rows

/-! ### targets -/
abbrev TDG := D → SS → (SS → Prop) → Prop
abbrev TDGs := List D → SS → (SS → Prop) → Prop
def lG (is : List Nat) (t : TDG) : TG := fun v σ H Q => ∃ (g : Gh) (d : D) (Qd : SS → Prop), Stt g σ H ∧ Rp g.z g.M H v d ∧ t d g.S Qd ∧ ∀ S' σ', Stt { g with S := S' } σ' H → (∀ j, j ∉ is → σ'[j]? = σ[j]?) → σ'.length = σ.length → Qd S' → Q σ' H
def lGs (is : List Nat) (t : TDGs) : TGs := fun vs σ H Q => ∃ (g : Gh) (ds : List D) (Qd : SS → Prop), Stt g σ H ∧ RpL g.z g.M H vs ds ∧ t ds g.S Qd ∧ ∀ S' σ', Stt { g with S := S' } σ' H → (∀ j, j ∉ is → σ'[j]? = σ[j]?) → σ'.length = σ.length → Qd S' → Q σ' H
section
variable {X : Cx} {tg : Expr} {pos : Pos} {x : Str} {i : Nat} {es : List Expr} {e : Expr} {is js : List Nat}
theorem PG.imp {t t' : TG} (h : PG X tg t) (k : ∀ v σ H Q, t' v σ H Q → t v σ H Q) : PG X tg t' := ⟨fun pins s σ H v u Q I r w => h.run pins s σ H v u Q I r (k _ _ _ _ w)⟩
theorem PGs.imp {t t' : TGs} (h : PGs X es t) (k : ∀ v σ H Q, t' v σ H Q → t v σ H Q) : PGs X es t' := ⟨fun pins s σ H v u Q I r w => h.run pins s σ H v u Q I r (k _ _ _ _ w)⟩
def dgName (i : Nat) : TDG := fun d S Q => Q (S.set i (.val d))
theorem dg_name (hN : X.N.Nodup) (hi : X.N[i]? = some x) (hx : Loc X.env.scope x) (hf : X.fn x = true ∨ X.env.scope.names.lookup x = some .local := by first | exact .inl rfl | exact .inr rfl | assumption) : PG X (.Name x pos) (lG [i] (dgName i)) :=
  PG.imp (pg_name hN hi hx hf) fun v σ H Q ⟨g, d, Qd, s, r, w, k⟩ => k _ _ (s.setVal r) (fun j hj => List.getElem?_set_ne (by simpa using Ne.symm (by simpa using hj))) (List.length_set ..) w
def dgNil : TDGs := fun ds S Q => ds = [] ∧ Q S
def dgCons (t : TDG) (u : TDGs) : TDGs := fun ds S Q => ∃ d r, ds = d :: r ∧ t d S fun S' => u r S' Q
theorem dgs_nil : PGs X [] (lGs [] dgNil) := PGs.imp pgs_nil fun vs σ H Q ⟨g, ds, Qd, s, r, w, k⟩ => by
  obtain ⟨rfl, w⟩ := w
  cases r
  exact ⟨rfl, k g.S σ s (fun _ _ => rfl) rfl w⟩
theorem dgs_cons {t : TDG} {u : TDGs} (h1 : PG X e (lG is t)) (h2 : PGs X es (lGs js u)) (hs : (assignEach (e :: es) X.env).map (·.2) = assign e X.env :: (assignEach es X.env).map (·.2) := by rfl) : PGs X (e :: es) (lGs (is ++ js) (dgCons t u)) :=
  PGs.imp (pgs_cons h1 h2 hs) fun vs σ H Q ⟨g, ds, Qd, s, r, w, k⟩ => by
    obtain ⟨d, ds', rfl, w⟩ := w
    rcases r with _ | ⟨r1, r2⟩
    refine ⟨_, _, rfl, g, d, _, s, r1, w, fun S' σ' s' hs' hl' q => ?_⟩
    refine ⟨{ g with S := S' }, ds', Qd, s', r2, q, fun S2 σ2 s2 hs2 hl2 q2 => k S2 σ2 s2 (fun j hj => ?_) (hl2.trans hl') q2⟩
    simp only [List.mem_append, not_or] at hj
    rw [hs2 j hj.2, hs' j hj.1]
def dgTup (n : Nat) (t : TDGs) : TDG := fun d S Q => ∃ ds, d = .tup ds ∧ ds.length = n ∧ t ds S Q
theorem dg_tup {k n : Nat} {t : TDGs} (h : PGs X es (lGs is t)) (hc : X.calm = true := by rfl) (hn : (assignEach es X.env).length = n := by rfl) (hst : (assignEach es X.env).findIdx? (·.1) = none := by rfl) : PG X (.Tuple es k pos) (lG is (dgTup n t)) :=
  PG.imp (pg_tup hc h hn hst) fun v σ H Q ⟨g, d, Qd, s, r, w, k⟩ => by
    obtain ⟨ds, rfl, hl, w⟩ := w
    cases r with
    | tup h n l => exact ⟨_, _, rfl, .of h, by rw [l.length]; exact hl, g, ds, Qd, s, l, w, k⟩
/-- target = value -/
def dsAsg (te : TDE) (t : TDG) : TDS := fun De S => te S fun d => t d S De.nx
theorem ds_asg {te : TDE} {t : TDG} {pos : Pos} (he : PE X e (lE te)) (hg : PG X tg (lG is t)) (hs : swapsWithSole [tg] e pos.line X.env = pure false := by rfl) (hw : swappedStores [tg] e X.env = pure none := by rfl)
    (h1 : (assignEach [tg] X.env).map (·.2) = [assign tg X.env] := by rfl) : PS X (.Assign [tg] e pos) (lS (dsAsg te t)) := PS.imp (ps_asg he hg hs hw h1) fun D σ H ⟨g, De, s, w, l⟩ =>
  ⟨g, _, s, w, fun d v H1 w1 x1 s1 r1 => ⟨g, d, _, s1, r1, w1, fun S' σ' s' _ _ q => l.nx g.ow S' σ' H1 s' q⟩⟩
end

/-! ### the base moved to the loop's start -/
open Classical in
noncomputable def reb (g : Gh) (H : Hp) : Gh := { g with H0 := fun b => if ∃ i, g.ow i = some b then none else H b }
theorem reb_at {g : Gh} {H : Hp} {b : Addr} (h : ¬ ∃ i, g.ow i = some b) : (reb g H).H0 b = H b := if_neg h
theorem reb_own {g : Gh} {H : Hp} {b : Addr} (h : ∃ i, g.ow i = some b) : (reb g H).H0 b = none := if_pos h
theorem Stt.reb {g : Gh} {σ : St} {H : Hp} (s : Stt g σ H) : Stt (reb g H) σ H where
  len := s.len
  val := s.val
  own := s.own
  inj := s.inj
  new := fun i a e => ⟨reb_own ⟨i, e⟩, (s.new i a e).2⟩
  alive := s.alive
  keep := fun a o e n => by
    by_cases h : ∃ i, g.ow i = some a
    · rw [reb_own h] at e; cases e
    · rw [reb_at h] at e; exact e
  bag := s.bag
  ex := ⟨fun a o ha na => by
    have h1 := s.ex.e0 a o ha na
    rw [reb_at fun ⟨j, h⟩ => by rw [(s.new j a h).1] at h1; cases h1]
    exact s.keep a o h1 na, s.ex.em, s.ex.ea, s.ex.el, s.ex.ez, s.ex.en⟩
theorem Stt.unreb {g : Gh} {σ σ' : St} {H H' : Hp} {ow : Nat → Option Addr} {S : SS} (s0 : Stt g σ H) (s : Stt { DL.reb g H with ow := ow, S := S } σ' H') : Stt { g with ow := ow, S := S } σ' H' := by
  have key : ∀ a o, g.H0 a = some o → ¬ isB g.z a → (DL.reb g H).H0 a = some o := fun a o e n => by
    rw [reb_at (fun ⟨i, h⟩ => by rw [(s0.new i a h).1] at e; cases e)]
    exact s0.keep a o e n
  refine ⟨s.len, s.val, s.own, s.inj, fun i a e => ⟨?_, (s.new i a e).2⟩, s.alive, fun a o e n => s.keep a o (key a o e n) n, s.bag, s0.ex.e0, s.ex.em, s.ex.ea, s.ex.el, s.ex.ez, s.ex.en⟩
  cases q : g.H0 a with
  | none => rfl
  | some o =>
    have h1 := key a o q fun h => (s.new i a e).2.2 h.res
    have h2 : (DL.reb g H).H0 a = none := (s.new i a e).1
    rw [h1] at h2; cases h2
/-- at a later state of the loop -/
theorem lat_of {g : Gh} {σ σ' : St} {H H' : Hp} {ow : Nat → Option Addr} {S : SS} (s : Stt { reb g H with ow := ow, S := S } σ' H') : Lat g H H' := fun b o n e => by
  refine s.keep b o ?_ fun h => n (res_M h.res)
  show (reb g H).H0 b = some o
  rw [reb_at fun h => n (.inr (.inr h))]; exact e
theorem tr_of {g : Gh} {σ σ' : St} {H H' : Hp} {ow : Nat → Option Addr} {S : SS} (s : Stt { reb g H with ow := ow, S := S } σ' H') : Tr g.M H (Mo g.M0 g.z ow) H' := Tr.of fun b o n e => by
  refine ⟨lat_of (σ := σ') s b o n e, fun h => ?_⟩
  rcases h with h | h | ⟨i, h⟩
  · exact n (.inl h)
  · exact n (.inr (.inl h))
  · have h2 : (reb g H).H0 b = none := (s.new i b h).1
    rw [reb_at fun h => n (.inr (.inr h)), e] at h2; cases h2
theorem BagOk.grow {z : Bz} {H H' : Hp} (b : BagOk z H) (g : Grow H H') : BagOk z H' where
  bg := fun a l e => by
    obtain ⟨ne, ns, at_, big, seed, cnt, e1, e2, r⟩ := b.bg a l e
    exact ⟨ne, ns, at_, big, seed, cnt, g _ _ e1, g _ _ e2, r⟩
  tb := fun P e => (b.tb P e).keeps g
  ap := b.ap

/-! ### for -/
def wpFor (body : D → TDS) : List D → TDS
  | [] => fun De S => De.nx S
  | d :: ds => fun De S => body d { De with nx := wpFor body ds De, ct := wpFor body ds De, bk := De.nx } S
def dsFor (ti : TDI) (tg : TDG) (tb : TDS) : TDS := fun De S => ti S fun ds => wpFor (fun d De' S' => tg d S' fun S2 => tb De' S2) ds De S
section
variable {X : Cx} {tg iter c : Expr} {pos : Pos} {is : List Nat} {body : List Stmt} {ti : TDI} {tgd : TDG} {tb : TDS} {tt : TDT}
theorem ds_for (hi : DI X tg iter ti) (hg : PG X tg (lG is tgd)) (hb : PSs X body (lS tb)) (hp : PassesOwn (model X.prog X.w) X.A X.env X.xe := by exact PassesOwn.never) (hc : X.calm = true := by rfl)
    (hs : ∀ x, foldedSetIterable iter X.env x = pure x := by intro _; rfl) : PS X (.For tg iter body [] pos) (lS (dsFor ti tgd tb)) := by
  obtain ⟨wi, hpi, hw⟩ := hi
  refine PS.imp (ps_for hp hc hpi hg hb hs) fun D σ H ⟨g, De, s, w, l⟩ => ?_
  refine hw g σ H _ _ s w fun ds J H1 w1 x1 s1 wk => ?_
  refine ⟨fun i m σ' H' => m = ds.length - i ∧ i ≤ ds.length ∧ ∃ (ow : Nat → Option Addr) (S : SS), Stt { reb g H1 with ow := ow, S := S } σ' H' ∧ wpFor (fun d De' S' => tgd d S' fun S2 => tb De' S2) (ds.drop i) De S,
    ⟨ds.length, by simp, Nat.zero_le _, g.ow, g.S, s1.reb, w1⟩, ?_⟩
  rintro i m σ' H' ⟨rfl, hi, ow, S, s', w'⟩
  by_cases hlt : i < ds.length
  · have ed : ds.drop i = ds[i] :: ds.drop (i + 1) := List.drop_eq_getElem_cons hlt
    rw [ed] at w'
    refine .inr ⟨wk.go i H' (lat_of (σ := σ') s') hlt, fun σ2 H2 => ∃ (ow : Nat → Option Addr) (S : SS), Stt { reb g H1 with ow := ow, S := S } σ2 H2 ∧ wpFor (fun d De' S' => tgd d S' fun S2 => tb De' S2) (ds.drop (i + 1)) De S,
      fun σ2 H2 ⟨ow2, S2, s2, w2⟩ => ⟨ds.length - (i + 1), by omega, rfl, hlt, ow2, S2, s2, w2⟩, fun x H'' y => ?_⟩
    obtain ⟨gr, rp⟩ := wk.yld i H' x H'' ds[i] (lat_of (σ := σ') s') y (List.getElem?_eq_getElem hlt)
    have r := rp _ (tr_of (σ := σ') s') s'.alive
    have s'' : Stt { reb g H1 with ow := ow, S := S } σ' H'' := s'.ext (fun a o e _ => gr a o e) (s'.bag.grow gr)
    refine ⟨_, ds[i], _, s'', r, w', fun S3 σ3 s3 _ _ w3 => ?_⟩
    refine ⟨{ reb g H1 with ow := ow, S := S3 }, _, s3, w3, ⟨fun ow4 S4 σ4 H4 s4 w4 => ⟨ow4, S4, s4, w4⟩, fun ow4 S4 σ4 H4 s4 w4 => l.nx ow4 S4 σ4 H4 (s1.unreb s4) w4, fun ow4 S4 σ4 H4 s4 w4 => ⟨ow4, S4, s4, w4⟩, fun d v H4 q x b r => ?_, fun d a H4 q x b hn nm o => ?_⟩⟩
    · refine l.rt d v H4 q (fun a o e n => ?_) b r
      refine x a o ?_ n
      show (reb g H1).H0 a = some o
      rw [reb_at fun ⟨j, h⟩ => by rw [(s1.new j a h).1] at e; cases e]
      exact s1.keep a o e n
    · have kk : ∀ a o, g.H0 a = some o → ¬ isB g.z a → (reb g H1).H0 a = some o := fun a o e n => by
        rw [reb_at fun ⟨j, h⟩ => by rw [(s1.new j a h).1] at e; cases e]
        exact s1.keep a o e n
      refine l.rf d a H4 q (fun a o e n => x a o (kk a o e n) n) b ?_ nm o
      cases q0 : g.H0 a with
      | none => rfl
      | some u =>
        have h1 := kk a u q0 fun h => nm (.inr (.inl h.res))
        have h2 : (reb g H1).H0 a = none := hn
        rw [h1] at h2; cases h2
  · have e : i = ds.length := by omega
    subst e
    rw [List.drop_length] at w'
    exact .inl ⟨wk.stop H' (lat_of (σ := σ') s'), l.nx ow S σ' H' (s1.unreb s') w'⟩
/-! ### while -/
def wpWhile (c : TDT) (tb : TDS) : Nat → TDS
  | 0 => fun _ _ => False
  | n + 1 => fun De S => c S fun k => if k = true then tb { De with nx := wpWhile c tb n De, ct := wpWhile c tb n De, bk := De.nx } S else De.nx S
def dsWhile (c : TDT) (tb : TDS) : TDS := fun De S => ∃ n, wpWhile c tb n De S
theorem ds_while (hc : PT X c (lT tt)) (hb : PSs X body (lS tb)) (hp : PassesOwn (model X.prog X.w) X.A X.env X.xe := by exact PassesOwn.never) : PS X (.While c body [] pos) (lS (dsWhile tt tb)) := by
  refine PS.imp (ps_while hp hc hb) fun D σ H ⟨g, De, s, ⟨n, w⟩, l⟩ => ?_
  refine ⟨fun m σ' H' => ∃ (ow : Nat → Option Addr) (S : SS), Stt { g with ow := ow, S := S } σ' H' ∧ wpWhile tt tb m De S, ⟨n, g.ow, g.S, s, w⟩, ?_⟩
  rintro m σ' H' ⟨ow, S, s', w'⟩
  cases m with
  | zero => exact w'.elim
  | succ m =>
    refine ⟨{ g with ow := ow, S := S }, _, s', w', fun k H1 w1 x1 s1 => ?_⟩
    cases k with
    | false => exact l.nx ow S σ' H1 s1 w1
    | true =>
      refine ⟨fun σ2 H2 => ∃ (ow : Nat → Option Addr) (S : SS), Stt { g with ow := ow, S := S } σ2 H2 ∧ wpWhile tt tb m De S, fun σ2 H2 h => ⟨m, Nat.lt_succ_self _, h⟩, ?_⟩
      exact ⟨{ g with ow := ow, S := S }, _, s1, w1, ⟨fun ow4 S4 σ4 H4 s4 w4 => ⟨ow4, S4, s4, w4⟩, fun ow4 S4 σ4 H4 s4 w4 => l.nx ow4 S4 σ4 H4 s4 w4, fun ow4 S4 σ4 H4 s4 w4 => ⟨ow4, S4, s4, w4⟩, l.rt, l.rf⟩⟩
end
end L2.DL

namespace L2.DL
open PySem PySem.Spec PyProof.Rows

/-! ### comprehensions -/
def wipeS (S : SS) : List Nat → SS
  | [] => S
  | v :: vs => (wipeS S vs).set v .no
theorem wipeS_length (S : SS) : ∀ vs : List Nat, (wipeS S vs).length = S.length
  | [] => rfl
  | v :: vs => by unfold wipeS; rw [List.length_set, wipeS_length S vs]
theorem wipeS_some {S : SS} {i : Nat} {x : Sl} : ∀ {vs : List Nat}, (wipeS S vs)[i]? = some x → x ≠ .no → S[i]? = some x ∧ i ∉ vs
  | [], h, _ => ⟨h, by simp⟩
  | v :: vs, h, hx => by
    unfold wipeS at h
    rw [List.getElem?_set] at h
    by_cases hi : v = i
    · subst hi
      rw [if_pos rfl] at h
      split at h
      · cases h; exact (hx rfl).elim
      · cases h
    · rw [if_neg hi] at h
      obtain ⟨h1, h2⟩ := wipeS_some h hx
      exact ⟨h1, by simp only [List.mem_cons, not_or]; exact ⟨fun e => hi e.symm, h2⟩⟩
theorem wipe_at {σ : St} {i : Nat} : ∀ {vs : List Nat}, i ∈ vs → (wipe σ vs)[i]? = if i < σ.length then some none else none
  | v :: vs, h => by
    unfold wipe
    rw [List.getElem?_set]
    by_cases hi : v = i
    · subst hi
      rw [if_pos rfl, wipe_length]
    · rw [if_neg hi]
      exact wipe_at ((List.mem_cons.mp h).resolve_left fun e => hi e.symm)
theorem wipe_eq {σ σ' : St} {vs is : List Nat} (h : ∀ j, j ∉ is → σ'[j]? = (wipe σ vs)[j]?) (hl : σ'.length = σ.length) (hs : ∀ j ∈ is, j ∈ vs) : wipe σ' vs = wipe σ vs := by
  apply List.ext_getElem?
  intro j
  by_cases hj : j ∈ vs
  · rw [wipe_at hj, wipe_at hj, hl]
  · rw [wipe_out hj]
    exact h j fun e => hj (hs j e)
theorem wipe2_eq {σ σ' : St} {vs is : List Nat} (h : ∀ j, j ∉ is → σ'[j]? = (wipe σ vs)[j]?) (hl : σ'.length = σ.length) (hs : ∀ j ∈ is, j ∈ vs) : wipe σ' vs = wipe σ vs := wipe_eq h hl hs
theorem Stt.wipe {g : Gh} {σ : St} {H : Hp} (s : Stt g σ H) (vs : List Nat) : Stt { g with S := wipeS g.S vs } (wipe σ vs) H where
  len := by show (wipeS g.S vs).length = _; rw [wipeS_length, wipe_length]; exact s.len
  val := fun i d e => by
    obtain ⟨e1, hi⟩ := wipeS_some e (by intro h; cases h)
    obtain ⟨v, e2, r⟩ := s.val i d e1
    exact ⟨v, by rw [wipe_out hi]; exact e2, r⟩
  own := fun i d e => by
    obtain ⟨e1, hi⟩ := wipeS_some e (by intro h; cases h)
    obtain ⟨v, e2, r⟩ := s.own i d e1
    exact ⟨v, by rw [wipe_out hi]; exact e2, r⟩
  inj := s.inj
  new := s.new
  alive := s.alive
  keep := s.keep
  bag := s.bag
  ex := ⟨s.ex.e0, s.ex.em, s.ex.ea, fun i E Ed e => s.ex.el i E Ed (wipeS_some e (by intro h; cases h)).1, fun i p e => s.ex.ez i p (wipeS_some e (by intro h; cases h)).1, s.ex.en⟩
/-- with one more address that is apart -/
def withD (g : Gh) (a : Addr) : Gh := { g with M0 := fun b => g.M0 b ∨ b = a }
theorem withD_M {g : Gh} {a b : Addr} : (withD g a).M b ↔ g.M b ∨ b = a := by
  constructor
  · rintro ((h | h) | h | h)
    · exact .inl (.inl h)
    · exact .inr h
    · exact .inl (.inr (.inl h))
    · exact .inl (.inr (.inr h))
  · rintro ((h | h | h) | h)
    · exact .inl (.inl h)
    · exact .inr (.inl h)
    · exact .inr (.inr h)
    · exact .inl (.inr h)
theorem Stt.withD {g : Gh} {σ : St} {H : Hp} {a : Addr} {o : HO} (s : Stt g σ H) (ha : H a = none) (no : NtO o := by exact trivial) : Stt (withD g a) σ (upd H a o) := by
  have tr : Tr g.M H (DL.withD g a).M (upd H a o) := Tr.of fun b u n e => by
    have ne := ne_of_none e ha
    exact ⟨by rw [upd_ne ne]; exact e, fun h => (withD_M.mp h).elim n ne⟩
  have s' := s.alloc (o := o) ha
  refine ⟨s.len, fun i d e => ?_, fun i d e => ?_, s.inj, fun i b e => ⟨(s.new i b e).1, fun h => ?_, (s.new i b e).2.2⟩, fun b h => ?_, s'.keep, s'.bag, s.ex.more (fun _ h => .inl h) fun b h => h.elim .inl fun h => .inr (by rw [h]; exact s.x0 ha)⟩
  · obtain ⟨v, e1, r⟩ := s.val i d e
    exact ⟨v, e1, r.tr tr⟩
  · obtain ⟨v, e1, e2, r⟩ := s.own i d e
    refine ⟨v, e1, e2, r.tr tr fun u q => ?_⟩
    rw [upd_ne (ne_of_none q ha)]; exact q
  · rcases h with h | h
    · exact (s.new i b e).2.1 h
    · subst h
      exact (s.alive b (.inr (.inr ⟨i, e⟩))).ne ha
  · rcases withD_M.mp h with h | rfl
    · exact s'.alive b h
    · exact Nt.upd no
/-- that address is changed -/
theorem Stt.updD {g : Gh} {σ : St} {H : Hp} {a : Addr} {o : HO} (s : Stt g σ H) (hm : g.M0 a) (h0 : g.H0 a = none) (hr : ¬ resB g.z a) (hc : ∀ c q, H a ≠ some (CodeO c q)) (no : NtO o := by exact trivial) : Stt g σ (upd H a o) := by
  have tr : Tr g.M H g.M (upd H a o) := tr_mut (.inl hm) o
  refine ⟨s.len, fun i d e => ?_, fun i d e => ?_, s.inj, s.new, fun b h => ?_, fun b u e n => ?_, s.bag.mut hr hc, s.ex⟩
  · obtain ⟨v, e1, r⟩ := s.val i d e
    exact ⟨v, e1, r.tr tr⟩
  · obtain ⟨v, e1, e2, r⟩ := s.own i d e
    refine ⟨v, e1, e2, r.tr tr fun u q => ?_⟩
    rw [upd_ne (show v ≠ a by rintro rfl; exact (s.new i v e2).2.1 hm)]; exact q
  · by_cases hb : b = a
    · subst hb; exact Nt.upd no
    · obtain ⟨u, e, n⟩ := s.alive b h
      exact ⟨u, by rw [upd_ne hb]; exact e, n⟩
  · rw [upd_ne (show b ≠ a by rintro rfl; rw [h0] at e; cases e)]
    exact s.keep b u e n
def wpMap (f : D → (List D → Prop) → Prop) : List D → (List D → Prop) → Prop
  | [], Q => Q []
  | d :: ds, Q => f d fun r => wpMap f ds fun rs => Q (r ++ rs)
def dtsNil : TDT := fun _ Q => Q true
def ExtA (z : Bz) (A : Addr) (H H' : Hp) : Prop := ∀ b o, H b = some o → ¬ isB z b → b ≠ A → H' b = some o
theorem ExtA.trans {z : Bz} {A : Addr} {H H1 H2 : Hp} (a : ExtA z A H H1) (b : ExtA z A H1 H2) : ExtA z A H H2 := fun c o e n m => b c o (a c o e n m) n m
theorem Ext.A {z : Bz} {A : Addr} {H H' : Hp} (x : Ext z H H') : ExtA z A H H' := fun b o e n _ => x b o e n
theorem ExtA.upd {z : Bz} {A : Addr} {H H' : Hp} {o : HO} (x : ExtA z A H H') : ExtA z A H (upd H' A o) := fun b u e n m => by rw [upd_ne m]; exact x b u e n m
theorem ExtA.tr {g : Gh} {A : Addr} {H H' : Hp} (x : ExtA g.z A H H') (hm : g.M A) : Tr g.M H g.M H' := Tr.of fun b o n e => ⟨x b o e (fun h => n (res_M h.res)) fun h => by subst h; exact n hm, n⟩
theorem Stt.extA {g : Gh} {σ : St} {A : Addr} {H H' : Hp} (s : Stt g σ H) (hm : g.M0 A) (h0 : g.H0 A = none) (x : ExtA g.z A H H') (b : BagOk g.z H') (hA : Nt H' A) : Stt g σ H' := by
  have tr := x.tr (.inl hm)
  have nA : ∀ i a, g.ow i = some a → a ≠ A := fun i a e h => by subst h; exact (s.new i a e).2.1 hm
  refine ⟨s.len, fun i d e => ?_, fun i d e => ?_, s.inj, s.new, fun a h => ?_, fun a o e n => x a o (s.keep a o e n) n (fun h => by subst h; rw [h0] at e; cases e), b, s.ex⟩
  · obtain ⟨v, e1, r⟩ := s.val i d e
    exact ⟨v, e1, r.tr tr⟩
  · obtain ⟨v, e1, e2, r⟩ := s.own i d e
    exact ⟨v, e1, e2, r.tr tr fun o q => x v o q (fun h => (s.new i v e2).2.2 h.res) (nA i v e2)⟩
  · by_cases ha : a = A
    · subst ha; exact hA
    · by_cases hb : resB g.z a
      · exact b.alive hb
      · obtain ⟨o, e, n⟩ := s.alive a h
        exact ⟨o, x a o e (fun h => hb h.res) ha, n⟩
structure WkA (g : Gh) (A : Addr) (H1 : Hp) (J : It) (ds : List D) : Prop where
  go : ∀ i H', ExtA g.z A H1 H' → i < ds.length → J.go i H'
  stop : ∀ H', ExtA g.z A H1 H' → J.stop ds.length H'
  yld : ∀ (i : Nat) H' x H'' d, ExtA g.z A H1 H' → (∀ p, g.M p → Nt H' p) → J.yld i H' x H'' → ds[i]? = some d → Grow H' H'' ∧ Rp g.z g.M H'' x d
theorem lc_gen {g : Gh} {A : Addr} {σ : St} {H1 : Hp} {vs is : List Nat} {J : It} {ds : List D} {tgd : TDG} {B : St → Hp → (Hp → Prop) → Prop} {fB : SS → (List D → Prop) → Prop} {N : Hp → Prop} {xs0 : List V} {rs0 : List D} {Qr : List D → Prop}
    (s1 : Stt g σ H1) (hm : g.M0 A) (h0 : g.H0 A = none) (hr : ¬ resB g.z A) (wk : WkA g A H1 J ds) (hv : ∀ j ∈ is, j ∈ vs) (c : Nat)
    (hB : ∀ (S' : SS) (σ' : St) (H' : Hp) (xs : List V) (rs : List D) (Qr : List D → Prop) (Nx : Hp → Prop), Stt { g with S := S' } σ' H' → H' A = some (.lst xs) → RpL g.z g.M H' xs rs → rs.length + c ≤ sizeLine → fB S' Qr →
      (∀ H2 xs2 r, ExtA g.z A H' H2 → BagOk g.z H2 → H2 A = some (.lst xs2) → RpL g.z g.M H2 xs2 (rs ++ r) → r.length ≤ c → Qr r → Nx H2) → B σ' H' Nx)
    (e0 : H1 A = some (.lst xs0)) (l0 : RpL g.z g.M H1 xs0 rs0) (hb : rs0.length + ds.length * c ≤ sizeLine) (w : wpMap (fun d k => tgd d (wipeS g.S vs) fun S2 => fB S2 k) ds Qr)
    (hN : ∀ H2 xs2 r, ExtA g.z A H1 H2 → BagOk g.z H2 → H2 A = some (.lst xs2) → RpL g.z g.M H2 xs2 (rs0 ++ r) → r.length ≤ ds.length * c → Qr r → N H2) :
    ∃ W : Nat → Nat → Hp → Prop, (∃ m, W 0 m H1) ∧ ∀ i m H, W i m H → (J.stop i H ∧ N H) ∨ (J.go i H ∧ ∃ Nx : Hp → Prop, (∀ H', Nx H' → ∃ m', m' < m ∧ W (i + 1) m' H') ∧
      ∀ x H', J.yld i H x H' → lG is tgd x (L2.wipe σ vs) H' fun σ2 H2 => L2.wipe σ2 vs = L2.wipe σ vs ∧ B σ2 H2 Nx) := by
  refine ⟨fun i m H' => m = ds.length - i ∧ i ≤ ds.length ∧ ∃ xs r, ExtA g.z A H1 H' ∧ BagOk g.z H' ∧ H' A = some (.lst xs) ∧ RpL g.z g.M H' xs (rs0 ++ r) ∧ r.length ≤ i * c ∧ wpMap (fun d k => tgd d (wipeS g.S vs) fun S2 => fB S2 k) (ds.drop i) fun rest => Qr (r ++ rest),
    ⟨ds.length, by simp, Nat.zero_le _, xs0, [], fun b o e _ _ => e, s1.bag, e0, by simpa using l0, Nat.zero_le _, w⟩, ?_⟩
  rintro i m H' ⟨rfl, hi, xs, r, x, b, ea, l, hrl, w'⟩
  have s' : Stt g σ H' := s1.extA hm h0 x b ⟨_, ea, trivial⟩
  by_cases hlt : i < ds.length
  · have ed : ds.drop i = ds[i] :: ds.drop (i + 1) := List.drop_eq_getElem_cons hlt
    rw [ed] at w'
    have hmul : (i + 1) * c ≤ ds.length * c := Nat.mul_le_mul_right c hlt
    have hmul2 : (i + 1) * c = i * c + c := by rw [Nat.add_mul, Nat.one_mul]
    refine .inr ⟨wk.go i H' x hlt, fun H2 => ∃ xs r, ExtA g.z A H1 H2 ∧ BagOk g.z H2 ∧ H2 A = some (.lst xs) ∧ RpL g.z g.M H2 xs (rs0 ++ r) ∧ r.length ≤ (i + 1) * c ∧ wpMap (fun d k => tgd d (wipeS g.S vs) fun S2 => fB S2 k) (ds.drop (i + 1)) fun rest => Qr (r ++ rest),
      fun H2 h => ⟨ds.length - (i + 1), by omega, rfl, hlt, h⟩, fun v H'' y => ?_⟩
    obtain ⟨gr, rp⟩ := wk.yld i H' v H'' ds[i] x s'.alive y (List.getElem?_eq_getElem hlt)
    have x'' : Ext g.z H' H'' := fun a o e _ => gr a o e
    have s'' := (s'.ext x'' (b.grow gr)).wipe vs
    refine ⟨{ g with S := wipeS g.S vs }, ds[i], _, s'', rp, w', fun S3 σ3 s3 hs3 hl3 w3 => ⟨wipe_eq hs3 (by rw [hl3, wipe_length]) hv, ?_⟩⟩
    refine hB S3 σ3 H'' xs (rs0 ++ r) _ _ s3 (gr _ _ ea) (l.ext x'') (by rw [List.length_append]; omega) w3 fun H2 xs2 r2 x2 b2 ea2 l2 hr2 q2 => ?_
    refine ⟨xs2, r ++ r2, (x.trans x''.A).trans x2, b2, ea2, by rw [← List.append_assoc]; exact l2, by rw [List.length_append]; omega, ?_⟩
    simpa [List.append_assoc] using q2
  · have e : i = ds.length := by omega
    subst e
    rw [List.drop_length] at w'
    exact .inl ⟨wk.stop H' x, hN H' xs r x b ea l hrl (by simpa [wpMap] using w')⟩
def lcF (tt : TDT) (te : TDE) : SS → (List D → Prop) → Prop := fun S2 k => tt S2 fun b => if b = true then te S2 fun r => k [r] else k []
def lcB (A : Addr) (tt : TT) (te : TE) : St → Hp → (Hp → Prop) → Prop := fun σ2 H2 Nx => tt σ2 H2 fun b H3 => if b = true then te σ2 H3 fun y H4 => ∃ acc, H4 A = some (.lst acc) ∧ acc.length < sizeLine ∧ Nx (upd H4 A (.lst (acc ++ [y]))) else Nx H3
theorem lcB_ok {g : Gh} {A : Addr} {tt : TDT} {te : TDE} (hm : g.M0 A) (hr : ¬ resB g.z A) (S' : SS) (σ' : St) (H' : Hp) (xs : List V) (rs : List D) (Qr : List D → Prop) (Nx : Hp → Prop) (s : Stt { g with S := S' } σ' H') (ea : H' A = some (.lst xs)) (l : RpL g.z g.M H' xs rs) (hz : rs.length + 1 ≤ sizeLine) (w : lcF tt te S' Qr)
      (k : ∀ H2 xs2 r, ExtA g.z A H' H2 → BagOk g.z H2 → H2 A = some (.lst xs2) → RpL g.z g.M H2 xs2 (rs ++ r) → r.length ≤ 1 → Qr r → Nx H2) : lcB A (lT tt) (lE te) σ' H' Nx := by
  refine ⟨_, _, s, w, fun b H3 w3 x3 s3 => ?_⟩
  have ea3 := x3 A _ ea fun h => hr h.res
  cases b with
  | false => exact k H3 xs [] x3.A s3.bag ea3 (by simpa using l.ext x3) (by simp) w3
  | true =>
    refine ⟨_, _, s3, w3, fun d v H4 w4 x4 s4 r4 => ?_⟩
    have ea4 := x4 A _ ea3 fun h => hr h.res
    have hA : g.M A := .inl hm
    refine ⟨xs, ea4, by rw [l.length]; omega, k _ _ [d] (ExtA.upd (x3.trans x4).A) ?_ upd_same ?_ (by simp) w4⟩
    · exact s4.bag.mut hr fun c q e => by rw [ea4] at e; cases e
    · exact (((l.ext x3).ext x4).append (.one r4)).tr (tr_mut hA _)
/-- [e for t in it if c] -/
def dLc (ti : TDI) (tgd : TDG) (tt : TDT) (te : TDE) (vs : List Nat) : TDE := fun S Q => ti S fun ds => ds.length ≤ sizeLine ∧ wpMap (fun d k => tgd d (wipeS S vs) fun S2 => lcF tt te S2 k) ds fun rs => Q (.lst rs)
theorem Wk.A {g : Gh} {A : Addr} {H1 : Hp} {J : It} {ds : List D} {o : HO} (wk : Wk g H1 J ds) (hA : H1 A = none) : WkA (withD g A) A (upd H1 A o) J ds := by
  have lat : ∀ {H'}, ExtA g.z A (upd H1 A o) H' → Lat g H1 H' := fun {H'} x b u n e => x b u (by rw [upd_ne (ne_of_none e hA)]; exact e) (fun h => n (res_M h.res)) (ne_of_none e hA)
  refine ⟨fun i H' x hi => wk.go i H' (lat x) hi, fun H' x => wk.stop H' (lat x), fun i H' v H'' d x fr y hd => ?_⟩
  obtain ⟨gr, rp⟩ := wk.yld i H' v H'' d (lat x) y hd
  exact ⟨gr, rp _ (Tr.of fun b u n e => ⟨lat x b u n e, fun h => (withD_M.mp h).elim n (ne_of_none e hA)⟩) fr⟩
theorem Wk.A2 {g : Gh} {A : Addr} {H1 : Hp} {J : It} {ds : List D} (wk : Wk g H1 J ds) (hm : g.M A) : WkA g A H1 J ds := by
  have lat : ∀ {H'}, ExtA g.z A H1 H' → Lat g H1 H' := fun {H'} x b u n e => x b u e (fun h => n (res_M h.res)) fun h => by subst h; exact n hm
  refine ⟨fun i H' x hi => wk.go i H' (lat x) hi, fun H' x => wk.stop H' (lat x), fun i H' v H'' d x fr y hd => ?_⟩
  obtain ⟨gr, rp⟩ := wk.yld i H' v H'' d (lat x) y hd
  exact ⟨gr, rp _ (x.tr hm) fr⟩
section
variable {X : Cx} {elt tg iter tg1 iter1 : Expr} {ifs ifs1 : List Expr} {scope : Scope} {own : List (Str × Nat)} {pos : Pos} {is is1 vs1 : List Nat} {ti ti1 : TDI} {tgd tgd1 : TDG} {tt tt1 : TDT} {te : TDE}
theorem dts_nil : PTs X [] (lT dtsNil) := ⟨fun pins s σ H Q I h => by
  obtain ⟨g, Qd, s', w, k⟩ := h
  exact pts_nil.run pins s σ H Q I (k true H w .refl s')⟩
theorem dts_one {c : Expr} (h : PT X c (lT tt)) : PTs X [c] (lT tt) := pts_one h
theorem lc_end {g : Gh} {σ : St} {H H1 H2 : Hp} {A : Addr} {xs : List V} {rs : List D} {Qd : D → Prop} {Q : VK} {o : HO} (s1 : Stt g σ H1) (x1 : Ext g.z H H1) (hA : H1 A = none) (x : ExtA g.z A (upd H1 A o) H2) (b : BagOk g.z H2) (ea : H2 A = some (.lst xs)) (l : RpL g.z (withD g A).M H2 xs rs) (q : Qd (.lst rs))
    (k : ∀ d a H', Qd d → Ext g.z H H' → Stt g σ H' → H a = none → ¬ g.M a → OwF g.z g.M H' a d → Q (.ref a) H') : Q (.ref A) H2 := by
  have hr : ¬ resB g.z A := fun h => s1.fresh hA (res_M h)
  have x2 : Ext g.z H1 H2 := fun c u e n => x c u (by rw [upd_ne (ne_of_none e hA)]; exact e) n (ne_of_none e hA)
  exact k (.lst rs) A H2 q (x1.trans x2) (s1.ext x2 b) (x1.none_of hA fun h => hr h.res) (s1.fresh hA) (.lst ea (l.tr (M' := fun b => g.M b ∨ b = A) (Tr.of fun b o n e => ⟨e, fun h => n (withD_M.mpr h)⟩)))
def WalkOk (ti : TDI) (wi : TI) : Prop := ∀ (g : Gh) (σ : St) (H : Hp) (Qd : List D → Prop) (R : It → Hp → Prop), Stt g σ H → ti g.S Qd → (∀ ds J H1, Qd ds → Ext g.z H H1 → Stt g σ H1 → Wk g H1 J ds → R J H1) → wi σ H R
theorem lc_imp {wi : TI} {vs : List Nat} (hw : WalkOk ti wi) (hv : ∀ j ∈ is, j ∈ vs) {σ : St} {H : Hp} {Q : VK} (h : lF (dLc ti tgd tt te vs) σ H Q) : tLc wi (lG is tgd) (lT tt) (lE te) vs σ H Q := by
  obtain ⟨g, Qd, s, w, k⟩ := h
  refine hw g σ H _ _ s w fun ds J H1 w1 x1 s1 wk A hA => ?_
  have hr : ¬ resB g.z A := fun h => s1.fresh hA (res_M h)
  have h0 : g.H0 A = none := s1.keep.none_of hA fun h => hr h.res
  exact lc_gen (g := withD g A) (B := lcB A (lT tt) (lE te)) (fB := lcF tt te) (rs0 := []) (s1.withD hA) (.inr rfl) h0 hr (wk.A hA) hv 1 (lcB_ok (g := withD g A) (.inr rfl) hr) upd_same .nil (by simpa using w1.1) w1.2
    fun H2 xs2 r x b ea l _ q => lc_end s1 x1 hA x b ea l q k
abbrev BlkA (X : Cx) (scope : Scope) (P : Cx → Prop) : Prop := ∀ (s : Shared) (H : Hp) (C : Addr) (cl : List (Str × Addr)) (fp : List Addr), P (X.blk s H scope (compEnvC scope cl C X.env) fp)
theorem df_lc (hi : DI X tg iter ti) (hN : X.N.Nodup) (ok : BlkOk X.N X.env.scope scope own) (hg : BlkA X scope fun Y => PG Y tg (lG is tgd)) (ht : BlkA X scope fun Y => PTs Y ifs (lT tt)) (he : BlkA X scope fun Y => PE Y elt (lE te))
    (hv : ∀ j ∈ is, j ∈ own.map (·.2) := by decide) (hc : X.calm = true := by rfl) (hs : ∀ x, foldedSetIterable iter X.env x = pure x := by intro _; rfl) : PE X (.ListComp elt [⟨tg, iter, ifs, 0⟩] scope pos) (lF (dLc ti tgd tt te (own.map (·.2)))) := by
  obtain ⟨wi, hpi, hw⟩ := hi
  exact PE.imp (pe_lc hc hN hpi ok hg ht he hs) fun σ H Q h => lc_imp hw hv h
/-- y = [..] -/
theorem ds_setLc {i : Nat} {y : Str} {py spos : Pos} (hi : DI X tg iter ti) (hN : X.N.Nodup) (hy : X.N[i]? = some y) (hyl : X.env.scope.names.lookup y = some .local) (hsw : swapsWith (.ListComp elt [⟨tg, iter, ifs, 0⟩] scope pos) (some (.Name y py)) spos.line X.env = pure true) (ok : BlkOk X.N X.env.scope scope own) (hg : BlkA X scope fun Y => PG Y tg (lG is tgd)) (ht : BlkA X scope fun Y => PTs Y ifs (lT tt)) (he : BlkA X scope fun Y => PE Y elt (lE te))
    (hv : ∀ j ∈ is, j ∈ own.map (·.2) := by decide) (hc : X.calm = true := by rfl) (hs : ∀ x, foldedSetIterable iter X.env x = pure x := by intro _; rfl) : PS X (.Assign [.Name y py] (.ListComp elt [⟨tg, iter, ifs, 0⟩] scope pos) spos) (lS (dsSet i (dLc ti tgd tt te (own.map (·.2))))) := by
  obtain ⟨wi, hpi, hw⟩ := hi
  exact PS.imp (ps_setLc hc hN hy hyl hsw hpi ok hg ht he hs) fun D σ H ⟨g, De, s, w, l⟩ => lc_imp hw hv ⟨g, _, s, w, fun d a H1 w1 x1 s1 hn nm o => l.nx g.ow _ _ H1 (s1.setVal (o.keepE nm)) w1⟩
theorem ds_ownLc {i : Nat} {y : Str} {py spos : Pos} (hi : DI X tg iter ti) (hN : X.N.Nodup) (hy : X.N[i]? = some y) (hyl : X.env.scope.names.lookup y = some .local) (hsw : swapsWith (.ListComp elt [⟨tg, iter, ifs, 0⟩] scope pos) (some (.Name y py)) spos.line X.env = pure true) (ok : BlkOk X.N X.env.scope scope own) (hg : BlkA X scope fun Y => PG Y tg (lG is tgd)) (ht : BlkA X scope fun Y => PTs Y ifs (lT tt)) (he : BlkA X scope fun Y => PE Y elt (lE te))
    (hv : ∀ j ∈ is, j ∈ own.map (·.2) := by decide) (hc : X.calm = true := by rfl) (hs : ∀ x, foldedSetIterable iter X.env x = pure x := by intro _; rfl) : PS X (.Assign [.Name y py] (.ListComp elt [⟨tg, iter, ifs, 0⟩] scope pos) spos) (lS (dsOwn i (dLc ti tgd tt te (own.map (·.2))))) := by
  obtain ⟨wi, hpi, hw⟩ := hi
  exact PS.imp (ps_setLc hc hN hy hyl hsw hpi ok hg ht he hs) fun D σ H ⟨g, De, s, w, l⟩ => lc_imp hw hv ⟨g, _, s, w, fun d a H1 w1 x1 s1 hn nm o => l.nx _ _ _ H1 (s.setOwn x1 s1.bag hn nm o) w1⟩
/-- [e for t in it if c for t1 in it1 if c1] -/
def lcF2 (B : Nat) (tt : TDT) (ti1 : TDI) (tgd1 : TDG) (tt1 : TDT) (te : TDE) (vs1 : List Nat) : SS → (List D → Prop) → Prop := fun S2 k => tt S2 fun b => if b = true then ti1 S2 fun es => es.length ≤ B ∧ wpMap (fun d k => tgd1 d (wipeS S2 vs1) fun S3 => lcF tt1 te S3 k) es k else k []
def dLc2 (ti : TDI) (tgd : TDG) (tt : TDT) (ti1 : TDI) (tgd1 : TDG) (tt1 : TDT) (te : TDE) (vs vs1 : List Nat) : TDE := fun S Q => ti S fun ds => ∃ B, ds.length * B ≤ sizeLine ∧ wpMap (fun d k => tgd d (wipeS S vs) fun S2 => lcF2 B tt ti1 tgd1 tt1 te vs1 S2 k) ds fun rs => Q (.lst rs)
theorem lc2_imp {wi wi1 : TI} {vs : List Nat} (hw : WalkOk ti wi) (hw1 : WalkOk ti1 wi1) (hv : ∀ j ∈ is, j ∈ vs) (hv1 : ∀ j ∈ is1, j ∈ vs1) {σ : St} {H : Hp} {Q : VK} (h : lF (dLc2 ti tgd tt ti1 tgd1 tt1 te vs vs1) σ H Q) : tLc2 wi (lG is tgd) (lT tt) wi1 (lG is1 tgd1) (lT tt1) (lE te) vs vs1 σ H Q := by
  obtain ⟨g, Qd, s, w, k⟩ := h
  refine hw g σ H _ _ s w fun ds J H1 ⟨c, w1, w2⟩ x1 s1 wk A hA => ?_
  have hr : ¬ resB g.z A := fun h => s1.fresh hA (res_M h)
  have h0 : g.H0 A = none := s1.keep.none_of hA fun h => hr h.res
  refine lc_gen (g := withD g A) (B := fun σ2 H3 Nx => lT tt σ2 H3 fun b H3 => if b = true then wi1 σ2 H3 fun J1 H4 => ∃ W1 : Nat → Nat → Hp → Prop, (∃ m, W1 0 m H4) ∧ ∀ j k H, W1 j k H →
      (J1.stop j H ∧ Nx H) ∨ (J1.go j H ∧ ∃ Nx1 : Hp → Prop, (∀ H', Nx1 H' → ∃ k', k' < k ∧ W1 (j + 1) k' H') ∧ ∀ x H', J1.yld j H x H' → lG is1 tgd1 x (L2.wipe σ2 vs1) H' fun σ3 H5 => L2.wipe σ3 vs1 = L2.wipe σ2 vs1 ∧ lcB A (lT tt1) (lE te) σ3 H5 Nx1)
    else Nx H3) (fB := lcF2 c tt ti1 tgd1 tt1 te vs1) (rs0 := []) (s1.withD hA) (.inr rfl) h0 hr (wk.A hA) hv c ?_ upd_same .nil (by simpa using w1) w2
    fun H2 xs2 r x b ea l _ q => lc_end s1 x1 hA x b ea l q k
  intro S' σ' H' xs rs Qr Nx s' ea l hz w' kk
  refine ⟨_, _, s', w', fun b H3 w3 x3 s3 => ?_⟩
  have ea3 := x3 A _ ea fun h => hr h.res
  cases b with
  | false => exact kk H3 xs [] x3.A s3.bag ea3 (by simpa using l.ext x3) (by simp) w3
  | true =>
    refine hw1 _ σ' H3 _ _ s3 w3 fun es J1 H4 w4 x4 s4 wk4 => ?_
    have ea4 := x4 A _ ea3 fun h => hr h.res
    have l4 := (l.ext x3).ext x4
    refine lc_gen (g := { withD g A with S := S' }) (B := lcB A (lT tt1) (lE te)) (fB := lcF tt1 te) s4 (.inr rfl) h0 hr (wk4.A2 (.inl (.inr rfl))) hv1 1 (lcB_ok (g := { withD g A with S := S' }) (.inr rfl) hr) ea4 l4 (by omega) w4.2
      fun H5 xs5 r x5 b5 ea5 l5 hr5 q5 => kk H5 xs5 r ((x3.trans x4).A.trans x5) b5 ea5 l5 (by omega) q5
theorem df_lc2 (hi : DI X tg iter ti) (hN : X.N.Nodup) (ok : BlkOk X.N X.env.scope scope own) (hvs1 : ∀ i ∈ vs1, i ∈ own.map (·.2)) (hg : BlkA X scope fun Y => PG Y tg (lG is tgd)) (ht : BlkA X scope fun Y => PTs Y ifs (lT tt)) (hi1 : ∃ wi1 : TI, (BlkA X scope fun Y => PI Y tg1 iter1 wi1) ∧ WalkOk ti1 wi1)
    (hg1 : BlkA X scope fun Y => PG Y tg1 (lG is1 tgd1)) (ht1 : BlkA X scope fun Y => PTs Y ifs1 (lT tt1)) (he : BlkA X scope fun Y => PE Y elt (lE te))
    (hv : ∀ j ∈ is, j ∈ own.map (·.2) := by decide) (hv1 : ∀ j ∈ is1, j ∈ vs1 := by decide) (hc : X.calm = true := by rfl) (hs : ∀ x, foldedSetIterable iter X.env x = pure x := by intro _; rfl) (hs1 : ∀ env x, foldedSetIterable iter1 env x = pure x := by intro _ _; rfl) :
    PE X (.ListComp elt [⟨tg, iter, ifs, 0⟩, ⟨tg1, iter1, ifs1, 0⟩] scope pos) (lF (dLc2 ti tgd tt ti1 tgd1 tt1 te (own.map (·.2)) vs1)) := by
  obtain ⟨wi, hpi, hw⟩ := hi
  obtain ⟨wi1, hpi1, hw1⟩ := hi1
  exact PE.imp (pe_lc2 hc hN hpi ok hvs1 hg ht hpi1 hg1 ht1 he hs hs1) fun σ H Q h => lc2_imp hw hw1 hv hv1 h
theorem ds_setLc2 {i : Nat} {y : Str} {py spos : Pos} (hi : DI X tg iter ti) (hN : X.N.Nodup) (hy : X.N[i]? = some y) (hyl : X.env.scope.names.lookup y = some .local) (hsw : swapsWith (.ListComp elt [⟨tg, iter, ifs, 0⟩, ⟨tg1, iter1, ifs1, 0⟩] scope pos) (some (.Name y py)) spos.line X.env = pure true) (ok : BlkOk X.N X.env.scope scope own) (hvs1 : ∀ i ∈ vs1, i ∈ own.map (·.2)) (hg : BlkA X scope fun Y => PG Y tg (lG is tgd)) (ht : BlkA X scope fun Y => PTs Y ifs (lT tt)) (hi1 : ∃ wi1 : TI, (BlkA X scope fun Y => PI Y tg1 iter1 wi1) ∧ WalkOk ti1 wi1)
    (hg1 : BlkA X scope fun Y => PG Y tg1 (lG is1 tgd1)) (ht1 : BlkA X scope fun Y => PTs Y ifs1 (lT tt1)) (he : BlkA X scope fun Y => PE Y elt (lE te))
    (hv : ∀ j ∈ is, j ∈ own.map (·.2) := by decide) (hv1 : ∀ j ∈ is1, j ∈ vs1 := by decide) (hc : X.calm = true := by rfl) (hs : ∀ x, foldedSetIterable iter X.env x = pure x := by intro _; rfl) (hs1 : ∀ env x, foldedSetIterable iter1 env x = pure x := by intro _ _; rfl) :
    PS X (.Assign [.Name y py] (.ListComp elt [⟨tg, iter, ifs, 0⟩, ⟨tg1, iter1, ifs1, 0⟩] scope pos) spos) (lS (dsSet i (dLc2 ti tgd tt ti1 tgd1 tt1 te (own.map (·.2)) vs1))) := by
  obtain ⟨wi, hpi, hw⟩ := hi
  obtain ⟨wi1, hpi1, hw1⟩ := hi1
  exact PS.imp (ps_setLc2 hc hN hy hyl hsw hpi ok hvs1 hg ht hpi1 hg1 ht1 he hs hs1) fun D σ H ⟨g, De, s, w, l⟩ => lc2_imp hw hw1 hv hv1 ⟨g, _, s, w, fun d a H1 w1 x1 s1 hn nm o => l.nx g.ow _ _ H1 (s1.setVal (o.keepE nm)) w1⟩
end
end L2.DL

namespace L2.DL
open PySem PySem.Spec PyProof.Rows
theorem u65 {k : Nat} {A : Around} (hr : Room k A) : A.units + 65 < cLine := by have := hr.un; omega
section
variable {X : Cx} {pos p : Pos} {a b c e o : Expr} {ta tb tc te to : TDE} {ts : TDA} {tg : Expr}
/-! ### comparisons as tests -/
def dTestB (t : TDE) : TDT := fun S Q => t S fun d => ∃ k, d = .bl k ∧ Q k
theorem dt_cmp1 {op : CmpOp} {r : R2} {R : RD2} (ho : OpR X (compareOp op) r) (hr : Real2 r R) (ha : PE X a (lP ta)) (hb : PE X b (lP tb)) (hm : behindInMarks op b = false := by first | exact nomark _ | rfl) : PT X (.Compare a [op] [b] pos) (lT (dTestB (d2 R ta tb))) :=
  PT.imp (pt_cmpR ho ha hb hm) fun σ H Q ⟨g, Qd, s, w, k⟩ => ⟨g, _, s, w, fun d v H1 w1 x1 s1 r1 => ⟨g, _, s1, w1, fun d2 v2 H2 w2 x2 s2 r2 =>
    hr g σ H2 v v2 d d2 _ _ s2 (r1.ext x2) r2 w2 fun d' v' H' q x s' r => by
      obtain ⟨kk, rfl, q⟩ := q
      cases r
      exact ⟨kk, rfl, k kk H' q ((x1.trans x2).trans x) s'⟩⟩⟩
theorem dt_eq (hu : X.A.units + 64 < cLine) (ha : PE X a (lP ta)) (hb : PE X b (lP tb)) : PT X (.Compare a [.Eq] [b] pos) (lT (dTestB (d2 rEqDD ta tb))) := dt_cmp1 (op_eqD hu) real_eq ha hb
theorem dt_ne (hu : X.A.units + 64 < cLine) (ha : PE X a (lP ta)) (hb : PE X b (lP tb)) : PT X (.Compare a [.NotEq] [b] pos) (lT (dTestB (d2 rNeDD ta tb))) := dt_cmp1 (op_neD hu) real_ne ha hb
theorem dt_lt (ha : PE X a (lP ta)) (hb : PE X b (lP tb)) : PT X (.Compare a [.Lt] [b] pos) (lT (dTestB (d2 rLt ta tb))) := dt_cmp1 op_ltA real_ord ha hb
theorem dt_le (ha : PE X a (lP ta)) (hb : PE X b (lP tb)) : PT X (.Compare a [.LtE] [b] pos) (lT (dTestB (d2 rLe ta tb))) := dt_cmp1 op_leA real_ord ha hb
theorem dt_gt (ha : PE X a (lP ta)) (hb : PE X b (lP tb)) : PT X (.Compare a [.Gt] [b] pos) (lT (dTestB (d2 rGt ta tb))) := dt_cmp1 op_gtA real_ord ha hb
theorem dt_ge (ha : PE X a (lP ta)) (hb : PE X b (lP tb)) : PT X (.Compare a [.GtE] [b] pos) (lT (dTestB (d2 rGe ta tb))) := dt_cmp1 op_geA real_ord ha hb
theorem dt_in (hu : X.A.units + 65 < cLine) (ha : PE X a (lP ta)) (hb : PE X b (lP tb)) (hm : behindInMarks .In b = false := by rfl) : PT X (.Compare a [.In] [b] pos) (lT (dTestB (d2 (rInDD id) ta tb))) := dt_cmp1 (op_inA hu) real_in ha hb hm
theorem dt_notIn (hu : X.A.units + 65 < cLine) (ha : PE X a (lP ta)) (hb : PE X b (lP tb)) (hm : behindInMarks .NotIn b = false := by rfl) : PT X (.Compare a [.NotIn] [b] pos) (lT (dTestB (d2 (rInDD not) ta tb))) := dt_cmp1 (op_notInA hu) real_in ha hb hm
theorem dt_isN {j pos'} (ha : PE X a (lP ta)) : PT X (.Compare a [.Is] [.Constant .none j pos'] pos) (lT (fun S Q => ta S fun d => knownD d = true ∧ Q (isNon d))) := PT.imp (pt_cmp (pc_isN ha)) fun σ H Q ⟨g, Qd, s, w, k⟩ =>
  ⟨g, _, s, w, fun d v H1 w1 x1 s1 r1 => ⟨isNon d, by rw [r1.nonIff w1.1], k _ H1 w1.2 x1 s1⟩⟩
theorem dt_notN {j pos'} (ha : PE X a (lP ta)) : PT X (.Compare a [.IsNot] [.Constant .none j pos'] pos) (lT (fun S Q => ta S fun d => knownD d = true ∧ Q (!isNon d))) := PT.imp (pt_cmp (pc_notN ha)) fun σ H Q ⟨g, Qd, s, w, k⟩ =>
  ⟨g, _, s, w, fun d v H1 w1 x1 s1 r1 => ⟨!isNon d, by rw [r1.nonIff w1.1], k _ H1 w1.2 x1 s1⟩⟩
theorem dt_chain {op op' : CmpOp} {r r' : R2} {R R' : RD2} (ho : OpR X (compareOp op) r) (ho' : OpR X (compareOp op') r') (hr : Real2 r R) (hr' : Real2 r' R') (ha : PE X a (lP ta)) (hb : PE X b (lP tb)) (hc : PE X c (lP tc))
    (hm : lastMarks [op, op'] [b, c] = false := by with_unfolding_all rfl) : PT X (.Compare a [op, op'] [b, c] pos) (lT (dTestB (d3 R R' ta tb tc))) := PT.imp (pt_chain ho ho' ha hb hc hm) fun σ H Q ⟨g, Qd, s, w, k⟩ =>
  ⟨g, _, s, w, fun d v H1 w1 x1 s1 r1 => ⟨g, _, s1, w1, fun d2 v2 H2 w2 x2 s2 r2 =>
    hr g σ H2 v v2 d d2 _ _ s2 (r1.ext x2) r2 w2 fun d' v' H3 q x3 s3 r3 => by
      obtain ⟨kk, e, q⟩ := q
      subst e
      cases r3
      refine ⟨kk, rfl, ?_⟩
      cases kk with
      | false =>
        obtain ⟨k', e', q⟩ := q
        cases e'
        exact ⟨false, rfl, k false H3 q ((x1.trans x2).trans x3) s3⟩
      | true =>
        exact ⟨g, _, s3, q, fun d4 v4 H4 w4 x4 s4 r4 => hr' g σ H4 v2 v4 d2 d4 _ _ s4 ((r2.ext x3).ext x4) r4 w4 fun d' v' H' q x s' r => by
          obtain ⟨k2, rfl, q⟩ := q
          cases r
          exact ⟨k2, rfl, k k2 H' q ((((x1.trans x2).trans x3).trans x4).trans x) s'⟩⟩⟩⟩
theorem dt_lele (ha : PE X a (lP ta)) (hb : PE X b (lP tb)) (hc : PE X c (lP tc)) (hm : lastMarks [.LtE, .LtE] [b, c] = false := by with_unfolding_all rfl) : PT X (.Compare a [.LtE, .LtE] [b, c] pos) (lT (dTestB (d3 rLe rLe ta tb tc))) := dt_chain op_leA op_leA real_ord real_ord ha hb hc hm
theorem dt_lelt (ha : PE X a (lP ta)) (hb : PE X b (lP tb)) (hc : PE X c (lP tc)) (hm : lastMarks [.LtE, .Lt] [b, c] = false := by with_unfolding_all rfl) : PT X (.Compare a [.LtE, .Lt] [b, c] pos) (lT (dTestB (d3 rLe rLt ta tb tc))) := dt_chain op_leA op_ltA real_ord real_ord ha hb hc hm
/-! ### -x -/
def rNegD : D → (D → Prop) → Prop
  | .int i, Q => Q (.int (-i))
  | _, _ => False
theorem de_neg (ha : PE X a (lP ta)) : PE X (.UnaryOp .USub a pos) (lE (d1 rNegD ta)) := PE.imp (pe_un un_neg ha) fun σ H Q ⟨g, Qd, s, w, k⟩ =>
  ⟨g, _, s, w, fun d v H1 w1 x1 s1 r1 => by
    cases d <;> try exact w1.elim
    cases r1.int
    exact ⟨_, rfl, k _ _ H1 w1 x1 s1 (.int _)⟩⟩
/-! ### sources of a second for -/
theorem walk_seq {K : PySem.W.Frag} : WalkOk (diSeq te) (iAny K (lE te)) := fun g σ H Qd R s w k => ⟨g, _, s, w, fun d v H1 w1 x1 s1 r1 => by
  obtain ⟨ds, e1, q⟩ := w1
  cases r1 <;> simp [itemsD] at e1
  · rename_i z
    subst e1
    exact .inr (.inr ⟨_, rfl, k _ _ H1 q x1 s1 (Wk.str z)⟩)
  · rename_i h n l
    subst e1
    exact .inl ⟨_, _, rfl, h, k _ _ H1 q x1 s1 (Wk.list h n l)⟩
  · rename_i h n l
    subst e1
    exact .inr (.inl ⟨_, _, rfl, h, k _ _ H1 q x1 s1 (Wk.tup h n l)⟩)⟩
theorem di1_seq {scope : Scope} (he : BlkA X scope fun Y => PE Y e (lE te)) : ∃ wi1 : TI, (BlkA X scope fun Y => PI Y tg e wi1) ∧ WalkOk (diSeq te) wi1 := ⟨_, fun s H C cl fp => pi_any (he s H C cl fp), walk_seq⟩
theorem di1_range1 {scope : Scope} (hm : X.mg "range" = none) (ha : BlkA X scope fun Y => PA Y [e] (lAP ts)) (hg : BlkA X scope fun Y => Gl Y "range" := by intros; rfl) (hs : BlkA X scope fun Y => starEach [e] Y.env = [(false, eval e Y.env)] := by intros; rfl) : ∃ wi1 : TI, (BlkA X scope fun Y => PI Y tg (.Call (.Name "range" p) [e] [] pos) wi1) ∧ WalkOk (diRng1 ts) wi1 :=
  ⟨_, fun s H C cl fp => pi_range1 (hg s H C cl fp) hm (ha s H C cl fp) (hs s H C cl fp), fun g σ H Qd R s w k => ⟨g, _, s, w, fun ds vs H1 w1 x1 s1 r1 => by
    obtain ⟨n, rfl, h1, h2, q⟩ := w1
    obtain ⟨v, rfl, h⟩ := r1.one
    cases h.int
    exact ⟨n, rfl, h2, h1, k _ _ H1 q x1 s1 (Wk.range 0 _)⟩⟩⟩
/-! ### join -/
def joinL (sep : List Nat) : List (List Nat) → List Nat
  | [] => []
  | [x] => x
  | x :: y :: r => x ++ sep ++ joinL sep (y :: r)
def strsD : List D → Option (List (List Nat))
  | [] => some []
  | .str s :: r => (strsD r).map (s :: ·)
  | _ :: _ => none
theorem strsD_eq : ∀ {ds : List D} {ss : List (List Nat)}, strsD ds = some ss → ds = ss.map D.str
  | [], ss, h => by simp [strsD] at h; subst h; rfl
  | .str b :: r, ss, h => by
    simp [strsD] at h
    obtain ⟨c, h1, h2⟩ := h
    subst h2
    rw [strsD_eq h1]; rfl
theorem strsD_map (ss : List (List Nat)) : strsD (ss.map D.str) = some ss := by
  induction ss with
  | nil => rfl
  | cons b r ih => simp [strsD, ih]
theorem glue_foldl (sep : Array Nat) : ∀ (l : List Str) (a : Array Nat), (l.foldl (fun acc q => acc ++ sep ++ q.cps) a).toList = a.toList ++ (l.map fun q => sep.toList ++ q.cps.toList).flatten
  | [], a => by simp
  | x :: r, a => by
    rw [List.foldl_cons, glue_foldl sep r]
    simp
theorem joinL_cons (sep x : List Nat) : ∀ r : List (List Nat), joinL sep (x :: r) = x ++ (r.map fun q => sep ++ q).flatten
  | [] => by simp [joinL]
  | y :: r => by
    rw [joinL, joinL_cons sep y r]
    simp
theorem txt_join (sep : List Nat) (ys : List (List Nat)) : Txt.join (S2 sep) (ys.map S2) = S2 (joinL sep ys) := by
  cases ys with
  | nil => rfl
  | cons x r =>
    have e : (Txt.join (S2 sep) ((x :: r).map S2)).cps.toList = joinL sep (x :: r) := by
      show ((r.map S2).foldl (fun acc q => acc ++ sep.toArray ++ q.cps) x.toArray).toList = _
      rw [glue_foldl, joinL_cons]
      simp [List.map_map, Function.comp_def]
    rw [← e]
def rJoinD (a : List Nat) : D → (D → Prop) → Prop
  | .lst xs, Q => ∃ ys, strsD xs = some ys ∧ (ys.map (·.length)).sum + ys.length * a.length ≤ 16777216 ∧ Q (.str (joinL a ys))
  | .tup xs, Q => ∃ ys, strsD xs = some ys ∧ (ys.map (·.length)).sum + ys.length * a.length ≤ 16777216 ∧ Q (.str (joinL a ys))
  | _, _ => False
def dJoin (to te : TDE) : TDE := fun S Q => to S fun x => ∃ a, x = .str a ∧ te S fun y => rJoinD a y Q
theorem len_S2 (ys : List (List Nat)) : (ys.map S2).map (·.length) = ys.map (·.length) := by
  rw [List.map_map]
  apply List.map_congr_left
  intro x _
  exact S2_length x
theorem de_join {apos : Pos} (ho : PE X o (lP to)) (he : PE X e (lP te)) (hs : starEach [e] X.env = [(false, eval e X.env)] := by rfl) (hbase : attributeBase o "join" X.env (eval o X.env) = eval o X.env := by rfl) (hline : (apos.endLine == pos.line) = true := by rfl) :
    PE X (.Call (.Attribute o "join" apos) [e] [] pos) (lE (dJoin to te)) := PE.imp (pe_join ho he hs hbase hline) fun σ H Q ⟨g, Qd, s, w, k⟩ =>
  ⟨g, _, s, w, fun d v H1 w1 x1 s1 r1 => by
    obtain ⟨a, rfl, w1⟩ := w1
    cases r1.str
    refine ⟨⟨_, rfl⟩, g, _, s1, w1, fun d2 v2 H2 w2 x2 s2 r2 => ?_⟩
    cases d2 <;> try exact w2.elim
    · obtain ⟨q, xs, rfl, h1, l1⟩ := r2.lst
      obtain ⟨ys, e1, hz, q2⟩ := w2
      rw [strsD_eq e1] at l1
      rw [l1.strs] at h1
      refine ⟨_, _, ys.map S2, rfl, rfl, .inl (.of h1), by rw [len_S2, S2_length, List.length_map]; exact hz, ?_⟩
      rw [txt_join]
      exact k _ _ H2 q2 (x1.trans x2) s2 (.str _)
    · obtain ⟨q, xs, rfl, h1, l1⟩ := r2.tup
      obtain ⟨ys, e1, hz, q2⟩ := w2
      rw [strsD_eq e1] at l1
      rw [l1.strs] at h1
      refine ⟨_, _, ys.map S2, rfl, rfl, .inr (.of h1), by rw [len_S2, S2_length, List.length_map]; exact hz, ?_⟩
      rw [txt_join]
      exact k _ _ H2 q2 (x1.trans x2) s2 (.str _)⟩
end
end L2.DL


set_option Elab.async false
set_option linter.all false
set_option maxRecDepth 100000
set_option maxHeartbeats 4000000
namespace L2.DL
open PySem PySem.Spec PyProof.Rows
/-! ### several names at once, each kept or owned -/
/-- with more addresses that are apart -/
def apD (g : Gh) (as : List Addr) : Gh := { g with M0 := fun b => g.M0 b ∨ b ∈ as }
theorem apD_M {g : Gh} {as : List Addr} {b : Addr} : (apD g as).M b ↔ g.M b ∨ b ∈ as := by
  constructor
  · rintro ((h | h) | h | h)
    · exact .inl (.inl h)
    · exact .inr h
    · exact .inl (.inr (.inl h))
    · exact .inl (.inr (.inr h))
  · rintro ((h | h | h) | h)
    · exact .inl (.inl h)
    · exact .inr (.inl h)
    · exact .inr (.inr h)
    · exact .inl (.inr h)
theorem Stt.apart {g : Gh} {σ : St} {H H' : Hp} {as : List Addr} (s : Stt g σ H) (x : Ext g.z H H') (b : BagOk g.z H') (hn : ∀ a ∈ as, H a = none) (ha : ∀ a ∈ as, Nt H' a) : Stt (apD g as) σ H' := by
  have tr : Tr g.M H (apD g as).M H' := Tr.of fun c u n e => ⟨x c u e fun h => n (res_M h.res), fun h => (apD_M.mp h).elim n fun h => by rw [hn c h] at e; cases e⟩
  have s' := s.ext x b
  refine ⟨s.len, fun i d e => ?_, fun i d e => ?_, s.inj, fun i c e => ⟨(s.new i c e).1, fun h => ?_, (s.new i c e).2.2⟩, fun c h => ?_, s'.keep, b, s.ex.more (fun _ h => .inl h) fun b h => h.elim .inl fun h => .inr (s.x0 (hn b h))⟩
  · obtain ⟨v, e1, r⟩ := s.val i d e
    exact ⟨v, e1, r.tr tr⟩
  · obtain ⟨v, e1, e2, r⟩ := s.own i d e
    exact ⟨v, e1, e2, r.tr tr fun u q => x v u q fun h => (s.new i v e2).2.2 h.res⟩
  · rcases h with h | h
    · exact (s.new i c e).2.1 h
    · exact (s.alive c (.inr (.inr ⟨i, e⟩))).ne (hn c h)
  · rcases apD_M.mp h with h | h
    · exact s'.alive c h
    · exact ha c h
theorem apD_nil (g : Gh) : apD g [] = g := by
  unfold apD
  have : (fun b => g.M0 b ∨ b ∈ ([] : List Addr)) = g.M0 := by
    funext b
    simp
  rw [this]
theorem apD_cons (g : Gh) (a : Addr) (as : List Addr) : apD (apD g [a]) as = apD g (a :: as) := by
  unfold apD
  congr 1
  funext b
  simp [or_assoc]
/-- a kept value, a new thing -/
inductive KdL (z : Bz) (M : MS) (H : Hp) : List V → List (Bool × D) → Prop
  | nil : KdL z M H [] []
  | kept {v : V} {vs : List V} {d : D} {ks : List (Bool × D)} : Rp z M H v d → KdL z M H vs ks → KdL z M H (v :: vs) ((false, d) :: ks)
  | new {a : Addr} {vs : List V} {d : D} {ks : List (Bool × D)} : Ow z M H a d → KdL z M H vs ks → KdL z M H (.ref a :: vs) ((true, d) :: ks)
def newA : List V → List (Bool × D) → List Addr
  | .ref a :: vs, (true, _) :: ks => a :: newA vs ks
  | _ :: vs, (false, _) :: ks => newA vs ks
  | _, _ => []
theorem newA_kept (v : V) (vs : List V) (d : D) (ks : List (Bool × D)) : newA (v :: vs) ((false, d) :: ks) = newA vs ks := by cases v <;> rfl
theorem KdL.tr {z : Bz} {M M' : MS} {H H' : Hp} (t : Tr M H M' H') : ∀ {vs : List V} {ks : List (Bool × D)}, KdL z M H vs ks → (∀ a ∈ newA vs ks, ∀ o, H a = some o → H' a = some o) → KdL z M' H' vs ks
  | _, _, .nil, _ => .nil
  | _, _, .kept r l, h => .kept (r.tr t) (l.tr t (by rw [newA_kept] at h; exact h))
  | _, _, .new o l, h => .new (o.tr t (h _ (by simp [newA]))) (l.tr t fun a ha => h a (by simp [newA, ha]))
abbrev TDK := SS → (List (Bool × D) → Prop) → Prop
def lK (t : TDK) : TA := fun σ H Q => ∃ (g : Gh) (Qd : List (Bool × D) → Prop), Stt g σ H ∧ t g.S Qd ∧ ∀ ks vs H', Qd ks → Ext g.z H H' → Stt (apD g (newA vs ks)) σ H' → (newA vs ks).Nodup → (∀ a ∈ newA vs ks, H a = none) → KdL g.z (apD g (newA vs ks)).M H' vs ks → Q vs H'
def dkNil : TDK := fun _ Q => Q []
def dkE (te : TDE) (t : TDK) : TDK := fun S Q => te S fun d => t S fun ks => Q ((false, d) :: ks)
def dkF (te : TDE) (t : TDK) : TDK := fun S Q => te S fun d => t S fun ks => Q ((true, d) :: ks)
section
variable {X : Cx} {e : Expr} {es : List Expr} {te : TDE} {ts : TDK} {pos : Pos}
theorem dk_nil : PA X [] (lK dkNil) := PA.imp pa_nil fun σ H Q ⟨g, Qd, s, w, k⟩ => k [] [] H w .refl (by rw [show newA [] [] = [] from rfl, apD_nil]; exact s) List.nodup_nil (fun _ h => nomatch h) .nil
theorem dk_E (he : PE X e (lE te)) (hr : PA X es (lK ts)) (hs : starEach (e :: es) X.env = (false, eval e X.env) :: starEach es X.env := by rfl) : PA X (e :: es) (lK (dkE te ts)) := PA.imp (pa_cons he hr hs) fun σ H Q ⟨g, Qd, s, w, k⟩ =>
  ⟨g, _, s, w, fun d v H1 w1 x1 s1 r1 => ⟨g, _, s1, w1, fun ks vs H2 w2 x2 s2 nd hn l => by
    refine k ((false, d) :: ks) (v :: vs) H2 w2 (x1.trans x2) (by rw [newA_kept]; exact s2) (by rw [newA_kept]; exact nd) (by rw [newA_kept]; exact fun a ha => x1.none_of (hn a ha) fun h => s1.fresh (hn a ha) (res_M h.res)) ?_
    rw [newA_kept]
    refine .kept (r1.tr (Tr.of fun b o n e => ⟨x2 b o e fun h => n (res_M h.res), fun h => (apD_M.mp h).elim n fun h => by rw [hn b h] at e; cases e⟩)) l⟩⟩
theorem dk_F (he : PE X e (lF te)) (hr : PA X es (lK ts)) (hs : starEach (e :: es) X.env = (false, eval e X.env) :: starEach es X.env := by rfl) : PA X (e :: es) (lK (dkF te ts)) := PA.imp (pa_cons he hr hs) fun σ H Q ⟨g, Qd, s, w, k⟩ =>
  ⟨g, _, s, w, fun d p H1 w1 x1 s1 hp nm o => by
    have sp : Stt (apD g [p]) σ H1 := s.apart x1 s1.bag (fun a ha => by rw [List.mem_singleton.mp ha]; exact hp) (fun a ha => by rw [List.mem_singleton.mp ha]; exact Ow.alive o)
    refine ⟨apD g [p], _, sp, w1, fun ks vs H2 w2 x2 s2 nd hn l => ?_⟩
    have hpn : p ∉ newA vs ks := fun h => (Ow.alive o).ne (hn p h)
    rw [apD_cons] at s2 l
    have nb : ¬ isB g.z p := fun h => nm (res_M h.res)
    refine k ((true, d) :: ks) (.ref p :: vs) H2 w2 (x1.trans x2) s2 (List.nodup_cons.mpr ⟨hpn, nd⟩) (fun a ha => ?_) (.new (Ow.tr o (Tr.of fun b u n e => ⟨?_, fun h => ?_⟩) fun u q => x2 p u q nb) l)
    · rcases List.mem_cons.mp ha with rfl | ha
      · exact hp
      · exact x1.none_of (hn a ha) fun h => sp.fresh (hn a ha) (res_M (g := apD g [p]) h.res)
    · exact x2 b u e fun h => n (.inl (res_M h.res))
    · rcases apD_M.mp h with h | h
      · exact n (.inl h)
      · rcases List.mem_cons.mp h with h | h
        · exact n (.inr h)
        · rw [hn b h] at e; cases e⟩
end
/-- a name takes a new thing that was apart -/
theorem Stt.claim {g : Gh} {σ : St} {H : Hp} {a : Addr} {as : List Addr} {i : Nat} {d : D} (s : Stt (apD g (a :: as)) σ H) (na : a ∉ as) (nm : ¬ g.M a) (h0 : g.H0 a = none) (o : Ow g.z (apD g (a :: as)).M H a d) :
    Stt (apD { g with ow := setOw g.ow i (some a), S := g.S.set i (.own d) } as) (σ.set i (some (.ref a))) H := by
  have sub : ∀ b, (apD { g with ow := setOw g.ow i (some a), S := g.S.set i (.own d) } as).M b → (apD g (a :: as)).M b := fun b h => by
    rcases apD_M.mp h with h | h
    · rcases mo_set h with h | h
      · exact apD_M.mpr (.inl h)
      · exact apD_M.mpr (.inr (by simp [h]))
    · exact apD_M.mpr (.inr (by simp [h]))
  have tr : Tr (apD g (a :: as)).M H (apD { g with ow := setOw g.ow i (some a), S := g.S.set i (.own d) } as).M H := Tr.of fun b u n e => ⟨e, fun h => n (sub b h)⟩
  have nown : ∀ j, g.ow j = some a → False := fun j e => nm (.inr (.inr ⟨j, e⟩))
  refine ⟨by show (g.S.set i _).length = _; have := s.len; simpa [apD] using this, fun j d' e => ?_, fun j d' e => ?_, fun j k c e1 e2 => ?_, fun j c e => ?_, fun c h => s.alive c (sub c h), s.keep, s.bag, s.ex.e0, fun b q => ?_, s.ex.ea, (s.ex.own (ow := setOw g.ow i (some a)) (i := i) (d := d)).el, (s.ex.own (ow := setOw g.ow i (some a)) (i := i) (d := d)).ez, fun b h => s.ex.en b (h.imp id fun h => List.mem_cons_of_mem _ h)⟩
  · have e' : (g.S.set i (.own d))[j]? = some (.val d') := e
    rw [List.getElem?_set] at e'
    by_cases hij : i = j
    · subst hij
      rw [if_pos rfl] at e'
      split at e' <;> cases e'
    · rw [if_neg hij] at e'
      obtain ⟨u, e1, r1⟩ := s.val j d' e'
      exact ⟨u, by rw [List.getElem?_set_ne hij]; exact e1, r1.tr tr⟩
  · have e' : (g.S.set i (.own d))[j]? = some (.own d') := e
    rw [List.getElem?_set] at e'
    by_cases hij : i = j
    · subst hij
      rw [if_pos rfl] at e'
      split at e'
      · rename_i hlt
        cases e'
        have hl : g.S.length = σ.length := s.len
        exact ⟨a, by rw [List.getElem?_set_self (by rw [← hl]; exact hlt)], by show setOw g.ow i (some a) i = some a; unfold setOw; rw [if_pos rfl], Ow.tr o tr fun u q => q⟩
      · cases e'
    · rw [if_neg hij] at e'
      obtain ⟨u, e1, e2, r1⟩ := s.own j d' e'
      refine ⟨u, by rw [List.getElem?_set_ne hij]; exact e1, ?_, r1.tr tr fun w q => q⟩
      show setOw g.ow i (some a) j = some u
      unfold setOw; rw [if_neg (Ne.symm hij)]; exact e2
  · have e1' : setOw g.ow i (some a) j = some c := e1
    have e2' : setOw g.ow i (some a) k = some c := e2
    unfold setOw at e1' e2'
    split at e1' <;> split at e2'
    · omega
    · cases e1'; exact (nown k e2').elim
    · cases e2'; exact (nown j e1').elim
    · exact s.inj j k c e1' e2'
  · have e' : setOw g.ow i (some a) j = some c := e
    unfold setOw at e'
    split at e'
    · cases e'
      exact ⟨h0, fun h => h.elim (fun h => nm (.inl h)) na, fun h => nm (res_M h)⟩
    · obtain ⟨q1, q2, q3⟩ := s.new j c e'
      exact ⟨q1, fun h => q2 (h.imp id fun h => List.mem_cons_of_mem _ h), q3⟩
  · rcases s.ex.em b q with hm | hm
    · exact .inl hm
    · rcases List.mem_cons.mp hm with e | hm
      · subst e
        exfalso
        have h2 : g.X0 b ≠ none := s.ex.ea b q
        cases e0 : g.X0 b with
        | none => exact h2 e0
        | some o =>
          have h1 : g.H0 b = some o := s.ex.e0 b o e0 fun hb => nm (res_M hb.res)
          rw [h0] at h1
          cases h1
      · exact .inr hm
def setV : St → List Nat → List V → St
  | σ, i :: is, v :: vs => setV (σ.set i (some v)) is vs
  | σ, _, _ => σ
def setK : SS → List Nat → List (Bool × D) → SS
  | S, i :: is, (false, d) :: ks => setK (S.set i (.val d)) is ks
  | S, i :: is, (true, d) :: ks => setK (S.set i (.own d)) is ks
  | S, _, _ => S
theorem stt_setK : ∀ (is : List Nat) {g : Gh} {σ : St} {H : Hp} {vs : List V} {ks : List (Bool × D)} {as : List Addr}, as = newA vs ks → Stt (apD g as) σ H → as.Nodup → (∀ a ∈ as, ¬ g.M a ∧ g.H0 a = none) → KdL g.z (apD g as).M H vs ks → ks.length = is.length →
    ∃ ow, Stt { g with ow := ow, S := setK g.S is ks } (setV σ is vs) H := by
  intro is
  induction is with
  | nil =>
    intro g σ H vs ks as ea s nd hn l hl
    cases l with
    | nil =>
      have ea' : as = [] := ea
      rw [ea', apD_nil] at s
      exact ⟨g.ow, s⟩
    | kept _ _ => cases hl
    | new _ _ => cases hl
  | cons i is ih =>
    intro g σ H vs ks as ea s nd hn l hl
    cases l with
    | nil => cases hl
    | @kept v vs d ks r l =>
      rw [newA_kept] at ea
      have s2 : Stt (apD { g with S := g.S.set i (.val d) } as) (σ.set i (some v)) H := s.setVal (g := apD g as) r
      obtain ⟨ow, s3⟩ := ih (g := { g with S := g.S.set i (.val d) }) ea s2 nd hn l (by simpa using hl)
      exact ⟨ow, s3⟩
    | @new a vs d ks o l =>
      have ea' : as = a :: newA vs ks := ea
      subst ea'
      obtain ⟨n1, n2⟩ := List.nodup_cons.mp nd
      have s2 := s.claim (i := i) n1 (hn a (by simp)).1 (hn a (by simp)).2 o
      have sub : ∀ b, (apD { g with ow := setOw g.ow i (some a), S := g.S.set i (.own d) } (newA vs ks)).M b → (apD g (a :: newA vs ks)).M b := fun b h => by
        rcases apD_M.mp h with h | h
        · rcases mo_set h with h | h
          · exact apD_M.mpr (.inl h)
          · exact apD_M.mpr (.inr (by simp [h]))
        · exact apD_M.mpr (.inr (by simp [h]))
      obtain ⟨ow, s3⟩ := ih (g := { g with ow := setOw g.ow i (some a), S := g.S.set i (.own d) }) rfl s2 n2 (fun b hb => ⟨fun h => by
        rcases mo_set h with h | h
        · exact (hn b (by simp [hb])).1 h
        · subst h; exact n1 hb, (hn b (by simp [hb])).2⟩) (l.tr (Tr.of fun b u n e => ⟨e, fun h => n (sub b h)⟩) fun _ _ _ q => q) (by simpa using hl)
      exact ⟨ow, s3⟩
/-- names = display -/
def dsMul (is : List Nat) (ts : TDK) : TDS := fun De S => ts S fun ks => ks.length = is.length ∧ De.nx (setK S is ks)
theorem KdL.length {z : Bz} {M : MS} {H : Hp} : ∀ {vs : List V} {ks : List (Bool × D)}, KdL z M H vs ks → vs.length = ks.length
  | _, _, .nil => rfl
  | _, _, .kept _ l => by simp [l.length]
  | _, _, .new _ l => by simp [l.length]
theorem mul_imp {is : List Nat} {ts : TDK} {D : Ends} {σ : St} {H : Hp} (h : lS (dsMul is ts) D σ H) : lK ts σ H fun vs H1 => vs.length = is.length ∧ D.nx (setV σ is vs) H1 := by
  obtain ⟨g, De, s, w, l⟩ := h
  refine ⟨g, _, s, w, fun ks vs H' q x s' nd hn kl => ⟨by rw [kl.length]; exact q.1, ?_⟩⟩
  obtain ⟨ow, s3⟩ := stt_setK is rfl s' nd (fun a ha => ⟨s.fresh (hn a ha), s.keep.none_of (hn a ha) fun h => s.fresh (hn a ha) (res_M h.res)⟩) kl q.1
  exact l.nx ow _ _ H' s3 q.2
section
variable {X : Cx} {pos : Pos} {x y z : Str} {i j k : Nat} {a b c : Expr} {ts : TDK}
theorem ds_mul2 {px py pt : Pos} {kt k2 pt2} (hN : X.N.Nodup) (hi : X.N[i]? = some x) (hj : X.N[j]? = some y) (hij : i ≠ j) (hx : X.env.scope.names.lookup x = some .local) (hy : X.env.scope.names.lookup y = some .local) (ha : PA X [a, b] (lK ts))
    (hw : swappedStores [.Tuple [.Name x px, .Name y py] kt pt] (.Tuple [a, b] k2 pt2) X.env = pure (some [x, y]) := by rfl) (hc : X.calm = true := by rfl)
    (hs : swapsWithSole [.Tuple [.Name x px, .Name y py] kt pt] (.Tuple [a, b] k2 pt2) pos.line X.env = pure false := by rfl) :
    PS X (.Assign [.Tuple [.Name x px, .Name y py] kt pt] (.Tuple [a, b] k2 pt2) pos) (lS (dsMul [i, j] ts)) := PS.imp (ps_par hc hN hi hj hij hx hy ha hw hs) fun D σ H h => by
  obtain ⟨g, Qd, s, w, kk⟩ := mul_imp h
  refine ⟨g, Qd, s, w, fun ks vs H' q x s' nd hn kl => ?_⟩
  obtain ⟨hl, q⟩ := kk ks vs H' q x s' nd hn kl
  match vs, hl, q with
  | [v, v'], _, q => exact ⟨v, v', rfl, q⟩
theorem ds_mul3 {px py pz pt : Pos} {kt k2 pt2} (hN : X.N.Nodup) (hi : X.N[i]? = some x) (hj : X.N[j]? = some y) (hk : X.N[k]? = some z) (hij : i ≠ j) (hik : i ≠ k) (hjk : j ≠ k) (hx : X.env.scope.names.lookup x = some .local) (hy : X.env.scope.names.lookup y = some .local) (hz : X.env.scope.names.lookup z = some .local) (ha : PA X [a, b, c] (lK ts))
    (hw : swappedStores [.Tuple [.Name x px, .Name y py, .Name z pz] kt pt] (.Tuple [a, b, c] k2 pt2) X.env = pure (some [x, y, z]) := by rfl) (hc : X.calm = true := by rfl)
    (hs : swapsWithSole [.Tuple [.Name x px, .Name y py, .Name z pz] kt pt] (.Tuple [a, b, c] k2 pt2) pos.line X.env = pure false := by rfl) :
    PS X (.Assign [.Tuple [.Name x px, .Name y py, .Name z pz] kt pt] (.Tuple [a, b, c] k2 pt2) pos) (lS (dsMul [i, j, k] ts)) := PS.imp (ps_par3 hc hN hi hj hk hij hik hjk hx hy hz ha hw hs) fun D σ H h => by
  obtain ⟨g, Qd, s, w, kk⟩ := mul_imp h
  refine ⟨g, Qd, s, w, fun ks vs H' q x s' nd hn kl => ?_⟩
  obtain ⟨hl, q⟩ := kk ks vs H' q x s' nd hn kl
  match vs, hl, q with
  | [v, v', v''], _, q => exact ⟨v, v', v'', rfl, q⟩
end
end L2.DL

/-! ### set(xs) of ints and texts -/
namespace L2.DL
open PySem PySem.Spec PyProof.Rows
def hasK {κ : Type} [DecidableEq κ] (l : List κ) (k : κ) : Bool := l.any fun x => decide (x = k)
theorem hasK_iff {κ : Type} [DecidableEq κ] {l : List κ} {k : κ} : hasK l k = true ↔ k ∈ l := by
  unfold hasK
  rw [List.any_eq_true]
  constructor
  · rintro ⟨x, h, e⟩
    rw [← of_decide_eq_true e]; exact h
  · intro h
    exact ⟨k, h, decide_eq_true rfl⟩
theorem hasK_not {κ : Type} [DecidableEq κ] {l : List κ} {k : κ} : ¬ hasK l k = true ↔ k ∉ l := not_congr hasK_iff
def dedup {κ : Type} [DecidableEq κ] : List κ → List κ → List κ
  | acc, [] => acc
  | acc, x :: r => if hasK acc x = true then dedup acc r else dedup (acc ++ [x]) r
theorem dedup_le {κ : Type} [DecidableEq κ] : ∀ (l acc : List κ), (dedup acc l).length ≤ acc.length + l.length
  | [], acc => by simp [dedup]
  | x :: r, acc => by
    unfold dedup
    split
    · have := dedup_le r acc; simp; omega
    · have := dedup_le r (acc ++ [x]); simp at this; simp; omega
theorem mem_dedup {κ : Type} [DecidableEq κ] {k : κ} : ∀ (l acc : List κ), k ∈ dedup acc l ↔ k ∈ acc ∨ k ∈ l
  | [], acc => by simp [dedup]
  | x :: r, acc => by
    unfold dedup
    split
    · rename_i h
      have h := hasK_iff.mp h
      rw [mem_dedup r acc]
      constructor
      · rintro (h1 | h1)
        · exact .inl h1
        · exact .inr (List.mem_cons_of_mem _ h1)
      · rintro (h1 | h1)
        · exact .inl h1
        · rcases List.mem_cons.mp h1 with rfl | h1
          · exact .inl h
          · exact .inr h1
    · rw [mem_dedup r (acc ++ [x]), List.mem_append, List.mem_singleton, List.mem_cons]
      constructor
      · rintro ((h1 | h1) | h1)
        · exact .inl h1
        · exact .inr (.inl h1)
        · exact .inr (.inr h1)
      · rintro (h1 | h1 | h1)
        · exact .inl (.inl h1)
        · exact .inl (.inr h1)
        · exact .inr h1
theorem nodup_dedup {κ : Type} [DecidableEq κ] : ∀ (l acc : List κ), acc.Nodup → (dedup acc l).Nodup
  | [], acc, h => h
  | x :: r, acc, h => by
    unfold dedup
    split
    · exact nodup_dedup r acc h
    · rename_i hx
      have hx := hasK_not.mp hx
      refine nodup_dedup r _ (List.nodup_append.mpr ⟨h, by simp, fun a ha b hb e => ?_⟩)
      rw [List.mem_singleton.mp hb] at e
      subst e
      exact hx ha
theorem dedup_nodup {κ : Type} [DecidableEq κ] : ∀ (l acc : List κ), l.Nodup → (∀ x ∈ l, x ∉ acc) → dedup acc l = acc ++ l
  | [], acc, _, _ => by simp [dedup]
  | x :: r, acc, h, d => by
    unfold dedup
    rw [if_neg (hasK_not.mpr (d x (by simp)))]
    obtain ⟨h1, h2⟩ := List.nodup_cons.mp h
    rw [dedup_nodup r _ h2 fun y hy => by
      rw [List.mem_append, List.mem_singleton, not_or]
      exact ⟨d y (by simp [hy]), fun e => h1 (e ▸ hy)⟩]
    simp
theorem dedup_snoc {κ : Type} [DecidableEq κ] (x : κ) : ∀ (l acc : List κ), dedup acc (l ++ [x]) = if hasK (dedup acc l) x = true then dedup acc l else dedup acc l ++ [x]
  | [], acc => by
    rw [List.nil_append]; rfl
  | y :: r, acc => by
    rw [List.cons_append]
    unfold dedup
    split
    · exact dedup_snoc x r acc
    · exact dedup_snoc x r (acc ++ [y])
theorem has_snoc {κ : Type} [DecidableEq κ] (l : List κ) (x k : κ) : hasK (dedup [] (l ++ [x])) k = (hasK (dedup [] l) k || decide (k = x)) := by
  apply Bool.eq_iff_iff.mpr
  rw [hasK_iff, Bool.or_eq_true, hasK_iff, mem_dedup, mem_dedup, List.mem_append, List.mem_singleton, decide_eq_true_iff]
  simp
theorem len_snoc {κ : Type} [DecidableEq κ] (l : List κ) (x : κ) : (dedup [] (l ++ [x])).length = if hasK (dedup [] l) x = true then (dedup [] l).length else (dedup [] l).length + 1 := by
  rw [dedup_snoc]
  split <;> simp
section
variable {prog : Program} {w : World} {A : Around} {R : Result → Shared → Prop} {I : Addr} {fp wr : List Addr} {G : Array GenState → Array GenState → Prop} {n : Nat} {P : Nat → Value → Prop} {St : Nat → Shared → Prop}
abbrev ksOf (prog : Program) (w : World) (h : Heap) (S : Addr) (ks : List Key) : Prop := h.SetOf (mixKind prog w) S (hasK (dedup [] ks)) (dedup [] ks).length
theorem set_loop (W : WalksS prog w A.in1 I fp wr G n P St) (S : Addr) (nS : S ∉ fp) (ks : List Key) (hn : ks.length = n) (is : ∀ i v, P i v → ∃ k, ks[i]? = some k ∧ (mixKind prog w).is k v = true) (room : n + 1 < scanBound) :
    ∀ (m i : Nat) (s : Shared), n - i = m → i ≤ n → St i s → ksOf prog w s.heap S (ks.take i) →
      (∀ t, Moved (S :: wr) G s t → ksOf prog w t.heap S ks → R (.ok (.ret .none)) t) →
      codeAny (model prog w) A (.builtin "set.update.loop" ⟨[.ref S, .ref I], []⟩) R s := by
  have nw : S ∉ wr := fun h => nS (W.sub _ h)
  have up : ∀ c ∈ wr, c ∈ S :: wr := fun c hc => List.mem_cons_of_mem _ hc
  intro m
  induction m with
  | zero =>
    intro i s hm hi st so out
    have e : i = n := by omega
    subst e
    rw [List.take_of_length_le (Nat.le_of_eq hn)] at so
    apply codeAny_builtin F.entry_set_update_loop
    rw [Around.under_plainId F.plain_set_update_loop _]
    change wpAny _ A.in1 (pyNext (.ref I) >>= _) _ _ s
    apply wpAny_bind
    apply W.done s _ _ st
    intro t mv
    change wpAny _ A.in1 (ret Value.none) _ _ t
    apply wpAny_pure
    apply out t (mv.mono up)
    obtain ⟨o, es, ep, tb, ho, more⟩ := so
    exact ⟨o, es, ep, tb, mv.heap S _ nw ho, more⟩
  | succ m ih =>
    intro i s hm hi st so out
    have lt : i < n := by omega
    apply codeAny_builtin F.entry_set_update_loop
    rw [Around.under_plainId F.plain_set_update_loop _]
    change wpAny _ A.in1 (pyNext (.ref I) >>= _) _ _ s
    apply wpAny_bind
    apply W.item i s _ _ lt st
    intro v t hP st' mv
    obtain ⟨k, ek, ik⟩ := is i v hP
    have so' : ksOf prog w t.heap S (ks.take i) := by
      obtain ⟨o, es, ep, tb, ho, more⟩ := so
      exact ⟨o, es, ep, tb, mv.heap S _ nw ho, more⟩
    change wpAny _ A.in1 (holding [v] (setAdd S v) >>= _) _ _ t
    apply wpAny_bind
    apply wpAny_holding
    unfold setAdd
    apply wpAny_holding
    apply wpAny_bind
    apply (mixKind prog w).pyHash (k := k) ik
    have rm : (dedup [] (ks.take i)).length + 1 < scanBound := by
      have h1 := dedup_le (ks.take i) []
      have h2 := List.length_take_le i ks
      simp at h1
      omega
    refine wpAny_setAddHashed_of (knd := mixKind prog w) (s := { t with toks := t.toks + 1 }) ik (by rcases keyIs_shape ik with ⟨i, u, rfl, rfl⟩ | ⟨x, u, rfl, rfl⟩ <;> rfl) so' rm fun h2 sb so2 => ?_
    have tk : ks.take (i + 1) = ks.take i ++ [k] := by
      rw [List.take_add_one, ek]; rfl
    have so3 : ksOf prog w h2 S (ks.take (i + 1)) := by
      rw [tk]
      have q1 : hasK (dedup [] (ks.take i ++ [k])) = fun k' => hasK (dedup [] (ks.take i)) k' || decide (k' = k) := funext fun k' => has_snoc (ks.take i) k k'
      unfold ksOf
      rw [q1, len_snoc]
      exact so2
    refine wpAny_pure ⟨plainId_quiet F.plain_set_update_loop _, ih (i + 1) _ (by omega) lt (W.frame _ t _ _ st' (Nat.le_succ _) fun c hc o e => ?_) so3 fun u mv2 so4 => ?_⟩
    · rw [sb.2 c fun h : c = S => nS (h ▸ hc)]; exact e
    · refine out u (Moved.trans W.gtrans ((mv.mono up).then_heap (Nat.le_succ _) fun c o hc e => ?_) mv2) so4
      rw [sb.2 c fun h : c = S => hc (h ▸ List.mem_cons_self)]; exact e
end
section
variable {prog : Program} {w : World} {A : Around} {E : Value → Shared → Prop} {s : Shared}
theorem set_of_list {l : Addr} {items : Array Value} {ks : List Key} {Q : Value → Shared → Prop} (calm : A.handled = none) (isl : s.heap.IsList l items) (hk : ∀ (i : Nat) (v : Value), items[i]? = some v → ∃ k, ks[i]? = some k ∧ (mixKind prog w).is k v = true) (hn : ks.length = items.size) (room : items.size + 1 < scanBound)
    (out : ∀ (h2 : Heap) (tk : Nat), ksOf prog w h2 s.heap.objs.size ks → (∀ c o, c < s.heap.objs.size → s.heap.get? c = some o → h2.get? c = some o) → Q (.ref s.heap.objs.size) { s with heap := h2, toks := tk }) :
    wpAny (model prog w) A (call (.type "set") [.ref l]) Q E s := by
  obtain ⟨cc, tl, hmro⟩ := PySem.F.called_set.mro
  have hmade := PySem.F.called_set.made
  have hsub := PySem.F.called_set.sub
  apply wpAny_call
  apply codeAny_of_tree
  change wpAny _ _ (callAny (.type "set") _) _ _ _
  refine wpAny_pure ⟨Code.quiet_builtin _ (by decide +kernel), ?_⟩
  apply codeAny_builtin PySem.F.entry_type_call
  rw [Around.under_plain (weight_type_call_type "set" [.ref l] []) rfl]
  have a1 := PySem.F.called_set.notType
  have a2 := PySem.F.called_set.canCreate
  have a3 := PySem.F.typeCall_set_1 (.ref l)
  repeat (any_goals first | assumption | wp_step)
  let ob (led : Bool) : Obj := { cls := .type "set", dict := none, data := .set #[] 0 (.fresh 0 0 led) }
  refine codeAny_mono (code_set_new_1 (.ref l) (E := E) (Q₁ := fun y t => ∃ led : Bool, y = .ref s.heap.objs.size ∧ t = { s with heap := s.heap.push (ob led) }) fun led => ⟨led, rfl, rfl⟩) fun r t hr => ?_
  cases r with
  | error e => exact hr
  | ok fl =>
    cases fl with
    | next => exact hr.elim
    | brk => exact hr.elim
    | cont => exact hr.elim
    | ret y =>
      obtain ⟨led, rfl, rfl⟩ := hr
      have gS : (s.heap.push (ob led)).get? s.heap.objs.size = some (ob led) := Heap.get?_push_size _ rfl
      have gT : Shared.TypeIs { s with heap := s.heap.push (ob led) } (.ref s.heap.objs.size) "set" := ⟨_, gS, rfl⟩
      have b1 := PySem.F.called_set.init.lookup
      have b2 := PySem.F.called_set.init.bind (.ref s.heap.objs.size)
      repeat (any_goals first | assumption | wp_step)
      refine codeAny_mono (codeAny_call_builtin (R := wants (fun r u => r = .none ∧ ∃ h2 tk, u = { s with heap := h2, toks := tk } ∧ ksOf prog w h2 s.heap.objs.size ks ∧ (∀ c o, c < s.heap.objs.size → s.heap.get? c = some o → h2.get? c = some o)) E) PySem.F.called_set.init.plain PySem.F.entry_set_init (check_set_init_1 gT ?_)) fun r2 u hr2 => ?_
      · obtain ⟨ol, gl, cl, nl, dl⟩ := isl
        obtain ⟨k1, k2, k3, k4⟩ := ol
        simp only at cl dl
        subst cl
        subst dl
        have gl2 : (s.heap.push (ob led)).get? l = some { cls := .type "list", dict := k2, data := .seq items nl, slots := k4 } := Heap.get?_push_of_some _ gl
        have c1 := PySem.F.sub_list_set
        have c2 := PySem.F.sub_list_frozenset
        have c3 : (Value.type "list" == Value.type "dict") = false := by decide
        have il : (s.heap.push (ob led)).IsList l items := ⟨_, gl2, rfl, nl, rfl⟩
        unfold Builtin.«set.__init__» noKeywords Builtin.Frozenset.updateFrom
        generalize hZ : pyIter = Z
        wp_walk
        subst hZ
        apply wpAny_pyIter_list il
        apply wpAny_bind
        apply wpAny_runValue
        have ll : l < s.heap.objs.size := Heap.lt_size gl
        have h3 : A.in1.in1.in1.handled = none := by simp [calm]
        have n1 : l ≠ (s.heap.push (ob led)).objs.size := by
          rw [Heap.size_push]
          exact Nat.ne_of_lt (Nat.lt_succ_of_lt ll)
        have n2 : s.heap.objs.size ∉ [(s.heap.push (ob led)).objs.size, l] := by
          rw [Heap.size_push]
          intro hh
          rcases List.mem_cons.mp hh with hh | hh
          · exact Nat.ne_of_lt (Nat.lt_succ_self _) hh
          · exact Nat.ne_of_gt ll (List.mem_singleton.mp hh)
        refine set_loop ((Walks.list h3 _ l n1 items).toS) s.heap.objs.size n2 ks hn hk room (items.size - 0) 0 _ (by omega) (Nat.zero_le _) ⟨⟨_, Heap.get?_push_size _ rfl, rfl, rfl⟩, il.push _⟩ ?z1 ?z2
        case z1 =>
          have gg : ((s.heap.push (ob led)).push { cls := .type "list_iterator", data := .fields #[.ref l, .int 0 0] }).get? s.heap.objs.size = some (ob led) := Heap.get?_push_of_some _ gS
          exact ⟨_, #[], 0, _, gg, ⟨rfl, rfl, rfl⟩, rfl, (fun e he => by simp at he), (fun k => by simp [hasK, dedup]), (by decide), (by rfl), rfl⟩
        case z2 =>
          intro t mv so
          obtain ⟨h2, g2, d2, t2, o2⟩ := t
          have q1 : g2 = s.gens := mv.gens
          have q2 : d2 = s.drawn := mv.drawn
          have q3 : o2 = s.os := mv.os
          subst q1 q2 q3
          change wpAny _ _ _ _ _ _
          apply wpAny_pure
          change wpAny _ _ (ret Value.none) _ _ _
          refine wpAny_pure ⟨rfl, h2, t2, rfl, so, fun c o hc e => ?_⟩
          refine mv.heap c o (fun hh => ?_) (Heap.get?_push_of_some _ (Heap.get?_push_of_some _ e))
          rcases List.mem_cons.mp hh with hh | hh
          · exact Nat.ne_of_lt hc hh
          · have hh := List.mem_singleton.mp hh
            rw [Heap.size_push] at hh
            exact Nat.ne_of_lt (Nat.lt_succ_of_lt hc) hh
      · cases r2 with
        | error e => exact hr2
        | ok f2 =>
          cases f2 with
          | next => exact hr2.elim
          | brk => exact hr2.elim
          | cont => exact hr2.elim
          | ret y =>
            obtain ⟨rfl, h2, tk, rfl, so, kp⟩ := hr2
            repeat (any_goals first | assumption | wp_step)
            exact out _ _ so kp
end
def keyD : D → Option Key
  | .int i => some (.inl i)
  | .str s => some (.inr (S2 s))
  | _ => none
def keysD : List D → Option (List Key)
  | [] => some []
  | d :: ds => match keyD d, keysD ds with
    | some k, some ks => some (k :: ks)
    | _, _ => none
theorem keysD_get : ∀ {ds : List D} {ks : List Key}, keysD ds = some ks → ks.length = ds.length ∧ ∀ (i : Nat) (d : D), ds[i]? = some d → ∃ k, ks[i]? = some k ∧ keyD d = some k
  | [], ks, h => by
    simp only [keysD, Option.some.injEq] at h
    subst h
    exact ⟨rfl, fun i d e => by simp at e⟩
  | d :: ds, ks, h => by
    unfold keysD at h
    cases q1 : keyD d with
    | none => rw [q1] at h; cases h
    | some k =>
      cases q2 : keysD ds with
      | none => rw [q1, q2] at h; cases h
      | some ks' =>
        rw [q1, q2] at h
        cases h
        obtain ⟨h1, h2⟩ := keysD_get q2
        refine ⟨by simp [h1], fun i e he => ?_⟩
        cases i with
        | zero =>
          cases he
          exact ⟨k, rfl, q1⟩
        | succ i => exact h2 i e he
theorem keyD_is {z : Bz} {M : MS} {H : Hp} {v : V} {d : D} {k : Key} {u : Value} (r : Rp z M H v d) (e : keyD d = some k) (ru : RelV v u) : keyIs k u = true := by
  cases r <;> simp only [keyD, Option.some.injEq, reduceCtorEq] at e
  · subst e
    obtain ⟨t, rfl⟩ := ru
    exact keyIs_int _ _
  · subst e
    obtain ⟨t, rfl⟩ := ru
    exact keyIs_str _ _
section
variable {X : Cx} {a : Expr} {ta : TDE} {p p2 q pos : Pos}
/-- len(set(xs)) -/
def rLenSet : D → (D → Prop) → Prop
  | .lst xs, Q => ∃ ks, keysD xs = some ks ∧ ks.length + 1 < scanBound ∧ Q (.int (dedup [] ks).length)
  | _, _ => False
def tLenSetV (ta : TE) : TE := fun σ H Q => ta σ H fun x H1 => ∃ l xs ks, x = .ref l ∧ H1 l = some (.lst xs) ∧ (∀ (i : Nat) (v : V) (u : Value), xs[i]? = some v → RelV v u → ∃ k, ks[i]? = some k ∧ keyIs k u = true) ∧ ks.length = xs.length ∧ ks.length + 1 < scanBound ∧ Q (.int (dedup [] ks).length) H1
theorem pe_lenSetV {ta : TE} (hm : X.mg "len" = none) (hm2 : X.mg "set" = none) (ha : PE X a ta) (hc : X.calm = true := by rfl) (hg : Gl X "len" := by rfl) (hg2 : Gl X "set" := by rfl) (na : starEach [a] X.env = (false, eval a X.env) :: starEach [] X.env := by rfl) :
    PE X (.Call (.Name "len" p) [.Call (.Name "set" p2) [a] [] q] [] pos) (tLenSetV ta) := by
  constructor
  intro pins s σ H Q I h
  refine Call_ (ld_blt I hg hm boot_len (callWith_builtin1 (args_cons (Call_ (ld_blt I hg2 hm2 boot_set ?_)) rfl) rfl rfl))
  refine callWith_type1 (args_cons (thn (ha.run pins s σ H _ I h) fun v s1 ⟨x, H1, I1, r1, q1⟩ => args_nil ?_) na) na rfl
  obtain ⟨l, xs, ks, rfl, hq, hks, hlen, room, q1⟩ := q1
  cases r1
  obtain ⟨its, r, pl, hz⟩ := I1.list (.of hq)
  have hsz : its.toArray.size = xs.length := by rw [List.size_toArray, ← r.length]
  refine set_of_list (I1.ok.hd hc) pl.isList (ks := ks) (fun i u e => ?_) (by rw [hlen, hsz]) (by rw [hsz, ← hlen]; exact room) fun h2 tk so kp => ?_
  · have e' : its[i]? = some u := by simpa using e
    cases qv : xs[i]? with
    | none =>
      rw [Vals.none_of r qv] at e'
      cases e'
    | some v =>
      obtain ⟨u', e2, ru⟩ := r.get qv
      rw [e'] at e2
      cases e2
      exact hks i v u qv ru
  · apply args_nil
    obtain ⟨o, es, ep, t, ho, hex, hd, _, _, _, hf, hn⟩ := so
    have I2 : Inv X pins σ H1 { s1 with heap := h2, toks := tk } := I1.kept fun b o e => kp b o (Heap.lt_size e) e
    have hle := dedup_le ks []
    refine call_len_set ho hex hd hf ?_ ⟨.int (dedup [] ks).length, H1, I2.tok _, ⟨_, by rw [hn]⟩, q1⟩
    rw [hn]
    unfold scanBound at room
    simp at hle
    omega
theorem de_lenSet (hm : X.mg "len" = none) (hm2 : X.mg "set" = none) (ha : PE X a (lP ta)) (hc : X.calm = true := by rfl) (hg : Gl X "len" := by rfl) (hg2 : Gl X "set" := by rfl) (na : starEach [a] X.env = (false, eval a X.env) :: starEach [] X.env := by rfl) :
    PE X (.Call (.Name "len" p) [.Call (.Name "set" p2) [a] [] q] [] pos) (lE (d1 rLenSet ta)) := PE.imp (pe_lenSetV hm hm2 ha hc hg hg2 na) fun σ H Q ⟨g, Qd, s, w, k⟩ =>
  ⟨g, _, s, w, fun d v H1 w1 x1 s1 r1 => by
    cases d <;> try exact w1.elim
    obtain ⟨l, xs, rfl, h1, l1⟩ := r1.lst
    obtain ⟨ks, e1, room, q⟩ := w1
    obtain ⟨g1, g2⟩ := keysD_get e1
    refine ⟨l, xs, ks, rfl, h1, fun i v u e ru => ?_, by rw [g1, l1.length], room, k _ _ H1 q x1 s1 (.int _)⟩
    obtain ⟨d, e2, rp⟩ := l1.getV e
    obtain ⟨k', e3, e4⟩ := g2 i d e2
    exact ⟨k', e3, keyD_is rp e4 ru⟩⟩
end
end L2.DL

namespace L2.DL
open PySem PySem.Spec PyProof.Rows
/-! ### sorted(xs) -/
abbrev dle : D → D → Bool := PySem.W.dataLe false toPy
def sortD (ds : List D) : List D := ds.mergeSort dle
structure CanSort (ds : List D) : Prop where
  plain : ∀ d ∈ ds, plainD d = true
  dep : ∀ d ∈ ds, dep d ≤ 64
  alike : PySem.W.AllAlike (ds.map toPy)
  kind : PySem.W.Sortable (ds.map toPy)
  len : ds.length ≤ sizeLine
section
variable {X : Cx}
theorem zip_back : ∀ {z : Bz} {M : MS} {H : Hp} {vs : List V} {ds : List D}, RpL z M H vs ds → (vs.zip ds).map Prod.fst = vs ∧ (vs.zip ds).map Prod.snd = ds ∧ ∀ q ∈ vs.zip ds, Rp z M H q.1 q.2 ∧ q.2 ∈ ds
  | _, _, _, _, _, .nil => ⟨rfl, rfl, fun _ h => nomatch h⟩
  | _, _, _, _, _, .cons (v := v) (d := d) a b => by
    obtain ⟨h1, h2, h3⟩ := zip_back b
    refine ⟨by simp [h1], by simp [h2], fun q hq => ?_⟩
    rcases List.mem_cons.mp (by simpa using hq) with rfl | hq
    · exact ⟨a, by simp⟩
    · exact ⟨(h3 q hq).1, by simp [(h3 q hq).2]⟩
theorem rpl_of : ∀ {z : Bz} {M : MS} {H : Hp} {ps : List (V × D)}, (∀ q ∈ ps, Rp z M H q.1 q.2) → RpL z M H (ps.map Prod.fst) (ps.map Prod.snd)
  | _, _, _, [], _ => .nil
  | _, _, _, q :: ps, h => .cons (h q (by simp)) (rpl_of fun r hr => h r (by simp [hr]))
theorem each_vals {ps : List (V × D)} : ∀ {out : List Value}, PySem.W.EachIs (fun (u : Value) (b : V × D) => RelV b.1 u) out ps → Vals (ps.map Prod.fst) out := by
  induction ps with
  | nil => intro out h; cases h; exact .nil
  | cons q ps ih => intro out h; cases h with | cons a b => exact .cons a (ih b)
def rSortV (z : Bz) (M : MS) : List V → Hp → VK → Prop := fun xs H Q => ∃ (a : Addr) (vs : List V) (ds : List D), xs = [.ref a] ∧ H a = some (.lst vs) ∧ RpL z M H vs ds ∧ CanSort ds ∧ ∀ ws p, RpL z M H ws (sortD ds) → H p = none → Q (.ref p) (upd H p (.lst ws))
theorem cr_sortV {z : Bz} {M : MS} (hu : X.A.units + 70 < cLine) : CallR X (.builtin "sorted") (rSortV z M) := by
  intro pins s σ H xs us Q I r h
  obtain ⟨a, vs, ds, rfl, ha, rl, cs, q⟩ := h
  obtain ⟨u, rfl, ru⟩ := vals1 r
  obtain rfl : u = Value.ref a := ru
  obtain ⟨its, rv, pl, hz⟩ := I.list (.of ha)
  obtain ⟨z1, z2, z3⟩ := zip_back rl
  have hlen : (vs.zip ds).length = its.length := by
    have := congrArg List.length z1
    rw [List.length_map] at this
    rw [this]; exact rv.length
  have each : ∀ (vs : List V) (ds : List D) (its : List Value), RpL z M H vs ds → Vals vs its → PySem.W.EachIs (fun (u : Value) (b : V × D) => RelV b.1 u) its (vs.zip ds) := by
    intro vs
    induction vs with
    | nil => intro ds its l r; cases l; cases r; exact .nil
    | cons v vs ih => intro ds its l r; cases l with | cons a b => cases r with | cons c d => exact .cons c (ih _ _ b d)
  have reads : ∀ (vs : List V) (ds : List D) (its : List Value), RpL z M H vs ds → Vals vs its → (∀ d ∈ ds, plainD d = true) → PySem.W.EachIs (fun (u : Value) (b : V × D) => ∃ as, Reads s.heap u (toPy b.2) as) its (vs.zip ds) := by
    intro vs
    induction vs with
    | nil => intro ds its l r _; cases l; cases r; exact .nil
    | cons v vs ih =>
      intro ds its l r hp
      cases l with
      | cons a b =>
        cases r with
        | cons c d => exact .cons (Dp.reads I _ _ _ (a.dp (hp _ (by simp))) c) (ih _ _ b d fun d hd => hp d (by simp [hd]))
  have em : (vs.zip ds).map (fun b => toPy b.2) = ds.map toPy := by
    show (vs.zip ds).map (toPy ∘ Prod.snd) = _
    rw [← List.map_map, z2]
  refine PySem.W.sorted_data (R := fun (u : Value) (b : V × D) => RelV b.1 u) (enc := fun b : V × D => toPy b.2) (bs := vs.zip ds) (vs := its) pl.isList (each vs ds its rl rv) (reads vs ds its rl rv cs.plain) (by rw [em]; exact cs.alike) (by rw [em]; exact cs.kind) ?_ (fun b hb => ?_) fun out hl eo => ?_
  · have := congrArg List.length z2
    rw [List.length_map] at this
    rw [this]; exact cs.len
  · have := cs.dep b.2 (z3 b hb).2
    rw [toPy_dep]
    omega
  · have ev := each_vals eo
    obtain ⟨e, he⟩ := sortedAll_at s.heap its out.toArray
    have es : ((vs.zip ds).mergeSort (PySem.W.dataLe false fun b : V × D => toPy b.2)).map Prod.snd = sortD ds := by
      refine (PySem.W.sort_maps (r := PySem.W.dataLe false fun b : V × D => toPy b.2) (s := dle) Prod.snd fun _ _ _ _ => rfl).trans ?_
      rw [z2]
      rfl
    have rs : RpL z M H (((vs.zip ds).mergeSort (PySem.W.dataLe false fun b : V × D => toPy b.2)).map Prod.fst) (sortD ds) := by
      rw [← es]
      exact rpl_of fun q hq => (z3 q (List.mem_mergeSort.mp hq)).1
    have hf : H (s.heap.objs.size + 1) = none := I.hok.fresh (Nat.le_succ _)
    refine ⟨.ref (s.heap.objs.size + 1), upd H (s.heap.objs.size + 1) (.lst _), I.laid (t' := s.toks) (fun b o e => sortedAll_old e) (Nat.le_succ _) ⟨?_, out, e, ev, he⟩, rfl, q _ _ rs hf⟩
    rw [rs.length]
    unfold sortD
    rw [List.length_mergeSort]
    exact cs.len
def rSortD : RDC
  | [.lst xs], Q => CanSort xs ∧ Q (.lst (sortD xs))
  | _, _ => False
variable {e : Expr} {ts : TDA} {p pos : Pos}
theorem df_sorted (hu : X.A.units + 70 < cLine) (hm : X.mg "sorted" = none) (ha : PA X [e] (lAP ts)) (hg : Gl X "sorted" := by rfl) (he : starEach [e] X.env = (false, eval e X.env) :: starEach [] X.env := by rfl) : PE X (.Call (.Name "sorted" p) [e] [] pos) (lF (dCall rSortD ts)) := by
  constructor
  intro pins s σ H Q I h
  obtain ⟨g, Qd, st, w, k⟩ := h
  refine (pe_callB (cr_sortV (z := g.z) (M := g.M) hu) hg hm (by decide +kernel) ha (he := he) (hpl := by rfl)).run pins s σ H Q I ⟨g, _, st, w, fun ds vs H1 w1 x1 s1 r1 => ?_⟩
  match ds, w1, r1 with
  | [.lst xs], w1, r1 =>
    obtain ⟨v, rfl, hv⟩ := r1.one
    obtain ⟨a, ys, rfl, h1, l1⟩ := hv.lst
    exact ⟨a, ys, xs, rfl, h1, l1, w1.1, fun ws p rs hp => k (.lst (sortD xs)) p _ w1.2 (x1.trans (.new hp)) (s1.alloc hp) (x1.none_of hp fun h => s1.fresh hp (res_M h.res)) (s1.fresh hp) (.lst upd_same (rs.tr (.new hp)))⟩
theorem u70 {k : Nat} {A : Around} (hr : Room k A) : A.units + 70 < cLine := by have := hr.un; omega
/-! ### max(xs) of ints -/
def intsD : List D → Option (List Int)
  | [] => some []
  | .int i :: r => (intsD r).map (i :: ·)
  | _ :: _ => none
theorem intsD_eq : ∀ {ds : List D} {bs : List Int}, intsD ds = some bs → ds = bs.map D.int
  | [], bs, h => by simp [intsD] at h; subst h; rfl
  | .int b :: r, bs, h => by
    simp [intsD] at h
    obtain ⟨c, h1, h2⟩ := h
    subst h2
    rw [intsD_eq h1]; rfl
theorem intsD_map (bs : List Int) : intsD (bs.map D.int) = some bs := by
  induction bs with
  | nil => rfl
  | cons b r ih => simp [intsD, ih]
def rMaxD : RDC
  | [.lst x], Q => ∃ ns, intsD x = some ns ∧ 0 < ns.length ∧ ∀ m, m ∈ ns → (∀ y ∈ ns, y ≤ m) → Q (.int m)
  | _, _ => False
theorem real_max {K : PySem.W.Frag} : RealC (fun vs H Q => ∃ (a : Addr) (ns : List Int), vs = [V.ref a] ∧ SqL K H a (ns.map V.int) ∧ 0 < ns.length ∧ ∀ m, m ∈ ns → (∀ y, y ∈ ns → y ≤ m) → Q (.int m) H) rMaxD := by
  intro g σ H xs ds Qd Q s hx w k
  match ds, w, hx with
  | [.lst x], w, hx =>
    obtain ⟨v, rfl, h⟩ := hx.one
    obtain ⟨p, xs, rfl, h1, l1⟩ := h.lst
    obtain ⟨ns, e, hl, q⟩ := w
    rw [intsD_eq e] at l1
    rw [l1.ints] at h1
    exact ⟨p, ns, rfl, .of h1, hl, fun m hm hy => k.here s (q m hm hy) (.int _)⟩
theorem de_max (hm : X.mg "max" = none) (ha : PA X [e] (lAP ts)) (hc : X.calm = true := by rfl) (hg : Gl X "max" := by rfl) (he : starEach [e] X.env = (false, eval e X.env) :: starEach [] X.env := by rfl) : PE X (.Call (.Name "max" p) [e] [] pos) (lE (dCall rMaxD ts)) := de_callB (cr_max hc) real_max hg hm (by decide +kernel) ha (he := he) (hpl := by rfl)
end
end L2.DL

namespace L2.DL
open PySem PySem.Spec PyProof.Rows
/-! ### keywords -/
def permL {α : Type} (perm : List Nat) (l : List α) : List α := perm.filterMap fun i => l[i]?
theorem permL_vals {vs : List V} {us : List Value} (r : Vals vs us) : ∀ perm : List Nat, Vals (permL perm vs) (permL perm us)
  | [] => .nil
  | i :: perm => by
    unfold permL
    rw [List.filterMap_cons, List.filterMap_cons]
    cases q : vs[i]? with
    | none => rw [Vals.none_of r q]; exact permL_vals r perm
    | some v =>
      obtain ⟨u, e, ru⟩ := r.get q
      rw [e]
      exact .cons ru (permL_vals r perm)
theorem permL_rpl {z : Bz} {M : MS} {H : Hp} {vs : List V} {ds : List D} (r : RpL z M H vs ds) : ∀ perm : List Nat, RpL z M H (permL perm vs) (permL perm ds)
  | [] => .nil
  | i :: perm => by
    unfold permL
    rw [List.filterMap_cons, List.filterMap_cons]
    cases q : vs[i]? with
    | none =>
      have : ds[i]? = none := by
        have := r.length
        rw [List.getElem?_eq_none_iff] at q ⊢
        omega
      rw [this]; exact permL_rpl r perm
    | some v =>
      obtain ⟨d, e, ru⟩ := r.getV q
      rw [e]
      exact .cons ru (permL_rpl r perm)
abbrev KBp (K : PySem.W.Frag) (fd : FuncData) (ps : List Str) (n : Nat) (ks : List Str) (perm : List Nat) : Prop := KBn K fd ps n ks (fun us ws => permL perm (us ++ ws)) (fun vs zs => permL perm (vs ++ zs))
section
variable {K : PySem.W.Frag} {x qual : Str} {params : Arguments} {body : List Stmt} {scope : Scope} {dvs : List V} {kws : List (Str × V)} {f : Addr} {fd : FuncData} {ps : List Str}
theorem kbp_none (F : FunD K x qual params body scope [] kws f fd) (n : Nat) (ks : List Str) (perm : List Nat)
    (h : ∀ (kV doc pm : Value) (an : Option Addr) (cdv ct : Value) (us ws : List Value), us.length = n → ws.length = ks.length → bindArgs (PySem.W.fnOf x qual params body scope .none kV doc pm an cdv ct) ⟨us, ks.zip ws⟩ = pure (ps.zip (permL perm (us ++ ws)))) : KBp K fd ps n ks perm := by
  obtain ⟨oc, od, dV, kV, doc, pm, an, cdv, ct, osl, rfl, lk, hcd, hD, hK⟩ := F.ex
  refine ⟨fun s us ws _ h1 h2 => ?_, fun r rz => permL_vals (r.append rz) perm⟩
  rcases hD with ⟨_, rfl⟩ | ⟨e, _⟩
  · exact .of_eq (h kV doc pm an cdv ct us ws h1 h2)
  · exact absurd rfl e
theorem kbp_dflt (F : FunD K x qual params body scope dvs kws f fd) (hd : dvs ≠ []) (n : Nat) (ks : List Str) (perm : List Nat)
    (h : ∀ (T : Addr) (kV doc pm : Value) (an : Option Addr) (cdv ct : Value) (us ws its : List Value), us.length = n → ws.length = ks.length → its.length = dvs.length →
      ∃ k, bindArgs (PySem.W.fnOf x qual params body scope (.ref T) kV doc pm an cdv ct) ⟨us, ks.zip ws⟩ = seqItems? (.ref T) >>= k ∧ k (some its.toArray) = pure (ps.zip (permL perm (us ++ ws)))) : KBp K fd ps n ks perm := by
  obtain ⟨oc, od, dV, kV, doc, pm, an, cdv, ct, osl, rfl, lk, hcd, hD, hK⟩ := F.ex
  refine ⟨fun s us ws X h1 h2 => ?_, fun r rz => permL_vals (r.append rz) perm⟩
  rcases hD with ⟨e, _⟩ | ⟨_, T, o, its, m, rfl, lT, oT, rT⟩
  · exact absurd e hd
  · obtain ⟨k, e1, e2⟩ := h T kV doc pm an cdv ct us ws its h1 h2 rT.length.symm
    apply BindsTo.of_looks
    intro M
    rw [e1]
    exact looks_items X lT oT (.of_pure e2)
end
section
variable {X : Cx} {pos p kpos : Pos} {es : List Expr} {e : Expr} {te : TDE} {ts tk : TDA} {x : Str} {tf : TDF} {n m k : Nat} {f : Addr} {fd : FuncData} {ps ks : List Str} {perm : List Nat} {kws : List Keyword} {nm : Option Str}
theorem PK.imp {t t' : TA} (h : PK X kws t) (i : ∀ σ H Q, t' σ H Q → t σ H Q) : PK X kws t' := ⟨fun pos pins s σ H Q I w => h.run pos pins s σ H Q I (i _ _ _ w)⟩
theorem dw_nil : PK X [] (lA daNil) := PK.imp pk_nil fun σ H Q ⟨g, Qd, s, w, k⟩ => k [] [] H w .refl s .nil
theorem dw_cons (he : PE X e (lE te)) (hr : PK X kws (lA ts)) : PK X (⟨nm, e, kpos⟩ :: kws) (lA (daCons te ts)) := PK.imp (pk_cons he hr) fun σ H Q ⟨g, Qd, s, w, k⟩ =>
  ⟨g, _, s, w, fun d v H1 w1 x1 s1 r1 => ⟨g, _, s1, w1, fun ds vs H2 w2 x2 s2 r2 => k _ _ H2 w2 (x1.trans x2) s2 (.cons (r1.ext x2) r2)⟩⟩
def dFnK (n m : Nat) (perm : List Nat) (tf : TDF) (ts tk : TDA) : TDE := fun S Q => ts S fun ds => tk S fun es => ds.length = n ∧ es.length = m ∧ tf (permL perm (ds ++ es)) Q
/-- f(k = v, ..) -/
theorem pe_fnK0 {sp : Sp} {tk : TA} {CX : CXT} {E : XK} (F : FnOk X.prog X.w X.K X.mg X.base CX k f fd ps sp) (hr : Room k X.A) (hm : X.mg x = some (.ref f)) (hk : PySem.W.keepIn X.K (.ref f) = true) (hb : KBp X.K fd ps 0 ks perm) (hx : Passes CX X E) (hkw : PK X kws tk) (hg : Gl X x)
    (hall : (backToKw pos (keywordEach kws X.env)).all (·.1.isSome) = true) (hks : (backToKw pos (keywordEach kws X.env)).filterMap (·.1) = ks) (hdb : (x == ("__debug__" : Str)) = false) (hpl : ((backTo pos (starEach [] X.env)).any (·.1) || (backToKw pos (keywordEach kws X.env)).any (·.1.isNone)) = false) :
    PE X (.Call (.Name x p) [] kws pos) (fun σ H Q => tk σ H fun zs H2 => zs.length = ks.length ∧ sp (permL perm ([] ++ zs)) H2 Q E) := by
  constructor
  intro pins s σ H Q I h
  apply wpAny_Call_Name_kw
  apply ld_glob I hg hm _ hdb
  refine PySem.W.callWith_KW0 (h₀ := X.base) I.ok.mod.kin hk hall (thn (hkw.run pos pins s σ H _ I h) fun ws s2 ⟨zs, H2, I2, rz, l2, q2⟩ => ⟨I2.kIn, ?_⟩) hpl
  rw [hks]
  exact run_fnN (us := []) (vs := []) F hr hb hx I2 .nil rz rfl l2 q2
theorem de_fnK0 (F : FnOk X.prog X.w X.K X.mg X.base CX0 k f fd ps (spE n tf)) (hr : Room k X.A) (hm : X.mg x = some (.ref f)) (hk : PySem.W.keepIn X.K (.ref f) = true) (hb : KBp X.K fd ps 0 ks perm) (hkw : PK X kws (lA tk)) (hn : ∀ ds Q, tf ds Q → ds.length = n) (hg : Gl X x := by rfl)
    (hall : (backToKw pos (keywordEach kws X.env)).all (·.1.isSome) = true := by rfl) (hks : (backToKw pos (keywordEach kws X.env)).filterMap (·.1) = ks := by rfl) (hdb : (x == ("__debug__" : Str)) = false := by decide) (hpl : ((backTo pos (starEach [] X.env)).any (·.1) || (backToKw pos (keywordEach kws X.env)).any (·.1.isNone)) = false := by rfl) :
    PE X (.Call (.Name x p) [] kws pos) (lE (dFnK 0 ks.length perm tf daNil tk)) := PE.imp (pe_fnK0 F hr hm hk hb pass0 hkw hg hall hks hdb hpl) fun σ H Q ⟨g, Qd, s, w, kk⟩ =>
  ⟨g, _, s, w, fun ds vs H1 w1 x1 s1 r1 => by
    obtain ⟨_, l2, w1⟩ := w1
    have r2 := permL_rpl r1 perm
    exact ⟨by rw [r1.length]; exact l2, by rw [List.nil_append, r2.length]; exact hn _ _ w1, g.z, g.M, _, Qd, s1.amb, r2, w1, fun d v H' q x b rp => kk d v H' q (x1.trans x) (s1.ext x b) rp⟩⟩
theorem df_fnK0 (F : FnOk X.prog X.w X.K X.mg X.base CX0 k f fd ps (spF n tf)) (hr : Room k X.A) (hm : X.mg x = some (.ref f)) (hk : PySem.W.keepIn X.K (.ref f) = true) (hb : KBp X.K fd ps 0 ks perm) (hkw : PK X kws (lA tk)) (hn : ∀ ds Q, tf ds Q → ds.length = n) (hg : Gl X x := by rfl)
    (hall : (backToKw pos (keywordEach kws X.env)).all (·.1.isSome) = true := by rfl) (hks : (backToKw pos (keywordEach kws X.env)).filterMap (·.1) = ks := by rfl) (hdb : (x == ("__debug__" : Str)) = false := by decide) (hpl : ((backTo pos (starEach [] X.env)).any (·.1) || (backToKw pos (keywordEach kws X.env)).any (·.1.isNone)) = false := by rfl) :
    PE X (.Call (.Name x p) [] kws pos) (lF (dFnK 0 ks.length perm tf daNil tk)) := PE.imp (pe_fnK0 F hr hm hk hb pass0 hkw hg hall hks hdb hpl) fun σ H Q ⟨g, Qd, s, w, kk⟩ =>
  ⟨g, _, s, w, fun ds vs H1 w1 x1 s1 r1 => by
    obtain ⟨_, l2, w1⟩ := w1
    have r2 := permL_rpl r1 perm
    exact ⟨by rw [r1.length]; exact l2, by rw [List.nil_append, r2.length]; exact hn _ _ w1, g.z, g.M, _, Qd, s1.amb, r2, w1, fun d a H' q x b hn nm o => kk d a H' q (x1.trans x) (s1.ext x b) (x1.none_of hn fun h => nm (res_M h.res)) nm o⟩⟩
theorem de_fnK (F : FnOk X.prog X.w X.K X.mg X.base CX0 k f fd ps (spE n tf)) (hr : Room k X.A) (hm : X.mg x = some (.ref f)) (hk : PySem.W.keepIn X.K (.ref f) = true) (hb : KBp X.K fd ps m ks perm) (ha : PA X (e :: es) (lA ts)) (hkw : PK X kws (lA tk)) (hn : ∀ ds Q, tf ds Q → ds.length = n) (hg : Gl X x := by rfl)
    (hall : (backToKw pos (keywordEach kws X.env)).all (·.1.isSome) = true := by rfl) (hks : (backToKw pos (keywordEach kws X.env)).filterMap (·.1) = ks := by rfl) (hdb : (x == ("__debug__" : Str)) = false := by decide) (he : starEach (e :: es) X.env = (false, eval e X.env) :: starEach es X.env := by rfl) (hpl : ((backTo pos (starEach (e :: es) X.env)).any (·.1) || (backToKw pos (keywordEach kws X.env)).any (·.1.isNone)) = false := by rfl) :
    PE X (.Call (.Name x p) (e :: es) kws pos) (lE (dFnK m ks.length perm tf ts tk)) := PE.imp (pe_callN F hr hg hm hk hb pass0 ha hkw hall hks hdb he hpl) fun σ H Q ⟨g, Qd, s, w, kk⟩ =>
  ⟨g, _, s, w, fun ds vs H1 w1 x1 s1 r1 => ⟨g, _, s1, w1, fun es zs H2 w2 x2 s2 rz => by
    obtain ⟨l1, l2, w2⟩ := w2
    have r1' := r1.ext x2
    have r2 := permL_rpl (r1'.append rz) perm
    exact ⟨by rw [r1'.length]; exact l1, by rw [rz.length]; exact l2, by rw [r2.length]; exact hn _ _ w2, g.z, g.M, _, Qd, s2.amb, r2, w2, fun d v H' q x b rp => kk d v H' q ((x1.trans x2).trans x) (s2.ext x b) rp⟩⟩⟩
end
/-! ### s[::-1] -/
section
variable {X : Cx} {e : Expr} {te : TDE} {pos p1 p2 p3 : Pos} {k : Nat}
theorem df_rev (he : PE X e (lP te)) : PE X (.Subscript e (.Slice none none (some (.UnaryOp .USub (.Constant (.int 1) k p1) p2)) p3) pos) (lF (fun S Q => te S fun d => ∃ xs, d = .lst xs ∧ Q (.lst xs.reverse))) := PE.imp (pe_revL he) fun σ H Q ⟨g, Qd, s, w, kk⟩ =>
  ⟨g, _, s, w, fun d v H1 w1 x1 s1 r1 => by
    obtain ⟨xs, rfl, q⟩ := w1
    obtain ⟨a, ys, rfl, h1, l1⟩ := r1.lst
    exact ⟨a, ys, rfl, .of h1, fun p hp => kk (.lst xs.reverse) p _ q (x1.trans (.new hp)) (s1.alloc hp) (x1.none_of hp fun h => s1.fresh hp (res_M h.res)) (s1.fresh hp) (.lst upd_same (l1.reverse.tr (.new hp)))⟩⟩
end
end L2.DL

namespace L2.DL
open PySem PySem.Spec PyProof.Rows
/-! ### text[::-1] -/
theorem picks_some (xs : List Nat) : ∀ k, k ≤ xs.length → List.filterMap ((fun i => xs[i]?) ∘ fun (k : Nat) => (((xs.length : Int) - 1) + (-1) * (k : Int)).toNat) (List.range k) = xs.reverse.take k
  | 0, _ => rfl
  | k + 1, h => by
    have e : (((xs.length : Int) - 1) + (-1) * (k : Int)).toNat = xs.length - 1 - k := by omega
    rw [List.range_succ, List.filterMap_append, picks_some xs k (by omega), List.take_succ, List.getElem?_reverse (by omega)]
    congr 1
    simp only [List.filterMap_cons, List.filterMap_nil, Function.comp, e]
    rw [List.getElem?_eq_getElem (show xs.length - 1 - k < xs.length by omega)]
    rfl
theorem picks_back (xs : List Nat) : (List.filterMap (fun i => xs[i]?) (List.map (fun (k : Nat) => (((xs.length : Int) - 1) + (-1) * (k : Int)).toNat) (List.range xs.length))) = xs.reverse := by
  rw [List.filterMap_map, picks_some xs _ (Nat.le_refl _), List.take_of_length_le (by simp)]
theorem indices_back (n : Nat) : Builtin.Str.strSliceIndices none none (-1) n = List.map (fun (k : Nat) => (((n : Int) - 1) + (-1) * (k : Int)).toNat) (List.range n) := by
  simp only [Builtin.Str.strSliceIndices, sliceRange]
  have h1 : ¬ ((-1 : Int) > 0) := by decide
  simp only [h1, if_false]
  congr 2
  by_cases h : (n : Int) - 1 > -1
  · simp only [h, if_true]
    rw [show (- -1 : Int) = 1 from rfl, Int.ediv_one]
    omega
  · simp only [h, if_false]; omega
section
variable {X : Cx} {e : Expr} {t : TE} {te : TDE} {pos p1 p2 p3 : Pos} {k : Nat}
theorem pe_revS (he : PE X e t) : PE X (.Subscript e (.Slice none none (some (.UnaryOp .USub (.Constant (.int 1) k p1) p2)) p3) pos) (fun σ H Q => t σ H fun x H1 => ∃ xs : List Nat, x = .str (S2 xs) ∧ xs.length ≤ sizeLine ∧ Q (.str (S2 xs.reverse)) H1) := by
  constructor
  intro pins s σ H Q I h
  refine PyProof.Rows.Subscript_ (thn (he.run pins s σ H _ I h) fun v s1 ⟨x, H1, I1, r1, xs, ex, hl, q⟩ => ?_)
  subst ex
  have hst := po_some (X := X) (pe_un un_neg (pe_int (i := 1) (j := k) (pos := p1)) (pos := p2))
  refine wpAny_Slice (thn (po_none.run pins s1 σ H1 (fun o H2 => o = none ∧ H2 = H1) I1 ⟨rfl, rfl⟩) fun vl s2 ⟨o2, H2, I2, pl, e2, e2'⟩ => ?_)
  subst e2 e2'
  refine thn (po_none.run pins s2 σ H2 (fun o H3 => o = none ∧ H3 = H2) I2 ⟨rfl, rfl⟩) fun vu s3 ⟨o3, H3, I3, pu, e3, e3'⟩ => ?_
  subst e3 e3'
  refine thn (hst.run pins s3 σ H3 (fun o H4 => o = some (-1) ∧ H4 = H3) I3 ⟨1, rfl, -1, rfl, rfl, rfl⟩) fun vs s4 ⟨o4, H4, I4, ps, e4, e4'⟩ => ?_
  subst e4 e4'
  have I5 := Inv.kept (t' := s4.toks) I4 fun b ob q => Heap.get?_push_of_some { cls := Value.type "slice", data := Data.fields #[vl, vu, vs] } q
  obtain ⟨l1, rfl, m1⟩ := IsPart.raw pl
  obtain ⟨l2, rfl, m2⟩ := IsPart.raw pu
  obtain ⟨l3, rfl, m3⟩ := IsPart.raw ps
  obtain ⟨tk, rfl⟩ := r1
  refine PyProof.Rows.tail_any (typeIs_str _ _ _) F.slot_str_getitem.lookup (wpAny_getItem_str_slice (l := l1) (u := l2) (st := l3) (Heap.IsSliceOf.new s4.1 _ _ _) (by rw [m3]; rfl) ?_) rfl
  have hz : (S2 xs).length = xs.length := by show (S2 xs).cps.size = _; simp [S2]
  have hp : slicePicked (S2 xs) l1 l2 l3 = List.map (fun (k : Nat) => (((xs.length : Int) - 1) + (-1) * (k : Int)).toNat) (List.range xs.length) := by
    unfold slicePicked
    rw [m1, m2, m3, hz]
    exact indices_back _
  have hm : sliceMade (S2 xs) tk l1 l2 l3 = Made.str (S2 xs.reverse) := by
    unfold sliceMade
    rw [m3]
    rw [if_neg (by rintro h; cases h), hp]
    congr 1
    have := picks_back xs
    unfold S2
    congr 1
    rw [← this]
    simp
  rw [hm]
  exact ⟨by show (S2 xs.reverse).cps.size ≤ _; simp [S2]; exact hl, .str (S2 xs.reverse), _, I5.tok _, ⟨_, rfl⟩, q⟩
theorem de_rev (he : PE X e (lP te)) : PE X (.Subscript e (.Slice none none (some (.UnaryOp .USub (.Constant (.int 1) k p1) p2)) p3) pos) (lE (fun S Q => te S fun d => ∃ xs, d = .str xs ∧ xs.length ≤ sizeLine ∧ Q (.str xs.reverse))) := PE.imp (pe_revS he) fun σ H Q ⟨g, Qd, s, w, kk⟩ =>
  ⟨g, _, s, w, fun d v H1 w1 x1 s1 r1 => by
    obtain ⟨xs, rfl, hl, q⟩ := w1
    exact ⟨xs, Pk.str r1, hl, kk (.str xs.reverse) _ H1 q x1 s1 (.str _)⟩⟩
end
end L2.DL

namespace L2.DL
open PySem PySem.Spec PyProof.Rows
/-! ### reading the data walks -/
theorem wpMap_det {f : D → (List D → Prop) → Prop} (g : D → List D) : ∀ {ds : List D} {Q : List D → Prop}, (∀ d ∈ ds, ∀ k : List D → Prop, k (g d) → f d k) → Q (ds.flatMap g) → wpMap f ds Q
  | [], _, _, h => h
  | d :: ds, Q, hf, h => hf d (by simp) _ (wpMap_det g (fun e he => hf e (by simp [he])) (by simpa using h))
theorem flatMap_one (g : D → D) (ds : List D) : ds.flatMap (fun d => [g d]) = ds.map g := by
  induction ds with
  | nil => rfl
  | cons d ds ih => simp [ih]
theorem wpMap_map {f : D → (List D → Prop) → Prop} (g : D → D) {ds : List D} {Q : List D → Prop} (hf : ∀ d ∈ ds, ∀ k : List D → Prop, k [g d] → f d k) (h : Q (ds.map g)) : wpMap f ds Q :=
  wpMap_det (fun d => [g d]) hf (by rw [flatMap_one]; exact h)
/-- one result each, of a kind -/
theorem wpMap_all {f : D → (List D → Prop) → Prop} (R : D → Prop) : ∀ {ds : List D} {Q : List D → Prop}, (∀ d ∈ ds, ∀ k : List D → Prop, (∀ r, R r → k [r]) → f d k) → (∀ rs, rs.length = ds.length → (∀ r ∈ rs, R r) → Q rs) → wpMap f ds Q
  | [], _, _, h => h [] rfl (fun _ h => nomatch h)
  | d :: ds, Q, hf, h => hf d (by simp) _ fun r hr => wpMap_all R (fun e he => hf e (by simp [he])) fun rs hl hs => h (r :: rs) (by simp [hl]) fun x hx => (List.mem_cons.mp hx).elim (fun e => e ▸ hr) (hs x)
theorem wpFor_inv {body : D → TDS} {De : EndsD} (I : Nat → SS → Prop) : ∀ {ds : List D} {S : SS} (i : Nat), I i S →
    (∀ (j : Nat) (d : D) (S : SS) (De' : EndsD), ds[j]? = some d → I (i + j) S → (∀ S', I (i + j + 1) S' → De'.nx S') → (∀ S', I (i + j + 1) S' → De'.ct S') → (∀ S', De.nx S' → De'.bk S') → De'.rt = De.rt → De'.rf = De.rf → body d De' S) →
    (∀ S, I (i + ds.length) S → De.nx S) → wpFor body ds De S
  | [], S, i, h, _, hn => hn S h
  | d :: ds, S, i, h, hb, hn => hb 0 d S _ rfl h
      (fun S' h' => wpFor_inv I (i + 1) h' (fun j e S De' hj hI hn hc hk hr hf => hb (j + 1) e S De' hj (by rw [show i + (j + 1) = i + 1 + j by omega]; exact hI) (by rw [show i + (j + 1) + 1 = i + 1 + j + 1 by omega]; exact hn) (by rw [show i + (j + 1) + 1 = i + 1 + j + 1 by omega]; exact hc) hk hr hf) (fun S hS => hn S (by rw [show i + (d :: ds).length = i + 1 + ds.length by simp; omega]; exact hS)))
      (fun S' h' => wpFor_inv I (i + 1) h' (fun j e S De' hj hI hn hc hk hr hf => hb (j + 1) e S De' hj (by rw [show i + (j + 1) = i + 1 + j by omega]; exact hI) (by rw [show i + (j + 1) + 1 = i + 1 + j + 1 by omega]; exact hn) (by rw [show i + (j + 1) + 1 = i + 1 + j + 1 by omega]; exact hc) hk hr hf) (fun S hS => hn S (by rw [show i + (d :: ds).length = i + 1 + ds.length by simp; omega]; exact hS)))
      (fun _ h => h) rfl rfl
/-! alike to itself -/
mutual
theorem deqv_refl : ∀ (d : D), deqv d d = true
  | .non => rfl
  | .bl b => by cases b <;> rfl
  | .int i => by show PyData.eqv _ _ = true; simp [toPy, PyData.eqv]
  | .str s => by show PyData.eqv _ _ = true; simp [toPy, PyData.eqv]
  | .lst xs => by show PyData.eqv _ _ = true; simp only [toPy, PyData.eqv]; exact deqvL_refl xs
  | .tup xs => by show PyData.eqv _ _ = true; simp only [toPy, PyData.eqv]; exact deqvL_refl xs
  | .dic _ _ _ _ => rfl
  | .ins _ _ _ => rfl
  | .raw _ => rfl
  | .bag => rfl
  | .clo _ => rfl
theorem deqvL_refl : ∀ (ds : List D), deqvL ds ds = true
  | [] => rfl
  | d :: ds => by
    have h1 := deqv_refl d
    have h2 := deqvL_refl ds
    show PyData.eqvAll _ _ = true
    simp only [toPyL, PyData.eqvAll, Bool.and_eq_true]
    exact ⟨h1, h2⟩
end
theorem plainL_iff : ∀ {ds : List D}, plainL ds = true ↔ ∀ d ∈ ds, plainD d = true
  | [] => by simp [plainL]
  | d :: ds => by simp [plainL, plainL_iff (ds := ds)]
end L2.DL

namespace L2.DL
open PySem PySem.Spec PyProof.Rows
/-! ### a law's body -/
theorem seq_cut {a b : TDS} {De : EndsD} {S : SS} (h : ∀ R, R = b De → a { De with nx := R } S) : dsSeq a b De S := h _ rfl
theorem for_rng {n : Int} {i : Nat} {tb : TDS} {De : EndsD} {S : SS} (I : Nat → SS → Prop) (h1 : n < 2 ^ 62) (h2 : -2 ^ 62 ≤ n) (h0 : I 0 S)
    (hb : ∀ (j : Nat) (S : SS) (De' : EndsD), (j : Int) < n → I j S → (∀ S', I (j + 1) S' → De'.nx S') → (∀ S', I (j + 1) S' → De'.ct S') → (∀ S', De.nx S' → De'.bk S') → De'.rt = De.rt → De'.rf = De.rf → tb De' (S.set i (.val (.int j))))
    (he : ∀ S, I n.toNat S → De.nx S) : dsFor (diRng1 (daCons (dC (.int n)) daNil)) (dgName i) tb De S := by
  refine ⟨n, rfl, h1, h2, wpFor_inv I 0 h0 (fun j d S De' hj hI hn hc hk hr hf => ?_) (fun S hI => he S ?_)⟩
  · obtain ⟨hl, e⟩ := List.getElem?_eq_some_iff.mp hj
    simp only [List.length_map, List.length_range] at hl
    simp only [List.getElem_map, List.getElem_range] at e
    subst e
    rw [Nat.zero_add] at hI hn hc
    have := hb j S De' (by omega) hI hn hc hk hr hf
    simp only [dgName, Int.zero_add]
    exact this
  · simpa using hI
/-- the law's own start: the bag alone -/
theorem lS_law {t : TDS} {D : Ends} {p l : Addr} {H : Hp} {v : Option V} {n : Nat} (hb : BagAt H p l) (hD : ∀ H', D.rt (.bl true) H')
    (w : t { nx := fun _ => False, rt := fun d => d = .bl true, rf := fun _ => False } (.no :: .val .bag :: List.replicate n .no)) : lS t D (v :: some (.ref p) :: List.replicate n none) H := by
  have hz : BagOk ⟨some (p, l), none, [], [], ""⟩ H := ⟨fun a b e => (by cases e; exact hb), fun P e => (by cases e), fun a l P _ e => (by cases e)⟩
  refine ⟨⟨⟨some (p, l), none, [], [], ""⟩, fun _ => False, H, H, fun _ => False, fun _ => none, .no :: .val .bag :: List.replicate n .no⟩, _, ⟨by simp, fun i d e => ?_, fun i d e => ?_, fun i j a e => (by cases e), fun i a e => (by cases e), fun a h => ?_, .refl, hz, .refl, fun _ h => h, fun _ h => h.elim, fun i E Ed e => (by
    have h1 := List.mem_of_getElem? e
    simp at h1), fun i p e => (by
    have h1 := List.mem_of_getElem? e
    simp at h1), fun _ h => .inl h⟩, w, ?_⟩
  · match i, e with
    | 0, e => cases e
    | 1, e =>
      simp only [List.getElem?_cons_succ, List.getElem?_cons_zero, Option.some.injEq, Sl.val.injEq] at e
      subst e
      exact ⟨_, rfl, .bag rfl⟩
    | i + 2, e =>
      simp only [List.getElem?_cons_succ, List.getElem?_replicate] at e
      split at e <;> cases e
  · match i, e with
    | 0, e => cases e
    | 1, e => cases e
    | i + 2, e =>
      simp only [List.getElem?_cons_succ, List.getElem?_replicate] at e
      split at e <;> cases e
  · rcases h with h | h | ⟨i, h⟩
    · exact h.elim
    · exact hz.alive h
    · cases h
  · refine ⟨fun ow S σ H' s' q => q.elim, fun _ _ _ _ _ q => q.elim, fun _ _ _ _ _ q => q.elim, fun d v H' q x b rp => ?_, fun d a H' q => q.elim⟩
    subst q
    cases rp
    exact hD H'
end L2.DL

namespace L2.DL
open PySem PySem.Spec PyProof.Rows
/-! ### small facts on data -/
theorem okD_lst {ds : List D} (h : ∀ d ∈ ds, plainD d = true ∧ dep d ≤ 63) : okD (.lst ds) = true := by
  unfold okD
  rw [Bool.and_eq_true]
  refine ⟨plainL_iff.mpr fun d hd => (h d hd).1, decide_eq_true ?_⟩
  have := depL_le.mpr fun d hd => (h d hd).2
  simp only [dep]
  omega
theorem keysD_strs : ∀ ws : List (List Nat), keysD (ws.map D.str) = some (ws.map fun w => Sum.inr (S2 w))
  | [] => rfl
  | w :: ws => by simp [keysD, keyD, keysD_strs ws]
theorem nodup_keys {ws : List (List Nat)} (h : ws.Nodup) : (ws.map fun w => (Sum.inr (S2 w) : Key)).Nodup := by
  rw [List.Nodup, List.pairwise_map]
  exact h.imp fun hab e => hab (S2_inj (Sum.inr.inj e))
theorem permL_nil {α : Type} (l : List α) : permL [] l = [] := rfl
theorem permL_cons {α : Type} (i : Nat) (p : List Nat) (l : List α) : permL (i :: p) l = (l[i]?).toList ++ permL p l := by
  unfold permL
  rw [List.filterMap_cons]
  cases l[i]? <;> rfl
theorem deqv_int (i j : Int) : deqv (.int i) (.int j) = decide (i = j) := by
  show PyData.eqv _ _ = _
  simp only [toPy, PyData.eqv]
  by_cases h : i = j <;> simp [h]
end L2.DL

namespace L2.DL
open PySem PySem.Spec PyProof.Rows
/-! ### comprehensions over what is owned -/
def WalkP (ti : TDI) (wi : TI) : Prop := ∀ (g : Gh) (σ : St) (H : Hp) (Qd : List D → Prop) (R : It → Hp → Prop), Stt g σ H → ti g.S Qd → (∀ ds J H1, Qd ds → Ext g.z H H1 → Stt g σ H1 → (∀ (A : Addr) (o : HO), H1 A = none → WkA (withD g A) A (upd H1 A o) J ds) → R J H1) → wi σ H R
def DIp (X : Cx) (tg iter : Expr) (ti : TDI) : Prop := ∃ wi : TI, PI X tg iter wi ∧ WalkP ti wi
theorem DI.p {X : Cx} {tg iter : Expr} {ti : TDI} (h : DI X tg iter ti) : DIp X tg iter ti := by
  obtain ⟨wi, hp, hw⟩ := h
  exact ⟨wi, hp, fun g σ H Qd R s w k => hw g σ H Qd R s w fun ds J H1 q x s1 wk => k ds J H1 q x s1 fun A o hA => wk.A hA⟩
theorem WkA.own {g : Gh} {H1 : Hp} {K : PySem.W.Frag} {a A : Addr} {o : HO} {xs : List V} {ds : List D} (e : H1 a = some (.lst xs)) (n : ¬ resB g.z a) (l : RpL g.z g.M H1 xs ds) (hA : H1 A = none) : WkA (withD g A) A (upd H1 A o) (Itl K a) ds := by
  have na : a ≠ A := ne_of_none e hA
  have at_ : ∀ {H'}, ExtA g.z A (upd H1 A o) H' → H' a = some (.lst xs) := fun {H'} x => x a _ (by rw [upd_ne na]; exact e) (fun h => n h.res) na
  refine ⟨fun i H' x hi => ?_, fun H' x => ⟨xs, .of (at_ x), by rw [l.length]; exact Nat.le_refl _⟩, fun i H' v H'' d x fr y hd => ?_⟩
  · obtain ⟨v, hv, _⟩ := l.get (List.getElem?_eq_getElem hi)
    exact ⟨xs, v, .of (at_ x), hv⟩
  · obtain ⟨rfl, y⟩ := y
    obtain ⟨v', hv, r⟩ := l.get hd
    have := (y xs (.of (at_ x))).symm.trans hv
    cases this
    have tr : Tr g.M H1 (withD g A).M H'' := Tr.of fun b u n e => ⟨x b u (by rw [upd_ne (ne_of_none e hA)]; exact e) (fun h => n (res_M h.res)) (ne_of_none e hA), fun h => (withD_M.mp h).elim n (ne_of_none e hA)⟩
    exact ⟨fun _ _ e => e, r.tr tr⟩
section
variable {X : Cx} {e elt tg iter : Expr} {ifs : List Expr} {scope : Scope} {own : List (Str × Nat)} {pos : Pos} {is : List Nat} {ti : TDI} {tgd : TDG} {tt : TDT} {te : TDE}
theorem di_peek (he : PE X e (lP te)) : DIp X tg e (diSeq te) := ⟨_, pi_any he, fun g σ H Qd R s w k => ⟨g, _, s, w, fun d v H1 w1 x1 s1 r1 => by
  obtain ⟨ds, e1, q⟩ := w1
  rcases r1 with r1 | ⟨a, rfl, ho, hn, r1⟩
  · cases r1 <;> simp [itemsD] at e1
    · rename_i z
      subst e1
      exact .inr (.inr ⟨_, rfl, k _ _ H1 q x1 s1 fun A o hA => (Wk.str z).A hA⟩)
    · rename_i h n l
      subst e1
      exact .inl ⟨_, _, rfl, h, k _ _ H1 q x1 s1 fun A o hA => (Wk.list h n l).A hA⟩
    · rename_i h n l
      subst e1
      exact .inr (.inl ⟨_, _, rfl, h, k _ _ H1 q x1 s1 fun A o hA => (Wk.tup h n l).A hA⟩)
  · cases r1 <;> simp [itemsD] at e1
    rename_i h l
    subst e1
    exact .inl ⟨_, _, rfl, h, k _ _ H1 q x1 s1 fun A o hA => WkA.own h hn.2 l hA⟩⟩⟩
theorem lc_impP {wi : TI} {vs : List Nat} (hw : WalkP ti wi) (hv : ∀ j ∈ is, j ∈ vs) {σ : St} {H : Hp} {Q : VK} (h : lF (dLc ti tgd tt te vs) σ H Q) : tLc wi (lG is tgd) (lT tt) (lE te) vs σ H Q := by
  obtain ⟨g, Qd, s, w, k⟩ := h
  refine hw g σ H _ _ s w fun ds J H1 w1 x1 s1 wk A hA => ?_
  have hr : ¬ resB g.z A := fun h => s1.fresh hA (res_M h)
  have h0 : g.H0 A = none := s1.keep.none_of hA fun h => hr h.res
  exact lc_gen (g := withD g A) (B := lcB A (lT tt) (lE te)) (fB := lcF tt te) (rs0 := []) (s1.withD hA) (.inr rfl) h0 hr (wk A _ hA) hv 1 (lcB_ok (g := withD g A) (.inr rfl) hr) upd_same .nil (by simpa using w1.1) w1.2
    fun H2 xs2 r x b ea l _ q => lc_end s1 x1 hA x b ea l q k
theorem df_lcP (hi : DIp X tg iter ti) (hN : X.N.Nodup) (ok : BlkOk X.N X.env.scope scope own) (hg : BlkA X scope fun Y => PG Y tg (lG is tgd)) (ht : BlkA X scope fun Y => PTs Y ifs (lT tt)) (he : BlkA X scope fun Y => PE Y elt (lE te))
    (hv : ∀ j ∈ is, j ∈ own.map (·.2) := by decide) (hc : X.calm = true := by rfl) (hs : ∀ x, foldedSetIterable iter X.env x = pure x := by intro _; rfl) : PE X (.ListComp elt [⟨tg, iter, ifs, 0⟩] scope pos) (lF (dLc ti tgd tt te (own.map (·.2)))) := by
  obtain ⟨wi, hpi, hw⟩ := hi
  exact PE.imp (pe_lc hc hN hpi ok hg ht he hs) fun σ H Q h => lc_impP hw hv h
theorem ds_setLcP {i : Nat} {y : Str} {py spos : Pos} (hi : DIp X tg iter ti) (hN : X.N.Nodup) (hy : X.N[i]? = some y) (hyl : X.env.scope.names.lookup y = some .local) (hsw : swapsWith (.ListComp elt [⟨tg, iter, ifs, 0⟩] scope pos) (some (.Name y py)) spos.line X.env = pure true) (ok : BlkOk X.N X.env.scope scope own) (hg : BlkA X scope fun Y => PG Y tg (lG is tgd)) (ht : BlkA X scope fun Y => PTs Y ifs (lT tt)) (he : BlkA X scope fun Y => PE Y elt (lE te))
    (hv : ∀ j ∈ is, j ∈ own.map (·.2) := by decide) (hc : X.calm = true := by rfl) (hs : ∀ x, foldedSetIterable iter X.env x = pure x := by intro _; rfl) : PS X (.Assign [.Name y py] (.ListComp elt [⟨tg, iter, ifs, 0⟩] scope pos) spos) (lS (dsSet i (dLc ti tgd tt te (own.map (·.2))))) := by
  obtain ⟨wi, hpi, hw⟩ := hi
  exact PS.imp (ps_setLc hc hN hy hyl hsw hpi ok hg ht he hs) fun D σ H ⟨g, De, s, w, l⟩ => lc_impP hw hv ⟨g, _, s, w, fun d a H1 w1 x1 s1 hn nm o => l.nx g.ow _ _ H1 (s1.setVal (o.keepE nm)) w1⟩
theorem ds_ownLcP {i : Nat} {y : Str} {py spos : Pos} (hi : DIp X tg iter ti) (hN : X.N.Nodup) (hy : X.N[i]? = some y) (hyl : X.env.scope.names.lookup y = some .local) (hsw : swapsWith (.ListComp elt [⟨tg, iter, ifs, 0⟩] scope pos) (some (.Name y py)) spos.line X.env = pure true) (ok : BlkOk X.N X.env.scope scope own) (hg : BlkA X scope fun Y => PG Y tg (lG is tgd)) (ht : BlkA X scope fun Y => PTs Y ifs (lT tt)) (he : BlkA X scope fun Y => PE Y elt (lE te))
    (hv : ∀ j ∈ is, j ∈ own.map (·.2) := by decide) (hc : X.calm = true := by rfl) (hs : ∀ x, foldedSetIterable iter X.env x = pure x := by intro _; rfl) : PS X (.Assign [.Name y py] (.ListComp elt [⟨tg, iter, ifs, 0⟩] scope pos) spos) (lS (dsOwn i (dLc ti tgd tt te (own.map (·.2))))) := by
  obtain ⟨wi, hpi, hw⟩ := hi
  exact PS.imp (ps_setLc hc hN hy hyl hsw hpi ok hg ht he hs) fun D σ H ⟨g, De, s, w, l⟩ => lc_impP hw hv ⟨g, _, s, w, fun d a H1 w1 x1 s1 hn nm o => l.nx _ _ _ H1 (s.setOwn x1 s1.bag hn nm o) w1⟩
end
end L2.DL


set_option Elab.async false
set_option linter.all false
set_option maxRecDepth 100000
set_option maxHeartbeats 4000000
namespace L2.DL
open PySem PySem.Spec PyProof.Rows
/-! ### instances: fields -/
def getF : List Str → List D → Str → Option D
  | n :: ns, v :: vs, f => if n = f then some v else getF ns vs f
  | _, _, _ => none
theorem getF_rp {z : Bz} {M : MS} {H : Hp} {f : Str} {d : D} : ∀ {fs : List (Str × V)} {ds : List D}, RpL z M H (fs.map fun p => p.2) ds → getF (fs.map fun p => p.1) ds f = some d → ∃ v, fs.lookup f = some v ∧ Rp z M H v d
  | [], _, .nil, h => by simp [getF] at h
  | (n, v) :: fs, _, .cons a b, h => by
    simp only [List.map_cons, getF] at h
    by_cases c : n = f
    · subst c
      rw [if_pos rfl] at h
      cases h
      exact ⟨v, by simp [List.lookup], a⟩
    · rw [if_neg c] at h
      obtain ⟨v', e, r⟩ := getF_rp b h
      refine ⟨v', ?_, r⟩
      rw [List.lookup_cons, beq_eq_false_iff_ne.mpr (fun q => c q.symm)]
      exact e
theorem getF_no {f : Str} : ∀ {fs : List (Str × V)}, f ∉ (fs.map fun p => p.1) → fs.lookup f = none
  | [], _ => rfl
  | (n, v) :: fs, h => by
    simp only [List.map_cons, List.mem_cons, not_or] at h
    rw [List.lookup_cons, beq_eq_false_iff_ne.mpr h.1]
    exact getF_no h.2
def putN (f : Str) : List Str → List Str
  | [] => [f]
  | n :: ns => if n = f then n :: ns else n :: putN f ns
def putV (f : Str) (d : D) : List Str → List D → List D
  | n :: ns, v :: vs => if n = f then d :: vs else v :: putV f d ns vs
  | _, _ => [d]
theorem putF_names (f : Str) (v : V) : ∀ fs : List (Str × V), (putF f v fs).map (fun p => p.1) = putN f (fs.map fun p => p.1)
  | [] => rfl
  | (n, u) :: fs => by
    rw [putF.eq_2, List.map_cons, putN]
    by_cases c : n = f
    · rw [if_pos c, if_pos c]; rfl
    · rw [if_neg c, if_neg c, List.map_cons, putF_names f v fs]
theorem putF_vals {z : Bz} {M : MS} {H : Hp} {f : Str} {v : V} {d : D} (r : Rp z M H v d) : ∀ {fs : List (Str × V)} {ds : List D}, RpL z M H (fs.map fun p => p.2) ds → RpL z M H ((putF f v fs).map fun p => p.2) (putV f d (fs.map fun p => p.1) ds)
  | [], _, .nil => .cons r .nil
  | (n, u) :: fs, _, .cons a b => by
    rw [putF.eq_2, List.map_cons, putV]
    by_cases c : n = f
    · rw [if_pos c, if_pos c]; exact .cons r b
    · rw [if_neg c, if_neg c]; exact .cons a (putF_vals r b)
/-- an instance, read -/
theorem Pk.ins {g : Gh} {H : Hp} {v : V} {C : Addr} {ns : List Str} {vs : List D} (h : Pk g H v (.ins C ns vs)) : ∃ a dx fs, v = .ref a ∧ H a = some (.ins C dx fs) ∧ (∀ (f : Str) (d : D), f ≠ ("" : Str) → getF ns vs f = some d → ∃ u, fs.lookup f = some u ∧ Rp g.z g.M H u d) ∧ ∀ f : Str, f ∉ ns → fs.lookup f = none := by
  have key : ∀ (fs : List (Str × V)) (ds : List D) (a : Addr), RpL g.z g.M H (fs.map fun p => p.2) ds → (∀ (f : Str) (d : D), f ≠ ("" : Str) → getF ("" :: fs.map fun p => p.1) (.raw (.ref a) :: ds) f = some d → ∃ u, fs.lookup f = some u ∧ Rp g.z g.M H u d) ∧ ∀ f : Str, f ∉ (("" : Str) :: fs.map fun p => p.1) → fs.lookup f = none := fun fs ds a l =>
    ⟨fun f d hf e => getF_rp l (by rw [getF, if_neg (Ne.symm hf)] at e; exact e), fun f hf => getF_no fun q => hf (List.mem_cons_of_mem _ q)⟩
  rcases h with h | ⟨a, rfl, _, _, h⟩
  · cases h with
    | ins h q n l => exact ⟨_, _, _, rfl, h, fun f d _ e => getF_rp l e, fun f hf => getF_no hf⟩
    | slf h n l => exact ⟨_, _, _, rfl, h, (key _ _ _ l).1, fun f hf => getF_no fun q => hf (List.mem_cons_of_mem _ q)⟩
  · cases h with
    | ins h q l => exact ⟨_, _, _, rfl, h, fun f d _ e => getF_rp l e, fun f hf => getF_no hf⟩
    | slf h l => exact ⟨_, _, _, rfl, h, (key _ _ _ l).1, fun f hf => getF_no fun q => hf (List.mem_cons_of_mem _ q)⟩
def dFld (C : Addr) (f : Str) (te : TDE) : TDE := fun S Q => te S fun d => ∃ ns vs v, d = .ins C ns vs ∧ getF ns vs f = some v ∧ Q v
section
variable {X : Cx} {e o : Expr} {es : List Expr} {te to : TDE} {ts : TDA} {C f i' : Addr} {x m : Str} {fl : Str} {pos p apos pos' : Pos} {i n k : Nat} {fd : FuncData} {ps : List Str} {tf : TDF} {dvs : List V} {dds : List D}
theorem de_fld (he : PE X e (lP te)) (hc : Cls X.K C) (hn : NoAttr X.K C fl) (hf : fl ≠ ("" : Str) := by decide) (hb : attributeBase e fl X.env (eval e X.env) = eval e X.env := by rfl) : PE X (.Attribute e fl pos) (lE (dFld C fl te)) := PE.imp (pe_fld he hb) fun σ H Q ⟨g, Qd, s, w, k⟩ =>
  ⟨g, _, s, w, fun d v H1 w1 x1 s1 r1 => by
    obtain ⟨ns, vs, d1, rfl, e1, q⟩ := w1
    obtain ⟨a, dx, fs, rfl, h, hg, _⟩ := Pk.ins r1
    obtain ⟨u, e2, r2⟩ := hg _ _ hf e1
    exact ⟨a, C, dx, fs, u, rfl, h, hc, hn, e2, k d1 u H1 q x1 s1 r2⟩⟩
/-- self.f = e, of the new self -/
def dsFld (i : Nat) (C : Addr) (fl : Str) (te : TDE) : TDS := fun De S => ∃ ns vs a, S[i]? = some (.own (.ins C ("" :: ns) (.raw (.ref a) :: vs))) ∧ te S fun d => ns.length < 1000 ∧ De.nx (S.set i (.own (.ins C ("" :: putN fl ns) (.raw (.ref a) :: putV fl d ns vs))))
theorem ow_slf {z : Bz} {M : MS} {H : Hp} {a b C : Addr} {ns : List Str} {vs : List D} (h : Ow z M H a (.ins C ("" :: ns) (.raw (.ref b) :: vs))) : ∃ dx fs, b = a ∧ H a = some (.ins C dx fs) ∧ ns = (fs.map fun p => p.1) ∧ RpL z M H (fs.map fun p => p.2) vs := by
  generalize hd : D.ins C ("" :: ns) (.raw (.ref b) :: vs) = d at h
  cases h with
  | lst => cases hd
  | dicK => cases hd
  | dicT => cases hd
  | ins e q l =>
    simp only [D.ins.injEq] at hd
    exact (q (by rw [← hd.2.1]; simp)).elim
  | slf e l =>
    simp only [D.ins.injEq, List.cons.injEq, D.raw.injEq, V.ref.injEq, true_and] at hd
    obtain ⟨rfl, rfl, rfl, rfl⟩ := hd
    exact ⟨_, _, rfl, e, rfl, l⟩
theorem ds_fld (ho : PE X o (tVar i)) (he : PE X e (lE te)) (hc : Cls X.K C) (hn : NoAttr X.K C fl) (hs : swapsWith e (some (.Attribute o fl pos')) pos.line X.env = pure false := by rfl) : PS X (.Assign [.Attribute o fl pos'] e pos) (lS (dsFld i C fl te)) :=
  PS.imp (ps_fld ho he hs) fun D σ H ⟨g, De, s, ⟨ns, vs, b, e1, w⟩, l⟩ => ⟨g, _, s, w, fun d v H1 w1 x1 s1 r1 => by
    obtain ⟨a, ea, eo, o1⟩ := s1.own i _ e1
    obtain ⟨dx, fs, rfl, h1, rfl, l1⟩ := ow_slf o1
    refine ⟨.ref b, ea, b, C, dx, fs, rfl, h1, hc, hn, by have := w1.1; rwa [List.length_map] at this, ?_⟩
    have tr : Tr g.M H1 g.M (upd H1 b (HO.ins C dx (putF fl v fs))) := tr_mut (.inr (.inr ⟨i, eo⟩)) _
    refine l.nx g.ow _ σ _ (s1.mutate e1 ea (.inr rfl) ?_) w1.2
    have := Ow.slf (z := g.z) (M := g.M) (H := upd H1 b (.ins C dx (putF fl v fs))) (a := b) (C := C) (dx := dx) (fs := putF fl v fs) upd_same ((putF_vals r1 l1).tr tr)
    rw [putF_names] at this
    exact this⟩
/-- the contract of __init__: the heap ahead of the new object is the base -/
def spI (C : Addr) (n : Nat) (tf : TDF) : Sp := fun vs H Q _ => ∃ (H1 : Hp) (x dx : Addr) (us : List V) (ds : List D) (z : Bz) (M : MS) (Qd : D → Prop), vs = .ref x :: us ∧ us.length = n ∧ H = upd (upd H1 dx (.own x)) x (.ins C dx []) ∧ H1 x = none ∧ H1 dx = none ∧ dx ≠ x ∧ Amb z M H1 ∧ RpL z M H1 us ds ∧ tf ds Qd ∧ ∀ ns vs H', Qd (.ins C ns vs) → Ext z H1 H' → BagOk z H' → OwF z M H' x (.ins C ns vs) → Q .non H'
theorem df_make (M : Mk X.K C f) (F : FnOk X.prog X.w X.K X.mg X.base CX0 k f fd ps (spI C n tf)) (hr : Room (k + 1) X.A) (hm : X.mg x = some (.ref C)) (hb : ∃ dsv, Vals dvs dsv ∧ Binds X.K fd ps dsv) (hdd : ∀ z M H, RpL z M H dvs dds) (ha : PA X (e :: es) (lA ts)) (hn : ∀ ds Q, tf ds Q → ds.length = n) (hg : Gl X x := by rfl)
    (hdb : (x == ("__debug__" : Str)) = false := by decide) (he : starEach (e :: es) X.env = (false, eval e X.env) :: starEach es X.env := by rfl) (hpl : (backTo pos (starEach es X.env)).any (·.1) = false := by rfl) : PE X (.Call (.Name x p) (e :: es) [] pos) (lF (dFn tf dds ts)) := by
  obtain ⟨dsv, hd, hb⟩ := hb
  exact PE.imp (pe_make M F hr hg hm hb hd pass0 ha hdb he hpl) fun σ H Q ⟨g, Qd, s, w, kk⟩ =>
    ⟨g, _, s, w, fun ds vs H1 w1 x1 s1 r1 y dx hy hdx ne => by
      have r2 := r1.append (hdd g.z g.M H1)
      exact ⟨H1, y, dx, vs ++ dvs, _, g.z, g.M, Qd, rfl, by rw [r2.length]; exact hn _ _ w1, rfl, hy, hdx, ne, s1.amb, r2, w1, fun ns us H' q x b o => ⟨rfl, kk (.ins C ns us) y H' q (x1.trans x) (s1.ext x b) (x1.none_of hy fun h => s1.fresh hy (res_M h.res)) (s1.fresh hy) o⟩⟩⟩
def dMeth (C : Addr) (m : Str) (tf : TDF) (dds : List D) (to : TDE) (ts : TDA) : TDE := fun S Q => to S fun d => ∃ ns vs, d = .ins C ns vs ∧ m ∉ ns ∧ ts S fun ds => tf (d :: (ds ++ dds)) Q
theorem de_meth (ho : PE X o (lE to)) (hc : Cls X.K C) (hm : Meth X.K C m f) (F : FnOk X.prog X.w X.K X.mg X.base CX0 k f fd ps (spE n tf)) (hr : Room k X.A) (hb : ∃ dsv, Vals dvs dsv ∧ Binds X.K fd ps dsv) (hdd : ∀ z M H, RpL z M H dvs dds) (ha : PA X (e :: es) (lA ts)) (hn : ∀ ds Q, tf ds Q → ds.length = n) {pl : Sem Bool}
    (he : starEach (e :: es) X.env = (false, eval e X.env) :: starEach es X.env := by rfl) (hpl : (backTo pos (starEach es X.env)).any (·.1) = false := by rfl)
    (hev : eval (.Call (.Attribute o m apos) (e :: es) [] pos) X.env = (do let ov ← eval o X.env; standAt apos.atName; let fs ← holding [ov] (getMethod ov m pl); callWith pos fs.1 fs.2 (backTo pos (starEach (e :: es) X.env)) (backToKw pos (keywordEach [] X.env))) := by rfl) :
    PE X (.Call (.Attribute o m apos) (e :: es) [] pos) (lE (dMeth C m tf dds to ts)) := by
  obtain ⟨dsv, hd, hb⟩ := hb
  exact PE.imp (pe_meth ho hc hm F hr hb hd pass0 ha he hpl hev) fun σ H Q ⟨g, Qd, s, w, kk⟩ =>
    ⟨g, _, s, w, fun d v H1 w1 x1 s1 r1 => by
      obtain ⟨ns, vs, rfl, hmn, w2⟩ := w1
      obtain ⟨a, dx, fs, rfl, h, _, hno⟩ := Pk.ins (.inl r1)
      refine ⟨a, dx, fs, rfl, h, hno m hmn, g, _, s1, w2, fun ds us H2 w3 x2 s2 r2 => ?_⟩
      have r3 : RpL g.z g.M H2 (.ref a :: (us ++ dvs)) (.ins C ns vs :: (ds ++ dds)) := .cons (r1.ext x2) (r2.append (hdd g.z g.M H2))
      exact ⟨by rw [r3.length]; exact hn _ _ w3, g.z, g.M, _, Qd, s2.amb, r3, w3, fun d v H' q x b rp => kk d v H' q ((x1.trans x2).trans x) (s2.ext x b) rp⟩⟩
end
theorem ok_I {P : Program} {w : World} {K : PySem.W.Frag} {mg : Str → Option Value} {base : Heap} {x qual : Str} {st : Stmt} {f C : Addr} {fd : FuncData} {N ps : List Str} {k n : Nat} {tf : TDF} {dfv : List V} {kwv : List (Str × V)} (F : FunD K x qual (defArgs st) (defBody st) (defScope st) dfv kwv f fd) (S : FnScope N ps (defScope st)) (hn : ps.length = n + 1 := by rfl)
    (hb : ∀ (cdv : Value) (A : Around) (outer : List Env) (s : Shared) (H : Hp) (E : XK), Room k (A.deeper (envOfC qual (defScope st) s.heap.objs.size f cdv)) → ∃ t : TDS, PSs (cxOf CX0 P w K mg base N qual (defScope st) f cdv A outer s H E).nox (defBody st) (lS t) ∧
      ∀ ds Qd y, ds.length = n → tf ds Qd → t { nx := fun S => ∃ ns vs, S[0]? = some (.own (.ins C ("" :: ns) (.raw (.ref y) :: vs))) ∧ ("" : Str) ∉ ns ∧ Qd (.ins C ns vs), rt := fun _ => False, rf := fun _ => False } (.own (.ins C [""] [.raw (.ref y)]) :: (ds.map .val ++ List.replicate (N.length - (n + 1)) .no))) : FnOk P w K mg base CX0 (k + 1) f fd ps (spI C n tf) := by
  refine F.ok S (fun vs H Q E h => ?_) (fun cdv A outer s H vs Q E hr h => ?_)
  · obtain ⟨H1, x, dx, us, ds, z, M, Qd, rfl, hl, _⟩ := h
    rw [hn]; simp [hl]
  · obtain ⟨H1, y, dx, us, ds, z, M, Qd, rfl, hl, rfl, hy, hdx, ne, Am, r, t, k⟩ := h
    obtain ⟨tt, hp, hw⟩ := hb cdv A outer s _ E hr
    have hM : Mo M z (fun _ => none) = M := mo_none Am.res
    have hd : ds.length = n := by rw [← r.length]; exact hl
    subst hd
    have s0 : Stt (gh0 z M H1 N (.non :: ds)) (start N (.non :: us)) H1 := stt0 Am (.cons .non r)
    have hgM : (gh0 z M H1 N (.non :: ds)).M = M := hM
    have nM : ¬ M y := fun h => (Am.alive y h).ne hy
    have x1 : Ext z H1 (upd (upd H1 dx (.own y)) y (.ins C dx [])) := fun b o e _ => by rw [upd_ne (ne_of_none e hy), upd_ne (ne_of_none e hdx)]; exact e
    have b1 : BagOk z (upd (upd H1 dx (.own y)) y (.ins C dx [])) := Am.bag.grow fun b o e => by rw [upd_ne (ne_of_none e hy), upd_ne (ne_of_none e hdx)]; exact e
    have s1 := s0.setOwn (i := 0) (d := .ins C [""] [.raw (.ref y)]) (a := y) x1 b1 hy (by rw [hgM]; exact nM) (.slf upd_same .nil)
    refine ⟨_, PSs.nox hp, _, _, s1, hw ds Qd y rfl t, ?_⟩
    refine ⟨fun ow S σ H' s' q => ?_, fun _ _ _ _ _ q => q.elim, fun _ _ _ _ _ q => q.elim, fun d v H' q => q.elim, fun d a H' q => q.elim⟩
    obtain ⟨ns, vs, e1, nn, q⟩ := q
    obtain ⟨a, ea, eo, o1⟩ := s'.own 0 _ e1
    obtain ⟨dx', fs, rfl, h1, rfl, l1⟩ := ow_slf o1
    refine k _ _ H' q s'.keep s'.bag (.ins h1 nn (l1.tr (Tr.of fun b u nb e => ⟨e, fun h => ?_⟩)))
    rcases h with h | h
    · exact nb (.inl h)
    · exact nb (.inr (.inr ⟨0, by rw [h]; exact eo⟩))
end L2.DL


set_option Elab.async false
set_option linter.all false
set_option maxRecDepth 100000
set_option maxHeartbeats 4000000
namespace L2.DL
open PySem PySem.Spec PyProof.Rows
/-! ### operators of own classes -/
theorem instAt_of {P : Program} {w : World} {H : Hp} {h : Heap} {a C dx : Addr} {fs : List (Str × V)} (k : HOk P w H h) (e : H a = some (.ins C dx fs)) : ∃ ox od, PySem.W.InstAt h a ox C od := by
  obtain ⟨mA, O, _⟩ := ins_get k e
  obtain ⟨o, es, ep, ho, _⟩ := O.ns
  exact ⟨_, some o, O.obj, rfl, rfl, ho⟩
theorem back_of {X : Cx} {pins : List (Addr × Obj)} {σ : St} {Q : VK} {v : Value} {s : Shared} (h : EP X pins σ Q v s) : PySem.W.CmpBack (EP X pins σ Q) v s := by
  obtain ⟨x, H, I, r, q⟩ := h
  have h' : EP X pins σ Q v s := ⟨x, H, I, r, q⟩
  cases v <;> first | exact h' | (cases x <;> (try (exact (nomatch r))) <;> (try (obtain ⟨_, r⟩ := r)) <;> cases r)
structure OpL (K : PySem.W.Frag) (C : Addr) (op : Operator) (T : String) (f : Addr) : Prop where
  first : PySem.W.selfFirst K C = true
  at_ : PySem.W.findIn K (.ref C) (PySem.dunder op.info.snd) = some (some (.ref f))
  fn : PySem.W.isFn K (.ref f) = true
  refl : ∃ rc, PySem.W.findIn K (.ref C) (dunderR op.info.snd) = some rc ∧ (rc = none ∨ ∃ g, rc = some (.ref g))
  tl : ∃ fo, PySem.W.findIn K (.type T) (PySem.dunder op.info.snd) = some fo
  tr : ∃ ro, PySem.W.findIn K (.type T) (dunderR op.info.snd) = some ro
  sub : PySem.W.subIn K (.type T) (.ref C) = some false
section
variable {X : Cx} {C f : Addr} {fd : FuncData} {ps : List Str} {op : Operator} {tf : TDF} {k : Nat} {a b : Expr} {ta tb : TDE} {pos : Pos}
theorem op_inst (o : OpL X.K C op "int" f) (F : FnOk X.prog X.w X.K X.mg X.base CX0 k f fd ps (spE 2 tf)) (hr : Room k X.A) (hb : Binds X.K fd ps []) : OpR X (binaryOp op) (fun x y H Q => ∃ a dx fs i, x = .ref a ∧ y = .int i ∧ H a = some (.ins C dx fs) ∧ spE 2 tf [x, y] H Q E0) := by
  intro pins s σ H x y v u Q I rx ry h
  obtain ⟨a, dx, fs, i, rfl, rfl, e, w⟩ := h
  obtain rfl : v = Value.ref a := rx
  have ry' := ry
  obtain ⟨t, rfl⟩ := ry
  obtain ⟨ox, od, ia⟩ := instAt_of I.hok e
  obtain ⟨m, fr⟩ := I.fr
  obtain ⟨rc, r1, r2⟩ := o.refl
  obtain ⟨fo, t1⟩ := o.tl
  obtain ⟨ro, t2⟩ := o.tr
  refine PySem.W.ksp_binT (T := "int") fr I.ok.mod.kin ia rfl o.first o.at_ o.fn r1 r2 t1 t2 o.sub ?_
  exact thn (run_fn (dvs := []) (vs := [.ref a, .int i]) F hr hb .nil pass0 I (.cons (show RelV (.ref a) (.ref a) from rfl) (.cons ry' .nil)) w) fun v s' h => back_of h
def dOp2 (C : Addr) (tf : TDF) (ta tb : TDE) : TDE := fun S Q => ta S fun d => tb S fun e => (∃ ns vs, d = .ins C ns vs) ∧ (∃ i, e = .int i) ∧ tf [d, e] Q
theorem de_opL (ha : PE X a (lE ta)) (hb : PE X b (lE tb)) (o : OpL X.K C op "int" f) (F : FnOk X.prog X.w X.K X.mg X.base CX0 k f fd ps (spE 2 tf)) (hr : Room k X.A) (hbn : ∃ dsv, Vals [] dsv ∧ Binds X.K fd ps dsv) : PE X (.BinOp a op b pos) (lE (dOp2 C tf ta tb)) := by
  obtain ⟨dsv, hv, hbn⟩ := hbn
  cases hv
  exact PE.imp (pe_op (op_inst o F hr hbn) ha hb) fun σ H Q ⟨g, Qd, s, w, kk⟩ =>
    ⟨g, _, s, w, fun d v H1 w1 x1 s1 r1 => ⟨g, _, s1, w1, fun e u H2 w2 x2 s2 r2 => by
      obtain ⟨⟨ns, vs, rfl⟩, ⟨i, rfl⟩, w3⟩ := w2
      have r1' := r1.ext x2
      obtain ⟨a, dx, fs, rfl, h, _⟩ := Pk.ins (.inl r1')
      cases r2
      exact ⟨a, dx, fs, i, rfl, rfl, h, rfl, g.z, g.M, _, Qd, s2.amb, .cons r1' (.cons (.int i) .nil), w3, fun d v H' q x b rp => kk d v H' q ((x1.trans x2).trans x) (s2.ext x b) rp⟩⟩⟩
end
/-- text + instance, by __radd__ -/
structure OpRA (K : PySem.W.Frag) (C : Addr) (f : Addr) : Prop where
  first : PySem.W.selfFirst K C = true
  no : PySem.W.findIn K (.ref C) "__add__" = some none
  at_ : PySem.W.findIn K (.ref C) "__radd__" = some (some (.ref f))
  fn : PySem.W.isFn K (.ref f) = true
  tl : ∃ fo, PySem.W.findIn K (.type "str") "__add__" = some fo ∧ isSeqSlot fo = true
  tr : PySem.W.findIn K (.type "str") "__radd__" = some none
theorem fills_R {K : PySem.W.Frag} {C f : Addr} {M : Model} {h : Heap} (o : OpRA K C f) (X : K.In h) : PySem.W.Looks M h (fillsNumberSlot (.ref C) "add") true := by
  obtain ⟨cd, rest, e1, e2⟩ := PySem.W.ksp_first o.first
  intro A Q E s ex q
  have Xs : K.In s.heap := fun b ob hb => ex b ob (X b ob hb)
  unfold fillsNumberSlot
  apply wpAny_bind
  unfold mroOf
  apply wpAny_bind
  refine PySem.W.looks_clsIn Xs e1 A _ E s (fun _ _ e => e) ?_
  refine wpAny_pure ?_
  rw [e2]
  have d1 : PySem.dunder "add" = ("__add__" : Str) := by decide
  have d2 : dunderR "add" = ("__radd__" : Str) := by decide
  rw [d1, d2]
  simp only [List.anyM]
  apply wpAny_bind
  apply wpAny_bind
  apply wpAny_bind
  refine PySem.W.looks_findIn Xs o.no A _ E s (fun _ _ e => e) ?_
  refine wpAny_pure ?_
  apply wpAny_bind
  apply wpAny_bind
  refine PySem.W.looks_findIn Xs o.at_ A _ E s (fun _ _ e => e) ?_
  refine wpAny_pure ?_
  refine wpAny_pure ?_
  exact wpAny_pure q
theorem radd_of {prog : Program} {w : World} {A : Around} {E : Value → Shared → Prop} {s : Shared} {K : PySem.W.Frag} {x C f : Addr} {ox : Obj} {od : Option Obj} {z : Str} {t : Tok} {Q : Value → Shared → Prop} (X : K.In s.heap) (ia : PySem.W.InstAt s.heap x ox C od) (o : OpRA K C f)
    (h : wpAny (model prog w) A (call (.ref f) [.ref x, .str z t]) (PySem.W.CmpBack Q) E s) : wpAny (model prog w) A (binaryOp .Add (.str z t) (.ref x)) Q E s := by
  have d1 : PySem.dunder "add" = ("__add__" : Str) := by decide
  have d2 : dunderR "add" = ("__radd__" : Str) := by decide
  unfold binaryOp
  apply wpAny_holding
  show wpAny (model prog w) A (binaryOp1 "add" (.str z t) (.ref x) >>= _) Q E s
  apply wpAny_bind
  unfold binaryOp1
  rw [d1, d2]
  refine wpAny_bind (wpAny_pure ?_)
  refine wpAny_bind (wpAny_typeOf_ref ia.at_ ?_)
  rw [ia.cls]
  apply wpAny_bind
  obtain ⟨fo, t1, t2⟩ := o.tl
  refine PySem.W.ksp_fillsT (nm := "add") (T := "str") X (by rw [d1]; exact t1) (by rw [d2]; exact o.tr) A _ E s (fun _ _ e => e) ?_
  rw [t2]
  have hb : (fo.isSome && !true || (none : Option Value).isSome && !isSeqSlot none) = false := by cases fo <;> rfl
  have hne : (Value.type "str" == Value.ref C) = false := rfl
  simp only [hb, hne, Bool.false_and, Bool.false_eq_true, if_false, Bool.not_false, Bool.and_true]
  apply wpAny_bind
  refine fills_R o X A _ E s (fun _ _ e => e) ?_
  simp only [if_true]
  refine wpAny_bind (wpAny_pure ?_)
  simp only [Bool.false_eq_true, if_false]
  apply wpAny_bind
  refine thn (PySem.W.ksp_try X ia o.at_ o.fn h) fun r s' hq => ?_
  obtain ⟨v, rfl, q⟩ := hq
  apply wpAny_bind
  refine wpAny_rule ?_
  refine wpAny_pure ?_
  exact wpAny_pure q
/-! ### text + instance, instance[i], instance == instance -/
section
variable {X : Cx} {C f : Addr} {fd : FuncData} {ps : List Str} {tf : TDF} {k : Nat} {a b : Expr} {ta tb : TDE} {pos : Pos}
theorem run_in1 {CX : CXT} {sp : Sp} {dvs : List V} {ds : List Value} {E : XK} {pins : List (Addr × Obj)} {σ : St} {H : Hp} {s : Shared} {Q : VK} {us : List Value} {vs : List V} (F : FnOk X.prog X.w X.K X.mg X.base CX k f fd ps sp) (hr : Room (k + 1) X.A) (hb : Binds X.K fd ps ds) (hd : Vals dvs ds) (hx : Passes CX X E) (I : L2.Inv X pins σ H s) (r : Vals vs us) (h : sp (vs ++ dvs) H Q E) :
    wpAny (model X.prog X.w) X.A.in1 (call (.ref f) us) (EP X pins σ Q) X.xe s := by
  have r2 := Vals.append r hd
  have hl : (us ++ ds).length = ps.length := by rw [← r2.length]; exact F.len _ _ _ _ h
  have e := Inv.env0 I
  have hr1 : Room k X.A.in1 := ⟨hr.hd, by have := hr.dp; show X.A.depth + 3 * k + 5 < _; omega, by have := hr.un; show X.A.units + 1 + 16 * k + 200 < _; omega⟩
  refine wpAny_call (codeAny_mono (F.run X.A.in1 X.stack s H ⟨us, []⟩ (us ++ ds) (vs ++ dvs) Q E hr1 ⟨e.frames, e.mod, e.bs, e.bsz, e.funs, e.frf, e.hok, e.bare⟩ (hb s us I.kIn hl) r2 h) fun r s' hq => ?_)
  cases r with
  | error e => exact hx pins σ H s e s' I hq
  | ok fl => cases fl <;> first | exact hq.elim | exact I.after hq
theorem op_radd (o : OpRA X.K C f) (F : FnOk X.prog X.w X.K X.mg X.base CX0 k f fd ps (spE 2 tf)) (hr : Room k X.A) (hb : Binds X.K fd ps []) : OpR X (binaryOp .Add) (fun x y H Q => ∃ a dx fs z, x = .str z ∧ y = .ref a ∧ H a = some (.ins C dx fs) ∧ spE 2 tf [y, x] H Q E0) := by
  intro pins s σ H x y v u Q I rx ry h
  obtain ⟨a, dx, fs, z, rfl, rfl, e, w⟩ := h
  obtain rfl : u = Value.ref a := ry
  have rx' := rx
  obtain ⟨t, rfl⟩ := rx
  obtain ⟨ox, od, ia⟩ := instAt_of I.hok e
  exact radd_of I.kIn ia o (thn (run_fn (dvs := []) (vs := [.ref a, .str z]) F hr hb .nil pass0 I (.cons (show RelV (.ref a) (.ref a) from rfl) (.cons rx' .nil)) w) fun v s' h => back_of h)
def dRadd (C : Addr) (tf : TDF) (ta tb : TDE) : TDE := fun S Q => ta S fun d => tb S fun e => (∃ x, d = .str x) ∧ (∃ ns vs, e = .ins C ns vs) ∧ tf [e, d] Q
theorem de_radd (ha : PE X a (lE ta)) (hb : PE X b (lE tb)) (o : OpRA X.K C f) (F : FnOk X.prog X.w X.K X.mg X.base CX0 k f fd ps (spE 2 tf)) (hr : Room k X.A) (hbn : ∃ dsv, Vals [] dsv ∧ Binds X.K fd ps dsv) : PE X (.BinOp a .Add b pos) (lE (dRadd C tf ta tb)) := by
  obtain ⟨dsv, hv, hbn⟩ := hbn
  cases hv
  exact PE.imp (pe_op (op_radd o F hr hbn) ha hb) fun σ H Q ⟨g, Qd, s, w, kk⟩ =>
    ⟨g, _, s, w, fun d v H1 w1 x1 s1 r1 => ⟨g, _, s1, w1, fun e u H2 w2 x2 s2 r2 => by
      obtain ⟨⟨x, rfl⟩, ⟨ns, vs, rfl⟩, w3⟩ := w2
      have r1' := r1.ext x2
      obtain ⟨a, dx, fs, rfl, h, _⟩ := Pk.ins (.inl r2)
      cases r1
      exact ⟨a, dx, fs, _, rfl, rfl, h, rfl, g.z, g.M, _, Qd, s2.amb, .cons r2 (.cons (.str x) .nil), w3, fun d v H' q x b rp => kk d v H' q ((x1.trans x2).trans x) (s2.ext x b) rp⟩⟩⟩
structure GetI (K : PySem.W.Frag) (C f : Addr) : Prop where
  at_ : PySem.W.findIn K (.ref C) "__getitem__" = some (some (.ref f))
  fi : PySem.W.fnIn K f = true
  fn : PySem.W.isFn K (.ref f) = true
def dGet (C : Addr) (tf : TDF) (ta tb : TDE) : TDE := fun S Q => ta S fun d => tb S fun e => (∃ ns vs, d = .ins C ns vs) ∧ tf [d, e] Q
theorem de_get (ha : PE X a (lE ta)) (hb : PE X b (lE tb)) (o : GetI X.K C f) (F : FnOk X.prog X.w X.K X.mg X.base CX0 k f fd ps (spE 2 tf)) (hr : Room (k + 1) X.A) (hbn : ∃ dsv, Vals [] dsv ∧ Binds X.K fd ps dsv) (hs : ∀ v i, subscripted b true v i = runValue (Code.builtin "lifetime.subscript" { pos := [v, i] }) := by intro _ _; rfl) : PE X (.Subscript a b pos) (lE (dGet C tf ta tb)) := by
  obtain ⟨dsv, hv, hbn⟩ := hbn
  cases hv
  constructor
  intro pins s σ H Q I h
  obtain ⟨g, Qd, st, w, kk⟩ := h
  refine PyProof.Rows.Subscript_ (thn (ha.run pins s σ H (fun x H1 => ∃ d, Ext g.z H H1 ∧ Stt g σ H1 ∧ Rp g.z g.M H1 x d ∧ tb g.S fun e => (∃ ns vs, d = .ins C ns vs) ∧ tf [d, e] Qd) I ⟨g, _, st, w, fun d v H1 w1 x1 s1 r1 => ⟨d, x1, s1, r1, w1⟩⟩) fun v s1 hv => ?_)
  obtain ⟨x, H1, I1, rx, d, x1, st1, r1, w1⟩ := hv
  refine thn (hb.run pins s1 σ H1 (fun y H2 => ∃ e, Ext g.z H1 H2 ∧ Stt g σ H2 ∧ Rp g.z g.M H2 y e ∧ (∃ ns vs, d = .ins C ns vs) ∧ tf [d, e] Qd) I1 ⟨g, _, st1, w1, fun e u H2 w2 x2 s2 r2 => ⟨e, x2, s2, r2, w2⟩⟩) fun u s2 hu => ?_
  obtain ⟨y, H2, I2, ry, e, x2, st2, r2, ⟨ns, vs, rfl⟩, w2⟩ := hu
  have r1' := r1.ext x2
  obtain ⟨a, dx, fs, rfl, h, _⟩ := Pk.ins (.inl r1')
  obtain rfl : v = Value.ref a := rx
  obtain ⟨ox, od, ia⟩ := instAt_of I2.hok h
  obtain ⟨m, fr⟩ := I2.fr
  refine PySem.W.sub_K fr I2.ok.mod.kin ia o.at_ o.fi o.fn (run_in1 (dvs := []) (vs := [.ref a, y]) F hr hbn .nil pass0 I2 (.cons (show RelV (.ref a) (.ref a) from rfl) (.cons ry .nil)) ⟨rfl, g.z, g.M, _, Qd, st2.amb, .cons r1' (.cons r2 .nil), w2, fun d v H' q x b rp => kk d v H' q ((x1.trans x2).trans x) (st2.ext x b) rp⟩) (hs _ _)
structure EqI (K : PySem.W.Frag) (C f : Addr) : Prop where
  at_ : PySem.W.findIn K (.ref C) "__eq__" = some (some (.ref f))
  fn : PySem.W.isFn K (.ref f) = true
  nf : PySem.W.notFirst K C (.ref C) = true
theorem op_eqI (o : EqI X.K C f) (F : FnOk X.prog X.w X.K X.mg X.base CX0 k f fd ps (spE 2 tf)) (hr : Room k X.A) (hb : Binds X.K fd ps []) : OpR X (compareOp .Eq) (fun x y H Q => ∃ a dx fs a' dx' fs', x = .ref a ∧ y = .ref a' ∧ H a = some (.ins C dx fs) ∧ H a' = some (.ins C dx' fs') ∧ spE 2 tf [x, y] H Q E0) := by
  intro pins s σ H x y v u Q I rx ry h
  obtain ⟨a, dx, fs, a', dx', fs', rfl, rfl, e, e', w⟩ := h
  obtain rfl : v = Value.ref a := rx
  obtain rfl : u = Value.ref a' := ry
  obtain ⟨ox, od, ia⟩ := instAt_of I.hok e
  obtain ⟨ox', od', ia'⟩ := instAt_of I.hok e'
  obtain ⟨m, fr⟩ := I.fr
  show wpAny (model X.prog X.w) X.A (richCompare .Eq (.ref a) (.ref a')) _ _ _
  refine PySem.W.cmp_K (tb := .ref C) (by have := hr.un; omega) fr I.ok.mod.kin ia (fun A Q E s' ex q => wpAny_typeOf_ref (ex _ _ ia'.at_) (by rw [ia'.cls]; exact q)) o.nf o.at_ o.fn ?_
  exact thn (run_fn (dvs := []) (vs := [.ref a, .ref a']) F hr hb .nil pass0 I (.cons (show RelV (.ref a) (.ref a) from rfl) (.cons (show RelV (.ref a') (.ref a') from rfl) .nil)) w) fun v s' h => back_of h
def dEqI (C : Addr) (tf : TDF) (ta tb : TDE) : TDE := fun S Q => ta S fun d => tb S fun e => (∃ ns vs, d = .ins C ns vs) ∧ (∃ ns vs, e = .ins C ns vs) ∧ tf [d, e] Q
theorem de_eqI (ha : PE X a (lE ta)) (hb : PE X b (lE tb)) (o : EqI X.K C f) (F : FnOk X.prog X.w X.K X.mg X.base CX0 k f fd ps (spE 2 tf)) (hr : Room k X.A) (hbn : ∃ dsv, Vals [] dsv ∧ Binds X.K fd ps dsv) : PE X (.Compare a [.Eq] [b] pos) (lE (dEqI C tf ta tb)) := by
  obtain ⟨dsv, hv, hbn⟩ := hbn
  cases hv
  exact PE.imp (pe_cmpR (op_eqI o F hr hbn) ha hb (nomark _)) fun σ H Q ⟨g, Qd, s, w, kk⟩ =>
    ⟨g, _, s, w, fun d v H1 w1 x1 s1 r1 => ⟨g, _, s1, w1, fun e u H2 w2 x2 s2 r2 => by
      obtain ⟨⟨ns, vs, rfl⟩, ⟨ns', vs', rfl⟩, w3⟩ := w2
      have r1' := r1.ext x2
      obtain ⟨a, dx, fs, rfl, h, _⟩ := Pk.ins (.inl r1')
      obtain ⟨a', dx', fs', rfl, h', _⟩ := Pk.ins (.inl r2)
      exact ⟨a, dx, fs, a', dx', fs', rfl, rfl, h, h', rfl, g.z, g.M, _, Qd, s2.amb, .cons r1' (.cons r2 .nil), w3, fun d v H' q x b rp => kk d v H' q ((x1.trans x2).trans x) (s2.ext x b) rp⟩⟩⟩
end
end L2.DL


set_option Elab.async false
set_option linter.all false
set_option maxRecDepth 100000
set_option maxHeartbeats 4000000
namespace L2.DL
open PySem PySem.Spec PyProof.Rows
/-! ### own classes as values, isinstance, methods of no argument -/
structure IsC (K : PySem.W.Frag) (C : Addr) : Prop where
  cls : Cls K C
  at_ : PySem.W.findIn K (.ref C) "__class__" = some (some (.builtin "object.__class__"))
  sp : PySem.W.specialIn K (.builtin "object.__class__") "__get__" = some (some (.builtin "getset_descriptor.__get__"))
  tk : PySem.W.takesIn K (.builtin "object.__class__") = some true
  mro : PySem.W.mroIn K C (.type "object") = some true
section
variable {X : Cx} {e o a b : Expr} {te to : TDE} {ts : TDA} {C f : Addr} {x m : Str} {pos p apos : Pos} {n k : Nat} {fd : FuncData} {ps : List Str} {tf : TDF} {dvs : List V} {dds : List D}
theorem de_cls (hm : X.mg x = some (.ref C)) (hg : Gl X x := by rfl) (hdb : (x == ("__debug__" : Str)) = false := by decide) : PE X (.Name x pos) (lE (dC (.raw (.ref C)))) := de_C (pe_glob (v := .ref C) hg hm rfl hdb) fun _ _ _ => .raw _
def rIsiC (C : Addr) : RDC
  | [.ins C' _ _, .raw (.ref C'')], Q => (C' = C ∧ C'' = C) ∧ Q (.bl true)
  | _, _ => False
theorem real_isiC {K : PySem.W.Frag} {C : Addr} (c : IsC K C) : RealC (rIsi K) (rIsiC C) := by
  intro g σ H xs ds Qd Q s hx w k
  match ds, w, hx with
  | [.ins C' ns vs, .raw (.ref C'')], w, hx =>
    obtain ⟨⟨e1, e2⟩, q⟩ := w
    subst e1
    subst e2
    obtain ⟨v, v', rfl, h, h'⟩ := hx.two
    obtain ⟨a, dx, fs, rfl, e, _⟩ := Pk.ins h
    obtain rfl := Pk.raw h'
    refine ⟨_, _, .ref C'', .ref C'', true, rfl, ?_, .base (.ins e c.cls c.at_ c.sp c.tk c.mro), ?_, k.here s q (.bl _)⟩
    · exact .own _
    · unfold PySem.W.kitOne
      rw [if_pos (by exact beq_self_eq_true _)]
theorem de_isiC (c : IsC X.K C) (hm : X.mg "isinstance" = none) (ha : PA X [a, b] (lAP ts)) (hg : Gl X "isinstance" := by rfl) (he : starEach [a, b] X.env = (false, eval a X.env) :: starEach [b] X.env := by rfl) (hpl : (backTo pos (starEach [b] X.env)).any (·.1) = false := by rfl) : PE X (.Call (.Name "isinstance" p) [a, b] [] pos) (lE (dCall (rIsiC C) ts)) := de_callB call_isi (real_isiC c) hg hm (by decide +kernel) ha (he := he) (hpl := hpl)
theorem de_meth0 (ho : PE X o (lE to)) (hc : Cls X.K C) (hm : Meth X.K C m f) (F : FnOk X.prog X.w X.K X.mg X.base CX0 k f fd ps (spE n tf)) (hr : Room k X.A) (hb : ∃ dsv, Vals dvs dsv ∧ Binds X.K fd ps dsv) (hdd : ∀ z M H, RpL z M H dvs dds) (hn : ∀ ds Q, tf ds Q → ds.length = n) {pl : Sem Bool}
    (hev : eval (.Call (.Attribute o m apos) [] [] pos) X.env = (do let ov ← eval o X.env; standAt apos.atName; let fs ← holding [ov] (getMethod ov m pl); callWith pos fs.1 fs.2 (backTo pos (starEach [] X.env)) (backToKw pos (keywordEach [] X.env))) := by rfl) :
    PE X (.Call (.Attribute o m apos) [] [] pos) (lE (dMeth C m tf dds to daNil)) := by
  obtain ⟨dsv, hd, hb⟩ := hb
  exact PE.imp (pe_meth0 ho hc hm F hr hb hd pass0 hev) fun σ H Q ⟨g, Qd, s, w, kk⟩ =>
    ⟨g, _, s, w, fun d v H1 w1 x1 s1 r1 => by
      obtain ⟨ns, vs, rfl, hmn, w2⟩ := w1
      obtain ⟨a, dx, fs, rfl, h, _, hno⟩ := Pk.ins (.inl r1)
      have r3 : RpL g.z g.M H1 (.ref a :: ([] ++ dvs)) (.ins C ns vs :: ([] ++ dds)) := .cons r1 (hdd g.z g.M H1)
      exact ⟨a, dx, fs, rfl, h, hno m hmn, by rw [r3.length]; exact hn _ _ w2, g.z, g.M, _, Qd, s1.amb, r3, w2, fun d v H' q x b rp => kk d v H' q (x1.trans x) (s1.ext x b) rp⟩⟩
end
theorem for_cut {ti : TDI} {tg : TDG} {tb : TDS} {De : EndsD} {S : SS} (h : ∀ B : D → TDS, B = (fun d De' S' => tg d S' fun S2 => tb De' S2) → ti S fun ds => wpFor B ds De S) : dsFor ti tg tb De S := h _ rfl
theorem wpWhile_inv {c : TDT} {tb : TDS} {De : EndsD} (I : Nat → SS → Prop) (hs : ∀ (m : Nat) (S : SS) (De' : EndsD), I m S → (∀ m' S', m' < m → I m' S' → De'.nx S') → (∀ m' S', m' < m → I m' S' → De'.ct S') → (∀ S', De.nx S' → De'.bk S') → De'.rt = De.rt → De'.rf = De.rf → c S fun k => if k = true then tb De' S else De.nx S) : ∀ (n m : Nat) (S : SS), m < n → I m S → wpWhile c tb n De S
  | 0, m, S, h, _ => absurd h (Nat.not_lt_zero _)
  | n + 1, m, S, h, hI => hs m S _ hI (fun m' S' hm h' => wpWhile_inv I hs n m' S' (by omega) h') (fun m' S' hm h' => wpWhile_inv I hs n m' S' (by omega) h') (fun _ h => h) rfl rfl
theorem while_cut {c : TDT} {tb : TDS} {De : EndsD} {S : SS} (I : Nat → SS → Prop) (m : Nat) (h0 : I m S) (hs : ∀ (m : Nat) (S : SS) (De' : EndsD), I m S → (∀ m' S', m' < m → I m' S' → De'.nx S') → (∀ m' S', m' < m → I m' S' → De'.ct S') → (∀ S', De.nx S' → De'.bk S') → De'.rt = De.rt → De'.rf = De.rf → c S fun k => if k = true then tb De' S else De.nx S) : dsWhile c tb De S := ⟨m + 1, wpWhile_inv I hs (m + 1) m S (by omega) h0⟩
end L2.DL


set_option Elab.async false
set_option linter.all false
set_option maxRecDepth 100000
set_option maxHeartbeats 4000000
namespace L2.DL
open PySem PySem.Spec PyProof.Rows
/-! ### tests by an own __eq__ -/
section
variable {X : Cx} {C f : Addr} {fd : FuncData} {ps : List Str} {tf : TDF} {k : Nat} {a b : Expr} {ta tb : TDE} {pos : Pos}
theorem dt_eqI (ha : PE X a (lE ta)) (hb : PE X b (lE tb)) (o : EqI X.K C f) (F : FnOk X.prog X.w X.K X.mg X.base CX0 k f fd ps (spE 2 tf)) (hr : Room k X.A) (hbn : ∃ dsv, Vals [] dsv ∧ Binds X.K fd ps dsv) : PT X (.Compare a [.Eq] [b] pos) (lT (dTestB (dEqI C tf ta tb))) := by
  obtain ⟨dsv, hv, hbn⟩ := hbn
  cases hv
  exact PT.imp (pt_cmpR (op_eqI o F hr hbn) ha hb (nomark _)) fun σ H Q ⟨g, Qd, s, w, kk⟩ =>
    ⟨g, _, s, w, fun d v H1 w1 x1 s1 r1 => ⟨g, _, s1, w1, fun e u H2 w2 x2 s2 r2 => by
      obtain ⟨⟨ns, vs, rfl⟩, ⟨ns', vs', rfl⟩, w3⟩ := w2
      have r1' := r1.ext x2
      obtain ⟨a, dx, fs, rfl, h, _⟩ := Pk.ins (.inl r1')
      obtain ⟨a', dx', fs', rfl, h', _⟩ := Pk.ins (.inl r2)
      exact ⟨a, dx, fs, a', dx', fs', rfl, rfl, h, h', rfl, g.z, g.M, _, _, s2.amb, .cons r1' (.cons r2 .nil), w3, fun d v H' q x b rp => by
        obtain ⟨kq, rfl, q⟩ := q
        cases rp
        exact ⟨kq, rfl, kk kq H' q ((x1.trans x2).trans x) (s2.ext x b)⟩⟩⟩⟩
end
/-! ### branches -/
theorem ite_nd {P Q : Prop} {x y : D} {i : Decidable ((!deqv x y) = true)} (h : x = y) (q : Q) : @ite Prop ((!deqv x y) = true) i P Q := by
  subst h
  rw [if_neg (by rw [deqv_refl]; decide)]
  exact q
theorem ite_ed {P Q : Prop} {x y : D} {i : Decidable (deqv x y = true)} (h : x = y) (q : P) : @ite Prop (deqv x y = true) i P Q := by
  subst h
  rw [if_pos (deqv_refl _)]
  exact q
theorem ite_no {P Q c : Prop} {i : Decidable c} (h : ¬ c) (q : Q) : @ite Prop c i P Q := by
  rw [if_neg h]; exact q
theorem ite_yes {P Q c : Prop} {i : Decidable c} (h : c) (q : P) : @ite Prop c i P Q := by
  rw [if_pos h]; exact q
theorem for_cutG {ti : TDI} {tg : TDG} {tb : TDS} {De : EndsD} {S : SS} (h : ∀ G : List D → Prop, (∀ ds, wpFor (fun d De' S' => tg d S' fun S2 => tb De' S2) ds De S → G ds) → ti S G) : dsFor ti tg tb De S := h _ fun _ h => h
end L2.DL


set_option Elab.async false
set_option linter.all false
set_option maxRecDepth 100000
set_option maxHeartbeats 4000000
namespace L2.DL
open PySem PySem.Spec PyProof.Rows
/-! ### isinstance of an own class, of any known value -/
def tyNames : List String := ["NoneType", "bool", "int", "str", "list", "tuple"]
theorem tyN_mem {d : D} {n : String} (h : tyN d = some n) : n ∈ tyNames := by
  cases d <;> simp [tyN] at h <;> subst h <;> decide
structure IsX (K : PySem.W.Frag) (C : Addr) : Prop extends IsC K C where
  cs : (PySem.W.clsIn K C).isSome = true
  ty : PySem.W.typeIn K (.ref C) = some (.type "type")
  sub : ∀ n ∈ tyNames, PySem.W.subIn K (.type n) (.ref C) = some false
theorem IsX.mk' {K : PySem.W.Frag} {C : Addr} (c : IsC K C) (cs : (PySem.W.clsIn K C).isSome = true) (ty : PySem.W.typeIn K (.ref C) = some (.type "type"))
    (h1 : PySem.W.subIn K (.type "NoneType") (.ref C) = some false) (h2 : PySem.W.subIn K (.type "bool") (.ref C) = some false) (h3 : PySem.W.subIn K (.type "int") (.ref C) = some false) (h4 : PySem.W.subIn K (.type "str") (.ref C) = some false) (h5 : PySem.W.subIn K (.type "list") (.ref C) = some false) (h6 : PySem.W.subIn K (.type "tuple") (.ref C) = some false) : IsX K C :=
  ⟨c, cs, ty, fun n hn => by
    simp only [tyNames, List.mem_cons, List.not_mem_nil, or_false] at hn
    rcases hn with rfl | rfl | rfl | rfl | rfl | rfl <;> assumption⟩
theorem IsX.kit {K : PySem.W.Frag} {C : Addr} (c : IsX K C) {n : String} (h : n ∈ tyNames) : PySem.W.kitOne K (.type n) (.ref C) = some false := by
  unfold PySem.W.kitOne
  rw [if_neg (by intro q; cases q)]
  show (if ((PySem.W.clsIn K C).isSome && PySem.W.typeIn K (.ref C) == some (.type "type")) = true then PySem.W.subIn K (.type n) (.ref C) else none) = some false
  rw [c.cs, c.ty, if_pos (by simp)]
  exact c.sub n h
def rIsiX (C : Addr) : RDC
  | [.ins C' _ _, .raw (.ref C'')], Q => (C' = C ∧ C'' = C) ∧ Q (.bl true)
  | [d, .raw (.ref C'')], Q => (C'' = C ∧ (tyN d).isSome = true) ∧ Q (.bl false)
  | _, _ => False
theorem real_isiX {K : PySem.W.Frag} {C : Addr} (c : IsX K C) : RealC (rIsi K) (rIsiX C) := by
  intro g σ H xs ds Qd Q s hx w k
  have hh : (∃ ns vs, ds = [.ins C ns vs, .raw (.ref C)] ∧ Qd (.bl true)) ∨ ∃ d n, ds = [d, .raw (.ref C)] ∧ tyN d = some n ∧ Qd (.bl false) := by
    unfold rIsiX at w
    split at w
    · obtain ⟨⟨rfl, rfl⟩, q⟩ := w
      exact .inl ⟨_, _, rfl, q⟩
    · obtain ⟨⟨rfl, q⟩, q'⟩ := w
      obtain ⟨n, hn⟩ := Option.isSome_iff_exists.mp q
      exact .inr ⟨_, n, rfl, hn, q'⟩
    · exact w.elim
  rcases hh with ⟨ns, vs, rfl, q⟩ | ⟨d, n, rfl, hn, q⟩
  · obtain ⟨v, v', rfl, h, h'⟩ := hx.two
    obtain ⟨a, dx, fs, rfl, e, _⟩ := Pk.ins h
    obtain rfl := Pk.raw h'
    refine ⟨_, _, .ref C, .ref C, true, rfl, .own _, .base (.ins e c.cls c.at_ c.sp c.tk c.mro), ?_, k.here s q (.bl _)⟩
    unfold PySem.W.kitOne
    rw [if_pos (by exact beq_self_eq_true _)]
  · obtain ⟨v, v', rfl, h, h'⟩ := hx.two
    obtain rfl := Pk.raw h'
    exact ⟨_, _, .type n, .ref C, false, rfl, .own _, h.ty hn, c.kit (tyN_mem hn), k.here s q (.bl _)⟩
section
variable {X : Cx} {C f : Addr} {fd : FuncData} {ps : List Str} {tf : TDF} {k : Nat} {a b : Expr} {ta tb : TDE} {ts : TDA} {pos p : Pos}
theorem de_isiX (c : IsX X.K C) (hm : X.mg "isinstance" = none) (ha : PA X [a, b] (lAP ts)) (hg : Gl X "isinstance" := by rfl) (he : starEach [a, b] X.env = (false, eval a X.env) :: starEach [b] X.env := by rfl) (hpl : (backTo pos (starEach [b] X.env)).any (·.1) = false := by rfl) : PE X (.Call (.Name "isinstance" p) [a, b] [] pos) (lE (dCall (rIsiX C) ts)) := de_callB call_isi (real_isiX c) hg hm (by decide +kernel) ha (he := he) (hpl := hpl)

/-! ### == and != by an own __eq__ -/
structure EqX (K : PySem.W.Frag) (C f : Addr) : Prop where
  isx : IsX K C
  eq : PySem.W.findIn K (.ref C) "__eq__" = some (some (.ref f))
  fn : PySem.W.isFn K (.ref f) = true
  ne : PySem.W.findIn K (.ref C) "__ne__" = some (some (.builtin "object.__ne__"))
def okOther (C : Addr) : D → Prop
  | .ins C' _ _ => C' = C
  | e => (tyN e).isSome = true
theorem other_ty {K : PySem.W.Frag} {C : Addr} {g : Gh} {H : Hp} {v : V} {e : D} (c : IsX K C) (h : okOther C e) (r : Pk g H v e) : ∃ tb, TyX K H v tb ∧ PySem.W.notFirst K C tb = true := by
  by_cases hi : ∃ C' ns vs, e = .ins C' ns vs
  · obtain ⟨C', ns, vs, rfl⟩ := hi
    obtain rfl : C' = C := h
    obtain ⟨a, dx, fs, rfl, e, _⟩ := Pk.ins r
    exact ⟨.ref C', .base (.ins e c.cls c.at_ c.sp c.tk c.mro), by unfold PySem.W.notFirst; simp⟩
  · have h' : (tyN e).isSome = true := by
      cases e <;> first | exact h | exact (hi ⟨_, _, _, rfl⟩).elim
    obtain ⟨n, hn⟩ := Option.isSome_iff_exists.mp h'
    refine ⟨.type n, r.ty hn, ?_⟩
    unfold PySem.W.notFirst
    rw [c.sub n (tyN_mem hn)]
    simp
theorem ne_K {K : PySem.W.Frag} {prog : Program} {w : World} {A : Around} {E : Value → Shared → Prop} {s : Shared} {x C f : Addr} {ox : Obj} {od : Option Obj} {b tb : Value} {Q : Value → Shared → Prop}
    (hu : A.units + 1 < cLine) (X : K.In s.heap) (I : PySem.W.InstAt s.heap x ox C od) (hb : PySem.W.Looks (model prog w) s.heap (typeOf b) tb) (hn : PySem.W.notFirst K C tb = true)
    (hs : PySem.W.findIn K (.ref C) "__ne__" = some (some (.builtin "object.__ne__"))) (he : PySem.W.findIn K (.ref C) "__eq__" = some (some (.ref f))) (hf : PySem.W.isFn K (.ref f) = true) (hmro : PySem.W.mroIn K C (.type "object") = some true)
    (h : wpAny (model prog w) A.in1 (call (.ref f) [.ref x, b]) (fun v s' => ∃ r, v = .bool r ∧ Q (.bool (!r)) s') E s) : wpAny (model prog w) A (richCompare .NotEq (.ref x) b) Q E s := by
  have sub : PySem.W.Looks (model prog w) s.heap (isInstance (.ref x) (.type "object")) true := I.type.andThen (PySem.W.looks_mroIn X hmro)
  have S := PySem.F.cmp_object.ne
  have one : wpAny (model prog w) A (tryCompare (.ref x) (cmpInfo .NotEq).2.1 b) (fun r s' => ∃ v, r = some v ∧ Q v s') E s := by
    show wpAny (model prog w) A (tryCompare (.ref x) "__ne__" b) _ E s
    unfold tryCompare
    have body : wpAny (model prog w) A (call (.builtin "object.__ne__") [.ref x, b]) (fun v s' => ∃ r, v = .bool r ∧ Q (.bool r) s') E s := by
      refine wpAny_call (codeAny_call_builtin S.plain PySem.F.cmpEntry_ne (PySem.W.check_slot PySem.F.cmpKind_ne PySem.F.cmpSplit_ne sub (PySem.F.cmpArgs_ne _ _) ?_))
      unfold Builtin.«object.__ne__»
      repeat (first
        | with_reducible refine wpAny_cRoomFor hu ?_
        | (refine wpAny_bind (m := callSpecialIfBound? (.ref x) (Str.ofString "__eq__") [b]) (PySem.W.ifBound_K X I he hf (wpAny_mono h (fun r s' hr => by
              obtain ⟨q, rfl, hq⟩ := hr
              repeat (first | exact ⟨_, rfl, hq⟩ | exact wpAny_pure ⟨_, rfl, hq⟩ | exact wpAny_truthy_bool ⟨_, rfl, hq⟩ | (refine wpAny_bind (m := truthy (.bool _)) (wpAny_truthy_bool ?_)) | wp_step)) fun _ _ e => e)))
        | wp_step)
    have bound : ∀ Q' : Option Value → Shared → Prop, wpAny (model prog w) A (call (.builtin "object.__ne__") [.ref x, b]) (fun v => Q' (some v)) E s → wpAny (model prog w) A (callSpecialIfBound? (.ref x) "__ne__" [b]) Q' E s := by
      intro Q' hc
      simp only [callSpecialIfBound?, bindSpecialIfBound?]
      refine wpAny_holding (wpAny_bind (wpAny_bind (wpAny_bind (I.type.here ((PySem.W.looks_findIn X hs).here ?_)))))
      simp only [S.bind]
      refine wpAny_bind (wpAny_askSetting (wpAny_ite ?_))
      have fin : wpAny (model prog w) A (call (.builtin "object.__ne__") ([.ref x] ++ [b]) >>= fun v => pure (some v)) Q' E s :=
        wpAny_bind (wpAny_mono hc (fun v s' h' => wpAny_pure h') fun _ _ h' => h')
      split
      · exact wpAny_bind (wpAny_pure (wpAny_pure (by exact fin)))
      · exact wpAny_tryCatch (wpAny_bind (wpAny_pure (wpAny_pure (by exact fin))))
    refine wpAny_bind (bound _ (wpAny_mono body (fun v s' h' => ?_) fun _ _ h' => h'))
    obtain ⟨r, rfl, q⟩ := h'
    exact wpAny_pure ⟨_, rfl, q⟩
  unfold richCompare
  simp only [oneThing_ref]
  refine wpAny_holding (wpAny_bind (wpAny_cRoomFor (Nat.lt_of_succ_lt hu) ?_))
  refine wpAny_bind (I.type.here (wpAny_bind (hb.here ?_)))
  split
  · rename_i q
    have e : PySem.W.subIn K tb (.ref C) = some false := by
      rcases Bool.or_eq_true_iff.mp hn with e | e
      · rw [beq_iff_eq.mp e] at q; simp at q
      · exact beq_iff_eq.mp e
    refine wpAny_bind ((PySem.W.looks_subIn X e).here ?_)
    simp only [Bool.false_eq_true, if_false]
    refine wpAny_bind (wpAny_mono one (fun r s' z => ?_) fun _ _ e => e)
    obtain ⟨v, rfl, hq⟩ := z
    exact wpAny_pure hq
  · refine wpAny_bind (wpAny_pure ?_)
    simp only [Bool.false_eq_true, if_false]
    refine wpAny_bind (wpAny_mono one (fun r s' z => ?_) fun _ _ e => e)
    obtain ⟨v, rfl, hq⟩ := z
    exact wpAny_pure hq
theorem op_eqX (o : EqX X.K C f) (F : FnOk X.prog X.w X.K X.mg X.base CX0 k f fd ps (spE 2 tf)) (hr : Room k X.A) (hb : Binds X.K fd ps []) : OpR X (compareOp .Eq) (fun x y H Q => ∃ a dx fs tb, x = .ref a ∧ H a = some (.ins C dx fs) ∧ TyX X.K H y tb ∧ PySem.W.notFirst X.K C tb = true ∧ spE 2 tf [x, y] H Q E0) := by
  intro pins s σ H x y v u Q I rx ry h
  obtain ⟨a, dx, fs, tb, rfl, e, ty, nf, w⟩ := h
  obtain rfl : v = Value.ref a := rx
  obtain ⟨ox, od, ia⟩ := instAt_of I.hok e
  obtain ⟨m, fr⟩ := I.fr
  obtain ⟨P, KX, hP, _⟩ := kit_of I ry ty
  show wpAny (model X.prog X.w) X.A (richCompare .Eq (.ref a) u) _ _ _
  refine PySem.W.cmp_K (tb := tb) (by have := hr.un; omega) fr I.ok.mod.kin ia (KX.ty _ _ I.kIn hP) nf o.eq o.fn ?_
  exact thn (run_fn (dvs := []) (vs := [.ref a, y]) F hr hb .nil pass0 I (.cons (show RelV (.ref a) (.ref a) from rfl) (.cons ry .nil)) w) fun v s' h => back_of h
theorem op_neX (o : EqX X.K C f) (F : FnOk X.prog X.w X.K X.mg X.base CX0 k f fd ps (spE 2 tf)) (hr : Room (k + 1) X.A) (hb : Binds X.K fd ps []) : OpR X (compareOp .NotEq) (fun x y H Q => ∃ a dx fs tb, x = .ref a ∧ H a = some (.ins C dx fs) ∧ TyX X.K H y tb ∧ PySem.W.notFirst X.K C tb = true ∧ spE 2 tf [x, y] H (fun v H' => ∃ r, v = .bl r ∧ Q (.bl (!r)) H') E0) := by
  intro pins s σ H x y v u Q I rx ry h
  obtain ⟨a, dx, fs, tb, rfl, e, ty, nf, w⟩ := h
  obtain rfl : v = Value.ref a := rx
  obtain ⟨ox, od, ia⟩ := instAt_of I.hok e
  obtain ⟨P, KX, hP, _⟩ := kit_of I ry ty
  show wpAny (model X.prog X.w) X.A (richCompare .NotEq (.ref a) u) _ _ _
  refine ne_K (tb := tb) (by have := hr.un; omega) I.kIn ia (KX.ty _ _ I.kIn hP) nf o.ne o.eq o.fn o.isx.mro ?_
  refine thn (run_in1 (dvs := []) (vs := [.ref a, y]) F hr hb .nil pass0 I (.cons (show RelV (.ref a) (.ref a) from rfl) (.cons ry .nil)) w) fun v s' h => ?_
  obtain ⟨z, H', I', rz, r, rfl, q⟩ := h
  obtain rfl : v = Value.bool r := rz
  exact ⟨r, rfl, .bl (!r), H', I', rfl, q⟩
def dEqX (C : Addr) (tf : TDF) (ta tb : TDE) : TDE := fun S Q => ta S fun d => tb S fun e => (∃ ns vs, d = .ins C ns vs) ∧ okOther C e ∧ tf [d, e] Q
def dNeX (C : Addr) (tf : TDF) (ta tb : TDE) : TDE := fun S Q => ta S fun d => tb S fun e => (∃ ns vs, d = .ins C ns vs) ∧ okOther C e ∧ tf [d, e] fun r => ∃ b, r = .bl b ∧ Q (.bl (!b))
theorem de_eqX (ha : PE X a (lE ta)) (hb : PE X b (lE tb)) (o : EqX X.K C f) (F : FnOk X.prog X.w X.K X.mg X.base CX0 k f fd ps (spE 2 tf)) (hr : Room k X.A) (hbn : ∃ dsv, Vals [] dsv ∧ Binds X.K fd ps dsv) : PE X (.Compare a [.Eq] [b] pos) (lE (dEqX C tf ta tb)) := by
  obtain ⟨dsv, hv, hbn⟩ := hbn
  cases hv
  exact PE.imp (pe_cmpR (op_eqX o F hr hbn) ha hb (nomark _)) fun σ H Q ⟨g, Qd, s, w, kk⟩ =>
    ⟨g, _, s, w, fun d v H1 w1 x1 s1 r1 => ⟨g, _, s1, w1, fun e u H2 w2 x2 s2 r2 => by
      obtain ⟨⟨ns, vs, rfl⟩, w2, w3⟩ := w2
      have r1' := r1.ext x2
      obtain ⟨a, dx, fs, rfl, h, _⟩ := Pk.ins (.inl r1')
      obtain ⟨tb, t1, t2⟩ := other_ty o.isx w2 (.inl r2)
      exact ⟨a, dx, fs, tb, rfl, h, t1, t2, rfl, g.z, g.M, _, Qd, s2.amb, .cons r1' (.cons r2 .nil), w3, fun d v H' q x b rp => kk d v H' q ((x1.trans x2).trans x) (s2.ext x b) rp⟩⟩⟩
theorem de_neX (ha : PE X a (lE ta)) (hb : PE X b (lE tb)) (o : EqX X.K C f) (F : FnOk X.prog X.w X.K X.mg X.base CX0 k f fd ps (spE 2 tf)) (hr : Room (k + 1) X.A) (hbn : ∃ dsv, Vals [] dsv ∧ Binds X.K fd ps dsv) : PE X (.Compare a [.NotEq] [b] pos) (lE (dNeX C tf ta tb)) := by
  obtain ⟨dsv, hv, hbn⟩ := hbn
  cases hv
  exact PE.imp (pe_cmpR (op_neX o F hr hbn) ha hb (nomark _)) fun σ H Q ⟨g, Qd, s, w, kk⟩ =>
    ⟨g, _, s, w, fun d v H1 w1 x1 s1 r1 => ⟨g, _, s1, w1, fun e u H2 w2 x2 s2 r2 => by
      obtain ⟨⟨ns, vs, rfl⟩, w2, w3⟩ := w2
      have r1' := r1.ext x2
      obtain ⟨a, dx, fs, rfl, h, _⟩ := Pk.ins (.inl r1')
      obtain ⟨tb, t1, t2⟩ := other_ty o.isx w2 (.inl r2)
      exact ⟨a, dx, fs, tb, rfl, h, t1, t2, rfl, g.z, g.M, _, _, s2.amb, .cons r1' (.cons r2 .nil), w3, fun d v H' q x b rp => by
        obtain ⟨r, rfl, q⟩ := q
        cases rp
        exact ⟨r, rfl, kk (.bl (!r)) _ H' q ((x1.trans x2).trans x) (s2.ext x b) (.bl _)⟩⟩⟩⟩
theorem dt_eqX (ha : PE X a (lE ta)) (hb : PE X b (lE tb)) (o : EqX X.K C f) (F : FnOk X.prog X.w X.K X.mg X.base CX0 k f fd ps (spE 2 tf)) (hr : Room k X.A) (hbn : ∃ dsv, Vals [] dsv ∧ Binds X.K fd ps dsv) : PT X (.Compare a [.Eq] [b] pos) (lT (dTestB (dEqX C tf ta tb))) := by
  obtain ⟨dsv, hv, hbn⟩ := hbn
  cases hv
  exact PT.imp (pt_cmpR (op_eqX o F hr hbn) ha hb (nomark _)) fun σ H Q ⟨g, Qd, s, w, kk⟩ =>
    ⟨g, _, s, w, fun d v H1 w1 x1 s1 r1 => ⟨g, _, s1, w1, fun e u H2 w2 x2 s2 r2 => by
      obtain ⟨⟨ns, vs, rfl⟩, w2, w3⟩ := w2
      have r1' := r1.ext x2
      obtain ⟨a, dx, fs, rfl, h, _⟩ := Pk.ins (.inl r1')
      obtain ⟨tb, t1, t2⟩ := other_ty o.isx w2 (.inl r2)
      exact ⟨a, dx, fs, tb, rfl, h, t1, t2, rfl, g.z, g.M, _, _, s2.amb, .cons r1' (.cons r2 .nil), w3, fun d v H' q x b rp => by
        obtain ⟨kq, rfl, q⟩ := q
        cases rp
        exact ⟨kq, rfl, kk kq H' q ((x1.trans x2).trans x) (s2.ext x b)⟩⟩⟩⟩
theorem dt_neX (ha : PE X a (lE ta)) (hb : PE X b (lE tb)) (o : EqX X.K C f) (F : FnOk X.prog X.w X.K X.mg X.base CX0 k f fd ps (spE 2 tf)) (hr : Room (k + 1) X.A) (hbn : ∃ dsv, Vals [] dsv ∧ Binds X.K fd ps dsv) : PT X (.Compare a [.NotEq] [b] pos) (lT (dTestB (dNeX C tf ta tb))) := by
  obtain ⟨dsv, hv, hbn⟩ := hbn
  cases hv
  exact PT.imp (pt_cmpR (op_neX o F hr hbn) ha hb (nomark _)) fun σ H Q ⟨g, Qd, s, w, kk⟩ =>
    ⟨g, _, s, w, fun d v H1 w1 x1 s1 r1 => ⟨g, _, s1, w1, fun e u H2 w2 x2 s2 r2 => by
      obtain ⟨⟨ns, vs, rfl⟩, w2, w3⟩ := w2
      have r1' := r1.ext x2
      obtain ⟨a, dx, fs, rfl, h, _⟩ := Pk.ins (.inl r1')
      obtain ⟨tb, t1, t2⟩ := other_ty o.isx w2 (.inl r2)
      exact ⟨a, dx, fs, tb, rfl, h, t1, t2, rfl, g.z, g.M, _, _, s2.amb, .cons r1' (.cons r2 .nil), w3, fun d v H' q x b rp => by
        obtain ⟨r, rfl, kq, hk, q⟩ := q
        cases hk
        cases rp
        exact ⟨r, rfl, _, rfl, kk _ H' q ((x1.trans x2).trans x) (s2.ext x b)⟩⟩⟩⟩
end
end L2.DL


set_option Elab.async false
set_option linter.all false
set_option maxRecDepth 100000
set_option maxHeartbeats 4000000
namespace L2.DL
open PySem PySem.Spec PyProof.Rows
/-! ### sets of ints and texts, with their tables -/
def keyM (e : Int × Value) : Key := match e.2 with
  | .int k _ => .inl k
  | .str x _ => .inr x
  | _ => .inl 0
def GoodM (w : World) (e : Int × Value) : Prop := keyIs (keyM e) e.2 = true ∧ e.1 = keyH w (keyM e)
def SetM (w : World) (h : Heap) (a : Addr) (ks : List Key) : Prop :=
  ∃ o es ep t, h.get? a = some o ∧ o.ExactSet ∧ o.data = .set es ep t ∧ (∀ e ∈ es.toList, GoodM w e) ∧ (es.toList.map keyM).Perm ks ∧ ks.Nodup ∧ es.size < scanBound ∧ t.fits es.size = true ∧ Ris t.place.toList ∧ (w.params.followText "set-order" = true ∨ t.led = true)
theorem keyM_is {k : Key} {v : Value} {n : Int} (h : keyIs k v = true) : keyM (n, v) = k := by
  rcases keyIs_shape h with ⟨i, t, rfl, rfl⟩ | ⟨x, t, rfl, rfl⟩ <;> rfl
theorem key_scan {k : Key} {v : Value} (h : keyIs k v = true) : v.scannable = true := by
  rcases keyIs_shape h with ⟨i, t, rfl, rfl⟩ | ⟨x, t, rfl, rfl⟩ <;> rfl
theorem SetM.at {w : World} {h h' : Heap} {a : Addr} {ks : List Key} (R : SetM w h a ks) (k : ∀ o, h.get? a = some o → h'.get? a = some o) : SetM w h' a ks := by
  obtain ⟨o, es, ep, t, ho, r⟩ := R
  exact ⟨o, es, ep, t, k o ho, r⟩
theorem goodM_el {P : Program} {w : World} {l : List (Int × Value)} (g : ∀ e ∈ l, GoodM w e) : ElemsOf (mixKind P w) l := fun e he =>
  ⟨⟨keyM e, (g e he).1, (g e he).2⟩, key_scan (g e he).1⟩
theorem goodM_key {w : World} {e : Int × Value} (g : GoodM w e) {k : Key} : keyIs k e.2 = true ↔ keyM e = k := by
  constructor
  · intro h
    exact keyM_is (n := e.1) h
  · intro h
    rw [← h]; exact g.1
section
variable {P : Program} {w : World} {A : Around} {E : Value → Shared → Prop} {s : Shared} {a : Addr} {ks : List Key}
theorem setM_lay {gg : Bool → Sem Unit} (hg : ∀ (b : Bool) (t : Shared) (q : Unit → Shared → Prop), q () t → wpAny (model P w) A (gg b) q E t)
    {o : Obj} {es : Array (Int × Value)} {ep : Nat} {t : SetTable} (ho : s.heap.get? a = some o) (hex : o.ExactSet) (hd : o.data = .set es ep t)
    {es1 : Array (Int × Value)} {t2 : SetTable} (g1 : ∀ e ∈ es1.toList, GoodM w e) (p1 : (es1.toList.map keyM).Perm ks) (n1 : ks.Nodup) (b1 : es1.size < scanBound) (f2 : t2.fits es1.size = true) (r2 : Ris t2.place.toList) (l2 : w.params.followText "set-order" = true ∨ t2.led = true) {dm : Bool} {R : Option Bool → Shared → Prop}
    (fin : ∀ h2, Heap.SameBut a s.heap h2 → SetM w h2 a ks → R (some true) { s with heap := h2 }) :
    wpAny (model P w) A (do
      storeSet a es1 t2
      if (!dm && t2.tooFull) = true then do
        gg (relayAll t2 es1 (SetTable.grown es1.size)).2.2
        storeSet a (relayAll t2 es1 (SetTable.grown es1.size)).1 (relayAll t2 es1 (SetTable.grown es1.size)).2.1
        pure (some true)
      else pure (some true)) R E s := by
  apply wpAny_bind
  apply wpAny_storeSet_of ho hd _ (fits_of_scanBound b1)
  have o1 := store_at (es' := es1) (t' := t2) ho hd
  have s1 := Heap.SameBut.update s.heap a (Obj.putSet es1 t2)
  split
  · have q1 := relayAll_perm t2 es1 (SetTable.grown es1.size)
    have q2 := relayAll_fits t2 es1 (SetTable.grown es1.size)
    have q3 := relayAll_ris t2 es1 (SetTable.grown es1.size)
    have q4 := relayAll_led t2 es1 (SetTable.grown es1.size)
    generalize relayAll t2 es1 (SetTable.grown es1.size) = Z at q1 q2 q3 q4 ⊢
    obtain ⟨es2, t3, gv⟩ := Z
    dsimp only at q1 q2 q3 q4 ⊢
    have z : es2.size = es1.size := by have := q1.length_eq; simpa using this
    apply wpAny_bind
    apply hg
    apply wpAny_bind
    apply wpAny_storeSet_of o1 rfl _ (fits_of_scanBound (by rw [z]; exact b1))
    have o2 := store_at (es' := es2) (t' := t3) o1 rfl
    refine wpAny_pure (fin _ (s1.trans (Heap.SameBut.update _ a _)) ⟨_, es2, _, t3, o2, hex, rfl, fun e he => g1 e (q1.mem_iff.mp he), (q1.map keyM).trans p1, n1, by rw [z]; exact b1, q2, q3, ?_⟩)
    exact l2.imp id fun y => by rw [q4]; exact y
  · exact wpAny_pure (fin _ s1 ⟨_, es1, _, t2, o1, hex, rfl, g1, p1, n1, b1, f2, r2, l2⟩)
theorem setM_add {k : Key} {v : Value} {Q : Bool → Shared → Prop} (hv : keyIs k v = true) (R : SetM w s.heap a ks) (room : ks.length + 1 < scanBound)
    (fin : ∀ (b : Bool) h2, Heap.SameBut a s.heap h2 → SetM w h2 a (if hasK ks k = true then ks else ks ++ [k]) → Q b { s with heap := h2 }) :
    wpAny (model P w) A (setAddHashed a v ((mixKind P w).hash k)) Q E s := by
  obtain ⟨o, es, ep, t, ho, hex, hd, g, pm, nd, hb, hf, hr, hl⟩ := R
  have sc := key_scan hv
  have el : ElemsOf (mixKind P w) es.toList := goodM_el g
  unfold setAddHashed setAddHashedIn
  apply wpAny_holding
  apply wpAny_bind
  apply wpAny_setState_of ho hd hf
  dsimp only
  rw [byScan_of sc hb el]
  simp only [↓reduceIte]
  unfold setAddByScan
  apply wpAny_bind
  apply wpAny_bind
  apply wpAny_rule
  apply wpAny_bind
  apply wpAny_setScan_of (knd := mixKind P w) (k := k) hv ho hd hf el
  have el' : es.toList.length = ks.length := by have := pm.length_eq; rw [List.length_map] at this; exact this
  cases hfi : List.findIdx? (fun e => (mixKind P w).is k e.2) es.toList with
  | some j =>
    dsimp only
    obtain ⟨hj, pj, _⟩ := List.findIdx?_eq_some_iff_getElem.mp hfi
    have hk : k ∈ ks := pm.mem_iff.mp (List.mem_map.mpr ⟨_, List.getElem_mem hj, (goodM_key (g _ (List.getElem_mem hj))).mp pj⟩)
    refine wpAny_pure (wpAny_pure (fin _ s.heap (Heap.SameBut.refl a s.heap) ?_))
    rw [if_pos (hasK_iff.mpr hk)]
    exact ⟨o, es, ep, t, ho, hex, hd, g, pm, nd, hb, hf, hr, hl⟩
  | none =>
    dsimp only
    have hk : k ∉ ks := fun z => by
      obtain ⟨e, he, q⟩ := List.mem_map.mp (pm.mem_iff.mpr z)
      have c := List.findIdx?_eq_none_iff.mp hfi e he
      rw [show (mixKind P w).is k e.2 = true from (goodM_key (g e he)).mpr q] at c
      cases c
    have gw : ∀ (b : Bool) {t1 : Shared} {q : Unit → Shared → Prop}, q () t1 → wpAny (model P w) A (match b with | true => rule "set.scan.the-table-gave-way" | false => pure ()) q E t1 := fun b _ _ q => by
      cases b
      · exact wpAny_pure q
      · exact wpAny_rule q
    have q1 := layNew_perm t es ((mixKind P w).hash k) v
    have q2 := layNew_fits t es ((mixKind P w).hash k) v
    have q3 := layNew_ris t es ((mixKind P w).hash k) v hr
    have q4 := layNew_led t es ((mixKind P w).hash k) v
    generalize layNew t es ((mixKind P w).hash k) v = Z at q1 q2 q3 q4 ⊢
    obtain ⟨es1, t1, dm, gv⟩ := Z
    dsimp only at q1 q2 q3 q4 ⊢
    rw [Array.toList_push] at q1
    have g1 : ∀ e ∈ es1.toList, GoodM w e := fun e he => by
      rcases List.mem_append.mp (q1.mem_iff.mp he) with z | z
      · exact g e z
      · rw [List.mem_singleton.mp z]
        have ek : keyM ((mixKind P w).hash k, v) = k := keyM_is hv
        exact ⟨by rw [ek]; exact hv, by rw [ek]; rfl⟩
    have p1 : (es1.toList.map keyM).Perm (ks ++ [k]) := by
      have := q1.map keyM
      rw [List.map_append] at this
      have ek : keyM ((mixKind P w).hash k, v) = k := keyM_is hv
      simp only [List.map_cons, List.map_nil, ek] at this
      exact this.trans (pm.append_right [k])
    have n1 : (ks ++ [k]).Nodup := List.nodup_append.mpr ⟨nd, by simp, fun x hx y hy => by rw [List.mem_singleton.mp hy]; rintro rfl; exact hk hx⟩
    have z1 : es1.size = ks.length + 1 := by
      have := p1.length_eq
      simpa using this
    have b1 : es1.size < scanBound := by rw [z1]; exact room
    have ld : w.params.followText "set-order" = true ∨ t1.led = true := hl.imp id fun y => by rw [q4]; exact y
    have fn : ∀ h2, Heap.SameBut a s.heap h2 → SetM w h2 a (ks ++ [k]) → Q true { s with heap := h2 } := fun h2 sb r => fin true h2 sb (by rw [if_neg (hasK_not.mpr hk)]; exact r)
    apply wpAny_bind
    refine gw _ ?_
    split
    · apply wpAny_bind
      rw [hashByValue_scannable 8 sc]
      apply wpAny_pure
      refine setM_lay ?_ ho hex hd g1 p1 n1 b1 ?_ ?_ ?_ ?_
      · intro b t1 q hq; cases b <;> first | exact wpAny_pure hq | exact wpAny_rule hq
      · first | (split <;> first | exact q2 | exact SetTable.fits_plain_off q2) | exact q2
      · first | (split <;> exact q3) | exact q3
      · first | (split <;> exact ld) | exact ld
      · intro h2 sb r; dsimp only; exact wpAny_pure (fn h2 sb r)
    · apply wpAny_bind
      apply wpAny_pure
      simp only [↓reduceIte]
      refine setM_lay ?_ ho hex hd g1 p1 n1 b1 q2 q3 ld ?_
      · intro b t1 q hq; cases b <;> first | exact wpAny_pure hq | exact wpAny_rule hq
      · intro h2 sb r; dsimp only; exact wpAny_pure (fn h2 sb r)
end
end L2.DL


set_option Elab.async false
set_option linter.all false
set_option maxRecDepth 100000
set_option maxHeartbeats 4000000
namespace L2.DL
open PySem PySem.Spec PyProof.Rows
/-! ### set(xs) with its table, sorted(set(xs)) -/
section
variable {prog : Program} {w : World} {A : Around} {R : Result → Shared → Prop} {I : Addr} {fp wr : List Addr} {G : Array GenState → Array GenState → Prop} {n : Nat} {P : Nat → Value → Prop} {St : Nat → Shared → Prop}
theorem setM_loop (W : WalksS prog w A.in1 I fp wr G n P St) (S : Addr) (nS : S ∉ fp) (ks : List Key) (hn : ks.length = n) (is : ∀ i v, P i v → ∃ k, ks[i]? = some k ∧ keyIs k v = true) (room : n + 1 < scanBound) :
    ∀ (m i : Nat) (s : Shared), n - i = m → i ≤ n → St i s → SetM w s.heap S (dedup [] (ks.take i)) →
      (∀ t, Moved (S :: wr) G s t → SetM w t.heap S (dedup [] ks) → R (.ok (.ret .none)) t) →
      codeAny (model prog w) A (.builtin "set.update.loop" ⟨[.ref S, .ref I], []⟩) R s := by
  have nw : S ∉ wr := fun h => nS (W.sub _ h)
  have up : ∀ c ∈ wr, c ∈ S :: wr := fun c hc => List.mem_cons_of_mem _ hc
  intro m
  induction m with
  | zero =>
    intro i s hm hi st so out
    have e : i = n := by omega
    subst e
    rw [List.take_of_length_le (Nat.le_of_eq hn)] at so
    apply codeAny_builtin F.entry_set_update_loop
    rw [Around.under_plainId F.plain_set_update_loop _]
    change wpAny _ A.in1 (pyNext (.ref I) >>= _) _ _ s
    apply wpAny_bind
    apply W.done s _ _ st
    intro t mv
    change wpAny _ A.in1 (ret Value.none) _ _ t
    apply wpAny_pure
    exact out t (mv.mono up) (so.at fun o ho => mv.heap S _ nw ho)
  | succ m ih =>
    intro i s hm hi st so out
    have lt : i < n := by omega
    apply codeAny_builtin F.entry_set_update_loop
    rw [Around.under_plainId F.plain_set_update_loop _]
    change wpAny _ A.in1 (pyNext (.ref I) >>= _) _ _ s
    apply wpAny_bind
    apply W.item i s _ _ lt st
    intro v t hP st' mv
    obtain ⟨k, ek, ik⟩ := is i v hP
    have so' : SetM w t.heap S (dedup [] (ks.take i)) := so.at fun o ho => mv.heap S _ nw ho
    change wpAny _ A.in1 (holding [v] (setAdd S v) >>= _) _ _ t
    apply wpAny_bind
    apply wpAny_holding
    unfold setAdd
    apply wpAny_holding
    apply wpAny_bind
    apply (mixKind prog w).pyHash (k := k) ik
    have rm : (dedup [] (ks.take i)).length + 1 < scanBound := by
      have h1 := dedup_le (ks.take i) []
      have h2 := List.length_take_le i ks
      simp at h1
      omega
    refine setM_add (P := prog) (s := { t with toks := t.toks + 1 }) ik so' rm fun b h2 sb so2 => ?_
    have tk : ks.take (i + 1) = ks.take i ++ [k] := by
      rw [List.take_add_one, ek]; rfl
    rw [← dedup_snoc, ← tk] at so2
    refine wpAny_pure ⟨plainId_quiet F.plain_set_update_loop _, ih (i + 1) _ (by omega) lt (W.frame _ t _ _ st' (Nat.le_succ _) fun c hc o e => ?_) so2 fun u mv2 so4 => ?_⟩
    · rw [sb.2 c fun h : c = S => nS (h ▸ hc)]; exact e
    · refine out u (Moved.trans W.gtrans ((mv.mono up).then_heap (Nat.le_succ _) fun c o hc e => ?_) mv2) so4
      rw [sb.2 c fun h : c = S => hc (h ▸ List.mem_cons_self)]; exact e
end
section
variable {prog : Program} {w : World} {A : Around} {E : Value → Shared → Prop} {s : Shared}
abbrev obS (w : World) : Obj := { cls := .type "set", dict := none, data := .set #[] 0 (.fresh 0 0 (!w.params.followText "set-order")) }
theorem new_set1 {x : Value} {Q : Value → Shared → Prop} (h : Q (.ref s.heap.objs.size) { s with heap := s.heap.push (obS w) }) :
    codeAny (model prog w) A (.call (.builtin "set.__new__") ⟨[.type "set", x], []⟩) (wants Q E) s := by
  apply codeAny_of_tree
  change wpAny _ A.in1 (do checkBuiltinCall "set.__new__" ⟨[.type "set", x], []⟩; again (.builtin "set.__new__" ⟨[.type "set", x], []⟩)) _ _ s
  apply wpAny_bind
  apply wpAny_of_eq (F.newCall_set_1 x)
  refine wpAny_pure ⟨plainId_quiet F.plain_set_new _, ?_⟩
  apply codeAny_builtin F.entry_set_new
  rw [Around.under_plainId F.plain_set_new _]
  unfold Builtin.«set.__new__» Builtin.Frozenset.newClass
  have hsub := sub_set_self
  obtain ⟨hp, g, d, tk, os⟩ := s
  dsimp only
  wp_walk
  apply wpAny_askSetting
  apply wpAny_pure
  dsimp only
  simp only [newObj]
  apply wpAny_bind
  apply wpAny_alloc
  exact wpAny_pure (wpAny_pure h)
theorem setM_of_list {l : Addr} {items : Array Value} {ks : List Key} {Q : Value → Shared → Prop} (calm : A.handled = none) (isl : s.heap.IsList l items) (hk : ∀ (i : Nat) (v : Value), items[i]? = some v → ∃ k, ks[i]? = some k ∧ keyIs k v = true) (hn : ks.length = items.size) (room : items.size + 1 < scanBound)
    (out : ∀ (h2 : Heap) (tk : Nat), SetM w h2 s.heap.objs.size (dedup [] ks) → (∀ c o, c < s.heap.objs.size → s.heap.get? c = some o → h2.get? c = some o) → Q (.ref s.heap.objs.size) { s with heap := h2, toks := tk }) :
    wpAny (model prog w) A (call (.type "set") [.ref l]) Q E s := by
  obtain ⟨cc, tl, hmro⟩ := PySem.F.called_set.mro
  have hmade := PySem.F.called_set.made
  have hsub := PySem.F.called_set.sub
  apply wpAny_call
  apply codeAny_of_tree
  change wpAny _ _ (callAny (.type "set") _) _ _ _
  refine wpAny_pure ⟨Code.quiet_builtin _ (by decide +kernel), ?_⟩
  apply codeAny_builtin PySem.F.entry_type_call
  rw [Around.under_plain (weight_type_call_type "set" [.ref l] []) rfl]
  have a1 := PySem.F.called_set.notType
  have a2 := PySem.F.called_set.canCreate
  have a3 := PySem.F.typeCall_set_1 (.ref l)
  repeat (any_goals first | assumption | wp_step)
  refine codeAny_mono (new_set1 (x := .ref l) (E := E) (Q := fun y t => y = .ref s.heap.objs.size ∧ t = { s with heap := s.heap.push (obS w) }) ⟨rfl, rfl⟩) fun r t hr => ?_
  cases r with
  | error e => exact hr
  | ok fl =>
    cases fl with
    | next => exact hr.elim
    | brk => exact hr.elim
    | cont => exact hr.elim
    | ret y =>
      obtain ⟨rfl, rfl⟩ := hr
      have gS : (s.heap.push (obS w)).get? s.heap.objs.size = some (obS w) := Heap.get?_push_size _ rfl
      have gT : Shared.TypeIs { s with heap := s.heap.push (obS w) } (.ref s.heap.objs.size) "set" := ⟨_, gS, rfl⟩
      have b1 := PySem.F.called_set.init.lookup
      have b2 := PySem.F.called_set.init.bind (.ref s.heap.objs.size)
      repeat (any_goals first | assumption | wp_step)
      refine codeAny_mono (codeAny_call_builtin (R := wants (fun r u => r = .none ∧ ∃ h2 tk, u = { s with heap := h2, toks := tk } ∧ SetM w h2 s.heap.objs.size (dedup [] ks) ∧ (∀ c o, c < s.heap.objs.size → s.heap.get? c = some o → h2.get? c = some o)) E) PySem.F.called_set.init.plain PySem.F.entry_set_init (check_set_init_1 gT ?_)) fun r2 u hr2 => ?_
      · obtain ⟨ol, gl, cl, nl, dl⟩ := isl
        obtain ⟨k1, k2, k3, k4⟩ := ol
        simp only at cl dl
        subst cl
        subst dl
        have gl2 : (s.heap.push (obS w)).get? l = some { cls := .type "list", dict := k2, data := .seq items nl, slots := k4 } := Heap.get?_push_of_some _ gl
        have c1 := PySem.F.sub_list_set
        have c2 := PySem.F.sub_list_frozenset
        have c3 : (Value.type "list" == Value.type "dict") = false := by decide
        have il : (s.heap.push (obS w)).IsList l items := ⟨_, gl2, rfl, nl, rfl⟩
        unfold Builtin.«set.__init__» noKeywords Builtin.Frozenset.updateFrom
        generalize hZ : pyIter = Z
        wp_walk
        subst hZ
        apply wpAny_pyIter_list il
        apply wpAny_bind
        apply wpAny_runValue
        have ll : l < s.heap.objs.size := Heap.lt_size gl
        have h3 : A.in1.in1.in1.handled = none := by simp [calm]
        have n1 : l ≠ (s.heap.push (obS w)).objs.size := by
          rw [Heap.size_push]
          exact Nat.ne_of_lt (Nat.lt_succ_of_lt ll)
        have n2 : s.heap.objs.size ∉ [(s.heap.push (obS w)).objs.size, l] := by
          rw [Heap.size_push]
          intro hh
          rcases List.mem_cons.mp hh with hh | hh
          · exact Nat.ne_of_lt (Nat.lt_succ_self _) hh
          · exact Nat.ne_of_gt ll (List.mem_singleton.mp hh)
        refine setM_loop ((Walks.list h3 _ l n1 items).toS) s.heap.objs.size n2 ks hn hk room (items.size - 0) 0 _ (by omega) (Nat.zero_le _) ⟨⟨_, Heap.get?_push_size _ rfl, rfl, rfl⟩, il.push _⟩ ?z1 ?z2
        case z1 =>
          have gg : ((s.heap.push (obS w)).push { cls := .type "list_iterator", data := .fields #[.ref l, .int 0 0] }).get? s.heap.objs.size = some (obS w) := Heap.get?_push_of_some _ gS
          refine ⟨_, #[], 0, _, gg, ⟨rfl, rfl, rfl⟩, rfl, (fun e he => by simp at he), ?_, ?_, (by decide), (by rfl), List.Pairwise.nil, ?_⟩
          · simp [dedup]
          · simp [dedup]
          · show _ ∨ (!w.params.followText "set-order") = true
            cases w.params.followText "set-order"
            · exact .inr rfl
            · exact .inl rfl
        case z2 =>
          intro t mv so
          obtain ⟨h2, g2, d2, t2, o2⟩ := t
          have q1 : g2 = s.gens := mv.gens
          have q2 : d2 = s.drawn := mv.drawn
          have q3 : o2 = s.os := mv.os
          subst q1 q2 q3
          change wpAny _ _ _ _ _ _
          apply wpAny_pure
          change wpAny _ _ (ret Value.none) _ _ _
          refine wpAny_pure ⟨rfl, h2, t2, rfl, so, fun c o hc e => ?_⟩
          refine mv.heap c o (fun hh => ?_) (Heap.get?_push_of_some _ (Heap.get?_push_of_some _ e))
          rcases List.mem_cons.mp hh with hh | hh
          · exact Nat.ne_of_lt hc hh
          · have hh := List.mem_singleton.mp hh
            rw [Heap.size_push] at hh
            exact Nat.ne_of_lt (Nat.lt_succ_of_lt hc) hh
      · cases r2 with
        | error e => exact hr2
        | ok f2 =>
          cases f2 with
          | next => exact hr2.elim
          | brk => exact hr2.elim
          | cont => exact hr2.elim
          | ret y =>
            obtain ⟨rfl, h2, tk, rfl, so, kp⟩ := hr2
            repeat (any_goals first | assumption | wp_step)
            exact out _ _ so kp
theorem each_map' {β : Type} {R : Value → β → Prop} (f : Value → β) : ∀ {vs : List Value}, (∀ v ∈ vs, R v (f v)) → PySem.W.EachIs R vs (vs.map f)
  | [], _ => .nil
  | v :: vs, h => .cons (h v (by simp)) (each_map' f fun u hu => h u (by simp [hu]))
/-- sorted(a set) -/
theorem sortedM {β : Type} (f : Value → β) (enc : β → PyData) (Rl : Value → β → Prop) {a : Addr} {ks : List Key} {Q : Value → Shared → Prop} (R : SetM w s.heap a ks) (calm : A.handled = none) (hu : A.units + 3 < cLine) (hz : ks.length ≤ sizeLine)
    (hR : ∀ k v, k ∈ ks → keyIs k v = true → Rl v (f v) ∧ (∀ h, Reads h v (enc (f v)) []) ∧ (enc (f v)).depth = 0) (al : ∀ k v k' v', k ∈ ks → k' ∈ ks → keyIs k v = true → keyIs k' v' = true → PySem.W.alike (enc (f v)) (enc (f v')) = true) (sb : ∀ k v, k ∈ ks → keyIs k v = true → enc (f v) ≠ .none ∧ ∀ xs, enc (f v) ≠ .tuple xs)
    (out : ∀ (s2 : Shared) (p : Addr) (os : List Value) (c : Nat) (vs : List Value), (∀ b o, s.heap.get? b = some o → s2.heap.get? b = some o) → s2.gens = s.gens → s2.os = s.os → s.heap.objs.size ≤ p → s2.heap.get? p = some (seqObj "list" os.toArray c) → PySem.W.EachIs Rl os ((vs.map f).mergeSort (PySem.W.dataLe false enc)) → (vs.map fun v => keyM (0, v)).Perm ks → (∀ v ∈ vs, keyIs (keyM (0, v)) v = true) → Q (.ref p) s2) :
    wpAny (model prog w) A (call (.builtin "sorted") [.ref a]) Q E s := by
  obtain ⟨o, es, ep, t, ho, hex, hd, g, pm, nd, hb, hf, hr, hl⟩ := R
  apply Calls.call_function_entry kind_sorted plain_sorted entry_sorted (args_sorted1 _)
  unfold Builtin.«sorted»
  apply wpAny_bind (m := checkCount "sorted" 1 1 _)
  apply wpAny_pure
  refine wpAny_bind (collect_set (A := A.in1) calm ⟨o, ho, hex.1, hd⟩ hf hb hr hl fun s1 vs k1 hz1 g1 o1 pv => ?_)
  have gk : ∀ v ∈ vs, keyIs (keyM (0, v)) v = true ∧ keyM (0, v) ∈ ks := fun v hv => by
    obtain ⟨e, he, q⟩ := List.mem_map.mp (pv.mem_iff.mp hv)
    subst q
    have e1 : keyM (0, e.2) = keyM e := rfl
    exact ⟨(g e he).1, by rw [e1]; exact pm.mem_iff.mp (List.mem_map.mpr ⟨e, he, rfl⟩)⟩
  have pk : (vs.map fun v => keyM (0, v)).Perm ks := by
    have q := pv.map fun v => keyM (0, v)
    rw [List.map_map] at q
    exact q.trans pm
  have vl : vs.length = ks.length := by have := pk.length_eq; rwa [List.length_map] at this
  refine wpAny_bind (wpAny_newList ?_ (by rw [vl]; exact hz))
  have hoL : (s1.heap.push (seqObj "list" vs.toArray 0)).get? s1.heap.objs.size = some (seqObj "list" vs.toArray 0) := Heap.get?_push_size _ rfl
  refine wpAny_bind (wpAny_holding (PySem.W.list_sort_data (bs := vs.map f) (enc := enc) (R := Rl) hoL (each_map' f fun v hv => (hR _ v (gk v hv).2 (gk v hv).1).1) (each_map' f fun v hv => ⟨[], (hR _ v (gk v hv).2 (gk v hv).1).2.1 _, by simp⟩) ?_ ?_ (by rw [List.length_map, vl]; exact hz) (fun b hb => ?_) fun os hl2 eo => ?_))
  · intro d hd d' hd'
    obtain ⟨b, hb1, rfl⟩ := List.mem_map.mp hd
    obtain ⟨v, hv, rfl⟩ := List.mem_map.mp hb1
    obtain ⟨b', hb2, rfl⟩ := List.mem_map.mp hd'
    obtain ⟨v', hv', rfl⟩ := List.mem_map.mp hb2
    exact al _ _ _ _ (gk v hv).2 (gk v' hv').2 (gk v hv).1 (gk v' hv').1
  · refine .inr fun d hd => ?_
    obtain ⟨b, hb1, rfl⟩ := List.mem_map.mp hd
    obtain ⟨v, hv, rfl⟩ := List.mem_map.mp hb1
    exact sb _ _ (gk v hv).2 (gk v hv).1
  · obtain ⟨v, hv, rfl⟩ := List.mem_map.mp hb
    rw [(hR _ v (gk v hv).2 (gk v hv).1).2.2]
    show A.units + 1 + 1 + 0 < cLine
    omega
  · obtain ⟨c, hc⟩ := sortedHeap_at (vs := vs) (out := os.toArray) hoL
    refine wpAny_pure ⟨_, rfl, out _ s1.heap.objs.size os c vs (fun b u e => ?_) g1 o1 hz1 hc eo pk fun v hv => (gk v hv).1⟩
    have q := k1 b u e
    have hlt := Heap.lt_size q
    show (sortedHeap (s1.heap.push (seqObj "list" vs.toArray 0)) s1.heap.objs.size vs os.toArray).get? b = some u
    rw [sortedHeap_old (Nat.ne_of_lt hlt) (by rw [Heap.size_push]; exact Nat.lt_succ_of_lt hlt)]
    exact Heap.get?_push_of_some _ q
end
end L2.DL


set_option Elab.async false
set_option linter.all false
set_option maxRecDepth 100000
set_option maxHeartbeats 4000000
namespace L2.DL
open PySem PySem.Spec PyProof.Rows
def strsQ : List D → Option (List (List Nat))
  | [] => some []
  | .str x :: r => (strsQ r).map (x :: ·)
  | _ => none
theorem strsQ_eq : ∀ {ds : List D} {ys : List (List Nat)}, strsQ ds = some ys → ds = ys.map D.str
  | [], ys, h => by cases h; rfl
  | d :: r, ys, h => by
    cases d <;> simp only [strsQ, reduceCtorEq] at h
    obtain ⟨zs, e, rfl⟩ := Option.map_eq_some_iff.mp h
    rw [strsQ_eq e]; rfl
theorem strsQ_map : ∀ ys : List (List Nat), strsQ (ys.map D.str) = some ys
  | [] => rfl
  | y :: ys => by simp [strsQ, strsQ_map ys]
def rSS : D → (D → Prop) → Prop
  | .lst ds, Q => ds.length + 1 < 4096 ∧ ((∃ ns, intsD ds = some ns ∧ ∀ ms : List Int, ms.Pairwise (· < ·) → (∀ x, x ∈ ms ↔ x ∈ ns) → Q (.lst (ms.map .int))) ∨ ∃ ys, strsQ ds = some ys ∧ ∀ ws : List (List Nat), ws.Pairwise (· < ·) → (∀ x, x ∈ ws ↔ x ∈ ys) → Q (.lst (ws.map .str)))
  | _, _ => False
def dSS (ta : TDE) : TDE := fun S Q => ta S fun d => rSS d Q
/-- at the level of the heap -/
def tSSV (ta : TE) : TE := fun σ H Q => ta σ H fun x H1 => ∃ l xs, x = .ref l ∧ H1 l = some (.lst xs) ∧ xs.length + 1 < 4096 ∧
  ((∃ ns : List Int, xs = ns.map V.int ∧ ∀ (ms : List Int) p, ms.Pairwise (· < ·) → (∀ x, x ∈ ms ↔ x ∈ ns) → H1 p = none → Q (.ref p) (upd H1 p (.lst (ms.map V.int)))) ∨
   ∃ ys : List (List Nat), xs = (ys.map S2).map V.str ∧ ∀ (ws : List (List Nat)) p, ws.Pairwise (· < ·) → (∀ x, x ∈ ws ↔ x ∈ ys) → H1 p = none → Q (.ref p) (upd H1 p (.lst ((ws.map S2).map V.str))))
theorem pw_lt {α : Type} {le : α → α → Prop} {lt : α → α → Prop} (h : ∀ a b, le a b → a ≠ b → lt a b) : ∀ {l : List α}, l.Pairwise le → l.Nodup → l.Pairwise lt
  | [], _, _ => .nil
  | a :: l, .cons h1 h2, .cons n1 n2 => .cons (fun b hb => h a b (h1 b hb) (n1 b hb)) (pw_lt h h2 n2)
theorem each_ints : ∀ {os : List Value} {ms : List Int}, PySem.W.EachIs (fun v i => ∃ t, v = Value.int i t) os ms → Vals (ms.map V.int) os
  | _, _, .nil => .nil
  | _, _, .cons ⟨t, e⟩ r => .cons ⟨t, e⟩ (each_ints r)
theorem each_strs : ∀ {os : List Value} {ms : List Str}, PySem.W.EachIs (fun v i => ∃ t, v = Value.str i t) os ms → Vals (ms.map V.str) os
  | _, _, .nil => .nil
  | _, _, .cons ⟨t, e⟩ r => .cons ⟨t, e⟩ (each_strs r)
def intOf : Value → Int
  | .int i _ => i
  | _ => 0
def strOf : Value → Str
  | .str i _ => i
  | _ => Str.empty
theorem keys_i {ns : List Int} {k : Key} : k ∈ dedup [] (ns.map fun i => (Sum.inl i : Key)) ↔ ∃ i ∈ ns, k = .inl i := by
  rw [mem_dedup]
  simp [eq_comm]
theorem keys_s {ns : List (List Nat)} {k : Key} : k ∈ dedup [] (ns.map fun i => (Sum.inr (S2 i) : Key)) ↔ ∃ i ∈ ns, k = .inr (S2 i) := by
  rw [mem_dedup]
  simp [eq_comm]
section
variable {X : Cx} {a : Expr} {ta : TDE} {pos p p2 q : Pos}
theorem pe_ssV {ta : TE} (hu : X.A.units + 65 < cLine) (hm : X.mg "sorted" = none) (hm2 : X.mg "set" = none) (ha : PE X a ta) (hc : X.calm = true := by rfl) (hg : Gl X "sorted" := by rfl) (hg2 : Gl X "set" := by rfl) (na : starEach [a] X.env = (false, eval a X.env) :: starEach [] X.env := by rfl) :
    PE X (.Call (.Name "sorted" p) [.Call (.Name "set" p2) [a] [] q] [] pos) (tSSV ta) := by
  constructor
  intro pins s σ H Q I h
  refine Call_ (ld_blt I hg hm (show bootBuiltins "sorted" = some (.builtin "sorted") by decide +kernel) (callWith_builtin1 (args_cons (Call_ (ld_blt I hg2 hm2 boot_set ?_)) rfl) rfl rfl))
  refine callWith_type1 (args_cons (thn (ha.run pins s σ H _ I h) fun v s1 ⟨x, H1, I1, r1, q1⟩ => args_nil ?_) na) na rfl
  obtain ⟨l, xs, rfl, hq, hlen, q1⟩ := q1
  cases r1
  obtain ⟨its, r, pl, hz⟩ := I1.list (.of hq)
  have hsz : its.toArray.size = xs.length := by rw [List.size_toArray, ← r.length]
  have fin : ∀ (s2 : Shared) (p : Addr) (os : List Value) (c : Nat) (zs : List V) (h2 : Heap) (tk : Nat), (∀ c o, c < s1.heap.objs.size → s1.heap.get? c = some o → h2.get? c = some o) → s1.heap.objs.size ≤ h2.objs.size → (∀ b o, h2.get? b = some o → s2.heap.get? b = some o) → s2.gens = s1.gens → s2.os = s1.os → h2.objs.size ≤ p → s2.heap.get? p = some (seqObj "list" os.toArray c) → Vals zs os → zs.length ≤ sizeLine → (H1 p = none → Q (.ref p) (upd H1 p (.lst zs))) → EP X pins σ Q (.ref p) s2 := by
    intro s2 p os c zs h2 tk kp hle k2 g2 o2 hp hg hv hl hQ
    have k : ∀ b o, s1.heap.get? b = some o → s2.heap.get? b = some o := fun b o e => k2 b o (kp b o (Heap.lt_size e) e)
    have hp' : s1.heap.objs.size ≤ p := Nat.le_trans hle hp
    have hn : H1 p = none := I1.hok.fresh hp'
    have J : Inv X pins σ (upd H1 p (.lst zs)) { s1 with heap := s2.heap, gens := s2.gens, drawn := s2.drawn, toks := s2.toks } :=
      I1.call (ch := []) (Un.laid k hp' hn) (I1.hok.laid k hp' ⟨hl, os, c, hv, hg⟩) (by rw [g2]; exact I1.bare) (fun _ z => nomatch z)
    have e : s2 = { s1 with heap := s2.heap, gens := s2.gens, drawn := s2.drawn, toks := s2.toks } := by
      cases s2
      cases s1
      cases o2
      rfl
    rw [e]
    exact ⟨.ref p, _, J, rfl, hQ hn⟩
  have hcalm := I1.ok.hd hc
  have hrm : its.toArray.size + 1 < scanBound := by rw [hsz]; exact hlen
  rcases q1 with ⟨ns, rfl, q1⟩ | ⟨ys, rfl, q1⟩
  · have hnl : ns.length = its.toArray.size := by rw [hsz, List.length_map]
    refine setM_of_list hcalm pl.isList (ks := ns.map fun i => (Sum.inl i : Key)) (fun i u e => ?_) (by rw [List.length_map]; exact hnl) hrm fun h2 tk so kp => ?_
    · have e' : its[i]? = some u := by simpa using e
      have hi : i < its.length := (List.getElem?_eq_some_iff.mp e').1
      have hi' : i < ns.length := by rw [hnl]; simpa using hi
      obtain ⟨u', e2, ru⟩ := r.get (i := i) (x := .int ns[i]) (by rw [List.getElem?_map, List.getElem?_eq_getElem hi']; rfl)
      rw [e'] at e2
      cases e2
      obtain ⟨t, rfl⟩ := ru
      exact ⟨.inl ns[i], by rw [List.getElem?_map, List.getElem?_eq_getElem hi']; rfl, by simp [keyIs, Value.isInt]⟩
    · apply args_nil
      have hle2 := dedup_le (ns.map fun i => (Sum.inl i : Key)) []
      simp only [List.length_nil, List.length_map, Nat.zero_add] at hle2
      have hlt : s1.heap.objs.size ≤ h2.objs.size := by
        obtain ⟨o, es, ep, t, ho, _⟩ := so
        exact Nat.le_of_lt (Heap.lt_size ho)
      refine sortedM (s := { s1 with heap := h2, toks := tk }) intOf .int (fun v i => ∃ t, v = Value.int i t) so hcalm (by omega) (by have : (16777216 : Nat) = sizeLine := rfl; rw [← this]; rw [List.length_map] at hlen; omega) (fun k v hk hv => ?_) (fun k v k' v' hk hk' hv hv' => rfl) (fun k v hk hv => ⟨(by intro z; cases z), fun xs z => by cases z⟩) fun s2 p os c vs k2 g2 o2 hp hgt eo pk gk => ?_
      · obtain ⟨i, _, rfl⟩ := keys_i.mp hk
        rcases keyIs_shape hv with ⟨j, t, e, rfl⟩ | ⟨x, t, e, rfl⟩
        · exact ⟨⟨t, rfl⟩, fun h => .int _ _, rfl⟩
        · cases e
      · have eh : PySem.W.dataLe false PyData.int = fun a b : Int => decide (a ≤ b) := PySem.W.dataLe_int (β := Int) fun i => i
        rw [eh] at eo
        have hv := each_ints eo
        have pr : ((vs.map intOf).mergeSort fun a b => decide (a ≤ b)).Perm (vs.map intOf) := List.mergeSort_perm _ _
        have kk : ∀ v ∈ vs, keyM (0, v) = .inl (intOf v) := fun v hv => by
          have hm := pk.mem_iff.mp (List.mem_map.mpr ⟨v, hv, rfl⟩)
          obtain ⟨i, _, e⟩ := keys_i.mp hm
          rcases keyIs_shape (gk v hv) with ⟨j, t, e', rfl⟩ | ⟨x, t, e', rfl⟩
          · rfl
          · rw [e] at e'; cases e'
        have pk' : ((vs.map intOf).map (fun i => (Sum.inl i : Key))).Perm (dedup [] (ns.map fun i => (Sum.inl i : Key))) := by
          rw [List.map_map]
          have : vs.map ((fun i => (Sum.inl i : Key)) ∘ intOf) = vs.map fun v => keyM (0, v) := List.map_congr_left fun v hv => (kk v hv).symm
          rw [this]; exact pk
        have nd : (vs.map intOf).Nodup := by
          have := pk'.nodup_iff.mpr (nodup_dedup _ _ List.nodup_nil)
          exact (List.pairwise_map.mp this).imp fun hne e => hne (by rw [e])
        refine fin s2 p os c _ h2 tk kp hlt k2 g2 o2 hp hgt hv ?_ fun hn => q1 _ p ?_ (fun x => ?_) hn
        · rw [List.length_map, List.length_mergeSort]
          have := pk'.length_eq
          rw [List.length_map] at this
          rw [List.length_map] at hlen
          show _ ≤ 16777216
          omega
        · refine pw_lt (le := fun a b : Int => decide (a ≤ b) = true) (fun a b h1 h2 => ?_) (List.pairwise_mergeSort (fun a b c h1 h2 => ?_) (fun a b => ?_) _) (pr.nodup_iff.mpr nd)
          · have := of_decide_eq_true h1; omega
          · have := of_decide_eq_true h1; have := of_decide_eq_true h2; exact decide_eq_true (by omega)
          · rw [Bool.or_eq_true, decide_eq_true_eq, decide_eq_true_eq]; omega
        · rw [pr.mem_iff]
          constructor
          · intro hx
            obtain ⟨i, hi, e⟩ := keys_i.mp (pk'.mem_iff.mp (List.mem_map.mpr ⟨x, hx, rfl⟩))
            cases e
            exact hi
          · intro hx
            obtain ⟨y, hy, e⟩ := List.mem_map.mp (pk'.mem_iff.mpr (keys_i.mpr ⟨x, hx, rfl⟩))
            cases e
            exact hy
  · have hnl : ys.length = its.toArray.size := by rw [hsz, List.length_map, List.length_map]
    refine setM_of_list hcalm pl.isList (ks := ys.map fun i => (Sum.inr (S2 i) : Key)) (fun i u e => ?_) (by rw [List.length_map]; exact hnl) hrm fun h2 tk so kp => ?_
    · have e' : its[i]? = some u := by simpa using e
      have hi : i < its.length := (List.getElem?_eq_some_iff.mp e').1
      have hi' : i < ys.length := by rw [hnl]; simpa using hi
      obtain ⟨u', e2, ru⟩ := r.get (i := i) (x := .str (S2 ys[i])) (by rw [List.getElem?_map, List.getElem?_map, List.getElem?_eq_getElem hi']; rfl)
      rw [e'] at e2
      cases e2
      obtain ⟨t, rfl⟩ := ru
      exact ⟨.inr (S2 ys[i]), by rw [List.getElem?_map, List.getElem?_eq_getElem hi']; rfl, by simp [keyIs, Value.isStrOf]⟩
    · apply args_nil
      have hle2 := dedup_le (ys.map fun i => (Sum.inr (S2 i) : Key)) []
      simp only [List.length_nil, List.length_map, Nat.zero_add] at hle2
      have hlt : s1.heap.objs.size ≤ h2.objs.size := by
        obtain ⟨o, es, ep, t, ho, _⟩ := so
        exact Nat.le_of_lt (Heap.lt_size ho)
      refine sortedM (s := { s1 with heap := h2, toks := tk }) strOf .str (fun v i => ∃ t, v = Value.str i t) so hcalm (by omega) (by have : (16777216 : Nat) = sizeLine := rfl; rw [← this]; rw [List.length_map, List.length_map] at hlen; omega) (fun k v hk hv => ?_) (fun k v k' v' hk hk' hv hv' => rfl) (fun k v hk hv => ⟨(by intro z; cases z), fun xs z => by cases z⟩) fun s2 p os c vs k2 g2 o2 hp hgt eo pk gk => ?_
      · obtain ⟨i, _, rfl⟩ := keys_s.mp hk
        rcases keyIs_shape hv with ⟨j, t, e, rfl⟩ | ⟨x, t, e, rfl⟩
        · cases e
        · exact ⟨⟨t, rfl⟩, fun h => .str _ _, rfl⟩
      · have eh : PySem.W.dataLe false PyData.str = fun a b : Str => decide (a.cps.toList ≤ b.cps.toList) := PySem.W.dataLe_str (β := Str) fun i => i
        rw [eh] at eo
        have hv := each_strs eo
        have pr : ((vs.map strOf).mergeSort fun a b : Str => decide (a.cps.toList ≤ b.cps.toList)).Perm (vs.map strOf) := List.mergeSort_perm _ _
        have kk : ∀ v ∈ vs, keyM (0, v) = .inr (strOf v) := fun v hv => by
          have hm := pk.mem_iff.mp (List.mem_map.mpr ⟨v, hv, rfl⟩)
          obtain ⟨i, _, e⟩ := keys_s.mp hm
          rcases keyIs_shape (gk v hv) with ⟨j, t, e', rfl⟩ | ⟨x, t, e', rfl⟩
          · rw [e] at e'; cases e'
          · rfl
        have pk' : ((vs.map strOf).map (fun i => (Sum.inr i : Key))).Perm (dedup [] (ys.map fun i => (Sum.inr (S2 i) : Key))) := by
          rw [List.map_map]
          have : vs.map ((fun i => (Sum.inr i : Key)) ∘ strOf) = vs.map fun v => keyM (0, v) := List.map_congr_left fun v hv => (kk v hv).symm
          rw [this]; exact pk
        have nd : (vs.map strOf).Nodup := by
          have := pk'.nodup_iff.mpr (nodup_dedup _ _ List.nodup_nil)
          exact (List.pairwise_map.mp this).imp fun hne e => hne (by rw [e])
        have eS : ∀ l : List Str, (l.map fun x => x.cps.toList).map S2 = l := fun l => by
          rw [List.map_map]
          exact (List.map_congr_left fun x _ => S2_eta x).trans (List.map_id l)
        have ems := eS ((vs.map strOf).mergeSort fun a b : Str => decide (a.cps.toList ≤ b.cps.toList))
        rw [← ems] at hv
        have pw : (((vs.map strOf).mergeSort fun a b : Str => decide (a.cps.toList ≤ b.cps.toList)).map fun x => x.cps.toList).Pairwise (· < ·) := by
          rw [List.pairwise_map]
          refine pw_lt (le := fun a b : Str => decide (a.cps.toList ≤ b.cps.toList) = true) (fun a b h1 h2 => ?_) (List.pairwise_mergeSort (fun a b c h1 h2 => ?_) (fun a b => ?_) _) (pr.nodup_iff.mpr nd)
          · have h1 := of_decide_eq_true h1
            by_cases h : a.cps.toList < b.cps.toList
            · exact h
            · exact (h2 (by rw [← S2_eta a, ← S2_eta b, List.le_antisymm h1 (List.not_lt.mp h)])).elim
          · exact decide_eq_true (List.le_trans (of_decide_eq_true h1) (of_decide_eq_true h2))
          · rw [Bool.or_eq_true, decide_eq_true_eq, decide_eq_true_eq]; exact List.le_total _ _
        refine fin s2 p os c _ h2 tk kp hlt k2 g2 o2 hp hgt hv ?_ fun hn => q1 _ p pw (fun x => ?_) hn
        · rw [List.length_map, List.length_map, List.length_map, List.length_mergeSort]
          have := pk'.length_eq
          rw [List.length_map] at this
          rw [List.length_map, List.length_map] at hlen
          show _ ≤ 16777216
          omega
        · rw [List.mem_map]
          constructor
          · rintro ⟨y, hy, rfl⟩
            obtain ⟨i, hi, e⟩ := keys_s.mp (pk'.mem_iff.mp (List.mem_map.mpr ⟨y, pr.mem_iff.mp hy, rfl⟩))
            have e1 : y = S2 i := by cases e; rfl
            rw [e1]
            exact hi
          · intro hx
            obtain ⟨y, hy, e⟩ := List.mem_map.mp (pk'.mem_iff.mpr (keys_s.mpr ⟨x, hx, rfl⟩))
            have e1 : y = S2 x := by cases e; rfl
            exact ⟨y, pr.mem_iff.mpr hy, by rw [e1]⟩
theorem df_sortedSet (hu : X.A.units + 65 < cLine) (hm : X.mg "sorted" = none) (hm2 : X.mg "set" = none) (ha : PE X a (lP ta)) (hc : X.calm = true := by rfl) (hg : Gl X "sorted" := by rfl) (hg2 : Gl X "set" := by rfl) (na : starEach [a] X.env = (false, eval a X.env) :: starEach [] X.env := by rfl) :
    PE X (.Call (.Name "sorted" p) [.Call (.Name "set" p2) [a] [] q] [] pos) (lF (dSS ta)) := PE.imp (pe_ssV hu hm hm2 ha hc hg hg2 na) fun σ H Q ⟨g, Qd, s, w, kk⟩ =>
  ⟨g, _, s, w, fun d v H1 w1 x1 s1 r1 => by
    match d, w1, r1 with
    | .lst ds, w1, r1 =>
      obtain ⟨l1, w1⟩ := w1
      obtain ⟨a, xs, rfl, ha, rl⟩ := r1.lst
      refine ⟨a, xs, rfl, ha, by rw [rl.length]; exact l1, ?_⟩
      rcases w1 with ⟨ns, e, w1⟩ | ⟨ys, e, w1⟩
      · have e' := intsD_eq e
        subst e'
        exact .inl ⟨ns, rl.ints, fun ms p h1 h2 hp => kk (.lst (ms.map .int)) p _ (w1 ms h1 h2) (x1.trans (.new hp)) (s1.alloc hp) (x1.none_of hp fun h => s1.fresh hp (res_M h.res)) (s1.fresh hp) (.lst upd_same (RpL.of_ints ms))⟩
      · have e' := strsQ_eq e
        subst e'
        exact .inr ⟨ys, rl.strs, fun ms p h1 h2 hp => kk (.lst (ms.map .str)) p _ (w1 ms h1 h2) (x1.trans (.new hp)) (s1.alloc hp) (x1.none_of hp fun h => s1.fresh hp (res_M h.res)) (s1.fresh hp) (.lst upd_same (RpL.of_strs ms))⟩⟩
end
end L2.DL


set_option Elab.async false
set_option linter.all false
set_option maxRecDepth 100000
set_option maxHeartbeats 4000000
namespace L2.DL
open PySem PySem.Spec PyProof.Rows
section
variable {X : Cx} {C f : Addr} {fd : FuncData} {ps ks : List Str} {tf : TDF} {k n m : Nat} {a e : Expr} {es : List Expr} {ta te : TDE} {ts tk : TDA} {pos p p2 q : Pos} {x : Str} {kws : List Keyword} {perm : List Nat}
/-! ### a def run a little deeper -/
theorem run_B {B : Around} {CX : CXT} {sp : Sp} {dvs : List V} {ds : List Value} {E : XK} {pins : List (Addr × Obj)} {σ : St} {H : Hp} {s : Shared} {Q : VK} {us : List Value} {vs : List V} (hf : B.frames = X.A.frames) (F : FnOk X.prog X.w X.K X.mg X.base CX k f fd ps sp) (hr : Room k B) (hb : Binds X.K fd ps ds) (hd : Vals dvs ds) (hx : Passes CX X E) (I : L2.Inv X pins σ H s) (r : Vals vs us) (h : sp (vs ++ dvs) H Q E) :
    wpAny (model X.prog X.w) B (call (.ref f) us) (EP X pins σ Q) X.xe s := by
  have r2 := Vals.append r hd
  have hl : (us ++ ds).length = ps.length := by rw [← r2.length]; exact F.len _ _ _ _ h
  have e := Inv.env0 I
  refine wpAny_call (codeAny_mono (F.run B X.stack s H ⟨us, []⟩ (us ++ ds) (vs ++ dvs) Q E hr ⟨hf.trans e.frames, e.mod, e.bs, e.bsz, e.funs, e.frf, e.hok, e.bare⟩ (hb s us I.kIn hl) r2 h) fun r s' hq => ?_)
  cases r with
  | error e => exact hx pins σ H s e s' I hq
  | ok fl => cases fl <;> first | exact hq.elim | exact I.after hq
theorem room_in1 {A : Around} (h : Room (k + 1) A) : Room k A.in1 := ⟨h.hd, by have := h.dp; show A.depth + 3 * k + 5 < _; omega, by have := h.un; show A.units + 1 + 16 * k + 200 < _; omega⟩
theorem room_in2 {A : Around} (h : Room (k + 1) A) : Room k A.in1.in1 := ⟨h.hd, by have := h.dp; show A.depth + 3 * k + 5 < _; omega, by have := h.un; show A.units + 1 + 1 + 16 * k + 200 < _; omega⟩
/-! ### repr(o), str(o), len(o) by an own method -/
structure Spec1 (K : PySem.W.Frag) (C : Addr) (nm : Str) (f : Addr) : Prop where
  at_ : PySem.W.findIn K (.ref C) nm = some (some (.ref f))
  fn : PySem.W.isFn K (.ref f) = true
def rOwn1 (C : Addr) (tf : TDF) (P : V → Prop) : List V → Hp → VK → Prop := fun xs H Q => ∃ a dx fs, xs = [.ref a] ∧ H a = some (.ins C dx fs) ∧ spE 1 tf [.ref a] H (fun v H' => P v ∧ Q v H') E0
theorem call_reprO (o : Spec1 X.K C "__repr__" f) (F : FnOk X.prog X.w X.K X.mg X.base CX0 k f fd ps (spE 1 tf)) (hr : Room (k + 1) X.A) (hb : Binds X.K fd ps []) : CallR X (.builtin "repr") (rOwn1 C tf fun v => ∃ x, v = .str x) := by
  intro pins s σ H xs us Q I r h
  obtain ⟨a, dx, fs, rfl, e, w⟩ := h
  obtain ⟨u, rfl, ru⟩ := vals1 r
  obtain rfl : u = Value.ref a := ru
  obtain ⟨ox, od, ia⟩ := instAt_of I.hok e
  obtain ⟨m, fr⟩ := I.fr
  refine PySem.W.repr_K (by have := hr.un; show X.A.units + 1 < _; omega) fr I.ok.mod.kin ia o.at_ o.fn (thn (run_B (B := X.A.in1) (dvs := []) (vs := [.ref a]) rfl F (room_in1 hr) hb .nil pass0 I (.cons (show RelV (.ref a) (.ref a) from rfl) .nil) w) fun v s' h => ?_)
  obtain ⟨z, H', I', rz, ⟨x, rfl⟩, qq⟩ := h
  obtain ⟨t, rfl⟩ := rz
  exact ⟨.str x, H', I', ⟨t, rfl⟩, qq⟩
theorem call_strO (o : Spec1 X.K C "__str__" f) (F : FnOk X.prog X.w X.K X.mg X.base CX0 k f fd ps (spE 1 tf)) (hr : Room (k + 1) X.A) (hb : Binds X.K fd ps []) : CallR X (.type "str") (rOwn1 C tf fun v => ∃ x, v = .str x) := by
  intro pins s σ H xs us Q I r h
  obtain ⟨a, dx, fs, rfl, e, w⟩ := h
  obtain ⟨u, rfl, ru⟩ := vals1 r
  obtain rfl : u = Value.ref a := ru
  obtain ⟨ox, od, ia⟩ := instAt_of I.hok e
  refine PySem.W.kso_call (by have := hr.un; show X.A.units + 1 + 1 < _; omega) I.kIn ia o.at_ o.fn (thn (run_B (B := X.A.in1.in1) (dvs := []) (vs := [.ref a]) rfl F (room_in2 hr) hb .nil pass0 I (.cons (show RelV (.ref a) (.ref a) from rfl) .nil) w) fun v s' h => ?_)
  obtain ⟨z, H', I', rz, ⟨x, rfl⟩, qq⟩ := h
  obtain ⟨t, rfl⟩ := rz
  exact ⟨.str x, H', I', ⟨t, rfl⟩, qq⟩
theorem call_lenO (o : Spec1 X.K C "__len__" f) (F : FnOk X.prog X.w X.K X.mg X.base CX0 k f fd ps (spE 1 tf)) (hr : Room (k + 1) X.A) (hb : Binds X.K fd ps []) : CallR X (.builtin "len") (rOwn1 C tf fun v => ∃ i : Int, (0 ≤ i ∧ i < 2 ^ 63) ∧ v = .int i) := by
  intro pins s σ H xs us Q I r h
  obtain ⟨a, dx, fs, rfl, e, w⟩ := h
  obtain ⟨u, rfl, ru⟩ := vals1 r
  obtain rfl : u = Value.ref a := ru
  obtain ⟨ox, od, ia⟩ := instAt_of I.hok e
  obtain ⟨m, fr⟩ := I.fr
  refine PySem.W.len_K fr I.ok.mod.kin ia o.at_ o.fn (thn (run_B (B := X.A.in1) (dvs := []) (vs := [.ref a]) rfl F (room_in1 hr) hb .nil pass0 I (.cons (show RelV (.ref a) (.ref a) from rfl) .nil) w) fun v s' h => ?_)
  obtain ⟨z, H', I', rz, ⟨i, hi, rfl⟩, qq⟩ := h
  obtain ⟨t, rfl⟩ := rz
  exact ⟨hi, .int i, H', I'.tok _, ⟨_, rfl⟩, qq⟩
def rStrO (C : Addr) (tf : TDF) : RDC
  | [.ins C' ns vs], Q => C' = C ∧ tf [.ins C' ns vs] fun r => ∃ x, r = .str x ∧ Q r
  | _, _ => False
def rLenO (C : Addr) (tf : TDF) : RDC
  | [.ins C' ns vs], Q => C' = C ∧ tf [.ins C' ns vs] fun r => ∃ i : Int, r = .int i ∧ (0 ≤ i ∧ i < 2 ^ 63) ∧ Q r
  | _, _ => False
def dOwn1 (R : RDC) (te : TDE) : TDE := fun S Q => te S fun d => R [d] Q
theorem own1_imp {Y : Expr} {P : V → Prop} {Rd : D → Prop} {R : RDC} (hY : PE X Y (tCB (rOwn1 C tf P) (tCons (lE te) tNil))) (hR : ∀ d Qd, R [d] Qd → ∃ ns vs, d = .ins C ns vs ∧ tf [d] fun r => Rd r ∧ Qd r) (hP : ∀ (g : Gh) H v d, Rd d → Rp g.z g.M H v d → P v) : PE X Y (lE (dOwn1 R te)) :=
  PE.imp hY fun σ H Q ⟨g, Qd, s, w, kk⟩ => ⟨g, _, s, w, fun d v H1 w1 x1 s1 r1 => by
    obtain ⟨ns, vs, rfl, w2⟩ := hR _ _ w1
    obtain ⟨a, dx, fs, rfl, h, _⟩ := Pk.ins (.inl r1)
    exact ⟨a, dx, fs, rfl, h, rfl, g.z, g.M, _, _, s1.amb, .cons r1 .nil, w2, fun d v H' q x b rp => ⟨hP g H' v d q.1 rp, kk d v H' q.2 (x1.trans x) (s1.ext x b) rp⟩⟩⟩
theorem str_val (g : Gh) (H : Hp) (v : V) (d : D) (h : ∃ x, d = .str x) (r : Rp g.z g.M H v d) : ∃ x, v = .str x := by
  obtain ⟨x, rfl⟩ := h
  cases r
  exact ⟨_, rfl⟩
theorem de_reprO (he : PE X e (lE te)) (o : Spec1 X.K C "__repr__" f) (F : FnOk X.prog X.w X.K X.mg X.base CX0 k f fd ps (spE 1 tf)) (hr : Room (k + 1) X.A) (hbn : ∃ dsv, Vals [] dsv ∧ Binds X.K fd ps dsv) (hm : X.mg "repr" = none) (hg : Gl X "repr" := by rfl) (hs : starEach [e] X.env = (false, eval e X.env) :: starEach [] X.env := by rfl) : PE X (.Call (.Name "repr" p) [e] [] pos) (lE (dOwn1 (rStrO C tf) te)) := by
  obtain ⟨dsv, hv, hbn⟩ := hbn
  cases hv
  refine own1_imp (Rd := fun d => ∃ x, d = .str x) (pe_callB (call_reprO o F hr hbn) hg hm (by decide +kernel) (pa_cons he pa_nil hs) (he := hs) (hpl := by rfl)) (fun d Qd h => ?_) str_val
  cases d <;> try (exact h.elim)
  · obtain ⟨rfl, h⟩ := h
    refine ⟨_, _, rfl, ?_⟩
    have eq : (fun r => ∃ x, r = D.str x ∧ Qd r) = fun r => (∃ x, r = D.str x) ∧ Qd r := by
      funext r
      exact propext ⟨fun ⟨x, a, b⟩ => ⟨⟨x, a⟩, b⟩, fun ⟨⟨x, a⟩, b⟩ => ⟨x, a, b⟩⟩
    rw [← eq]; exact h
theorem de_strO (he : PE X e (lE te)) (o : Spec1 X.K C "__str__" f) (F : FnOk X.prog X.w X.K X.mg X.base CX0 k f fd ps (spE 1 tf)) (hr : Room (k + 1) X.A) (hbn : ∃ dsv, Vals [] dsv ∧ Binds X.K fd ps dsv) (hm : X.mg "str" = none) (hg : Gl X "str" := by rfl) (hs : starEach [e] X.env = (false, eval e X.env) :: starEach [] X.env := by rfl) : PE X (.Call (.Name "str" p) [e] [] pos) (lE (dOwn1 (rStrO C tf) te)) := by
  obtain ⟨dsv, hv, hbn⟩ := hbn
  cases hv
  refine own1_imp (Rd := fun d => ∃ x, d = .str x) (pe_callTy (call_strO o F hr hbn) hg hm (by decide +kernel) (pa_cons he pa_nil hs) (he := hs) (hpl := by rfl)) (fun d Qd h => ?_) str_val
  cases d <;> try (exact h.elim)
  · obtain ⟨rfl, h⟩ := h
    refine ⟨_, _, rfl, ?_⟩
    have eq : (fun r => ∃ x, r = D.str x ∧ Qd r) = fun r => (∃ x, r = D.str x) ∧ Qd r := by
      funext r
      exact propext ⟨fun ⟨x, a, b⟩ => ⟨⟨x, a⟩, b⟩, fun ⟨⟨x, a⟩, b⟩ => ⟨x, a, b⟩⟩
    rw [← eq]; exact h
theorem de_lenO (he : PE X e (lE te)) (o : Spec1 X.K C "__len__" f) (F : FnOk X.prog X.w X.K X.mg X.base CX0 k f fd ps (spE 1 tf)) (hr : Room (k + 1) X.A) (hbn : ∃ dsv, Vals [] dsv ∧ Binds X.K fd ps dsv) (hm : X.mg "len" = none) (hg : Gl X "len" := by rfl) (hs : starEach [e] X.env = (false, eval e X.env) :: starEach [] X.env := by rfl) : PE X (.Call (.Name "len" p) [e] [] pos) (lE (dOwn1 (rLenO C tf) te)) := by
  obtain ⟨dsv, hv, hbn⟩ := hbn
  cases hv
  refine own1_imp (Rd := fun d => ∃ i : Int, d = .int i ∧ (0 ≤ i ∧ i < 2 ^ 63)) (pe_callB (call_lenO o F hr hbn) hg hm (by decide +kernel) (pa_cons he pa_nil hs) (he := hs) (hpl := by rfl)) (fun d Qd h => ?_) (fun g H v d h r => ?_)
  · cases d <;> try (exact h.elim)
    · obtain ⟨rfl, h⟩ := h
      refine ⟨_, _, rfl, ?_⟩
      have eq : (fun r => ∃ i : Int, r = D.int i ∧ (0 ≤ i ∧ i < 2 ^ 63) ∧ Qd r) = fun r => (∃ i : Int, r = D.int i ∧ (0 ≤ i ∧ i < 2 ^ 63)) ∧ Qd r := by
        funext r
        exact propext ⟨fun ⟨x, a, b, c⟩ => ⟨⟨x, a, b⟩, c⟩, fun ⟨⟨x, a, b⟩, c⟩ => ⟨x, a, b, c⟩⟩
      rw [← eq]; exact h
  · obtain ⟨i, rfl, hi⟩ := h
    cases r
    exact ⟨i, hi, rfl⟩
/-! ### repr(text) -/
def reprL (x : List Nat) : List Nat := (reprText (S2 x)).cps.toList
def rReprS : RDC
  | [.str x], Q => (reprL x).length ≤ sizeLine ∧ Q (.str (reprL x))
  | _, _ => False
theorem call_reprS : CallR X (.builtin "repr") (fun xs H Q => ∃ y : Str, xs = [.str y] ∧ (reprText y).length ≤ sizeLine ∧ Q (.str (reprText y)) H) := by
  intro pins s σ H xs us Q I r h
  obtain ⟨y, rfl, hz, qq⟩ := h
  obtain ⟨u, rfl, ru⟩ := vals1 r
  obtain ⟨t, rfl⟩ := ru
  exact PySem.P.repr_of_str ⟨.str (reprText y), H, I.tok _, ⟨_, rfl⟩, qq⟩ hz
theorem real_reprS : RealC (fun xs H Q => ∃ y : Str, xs = [.str y] ∧ (reprText y).length ≤ sizeLine ∧ Q (.str (reprText y)) H) rReprS := by
  intro g σ H xs ds Qd Q s hx w k
  match ds, w, hx with
  | [.str x], w, hx =>
    obtain ⟨v, rfl, h⟩ := hx.one
    obtain rfl := h.str
    exact ⟨S2 x, rfl, w.1, k.here s w.2 (.str (reprL x))⟩
theorem de_reprS (hm : X.mg "repr" = none) (ha : PA X [e] (lAP ts)) (hg : Gl X "repr" := by rfl) (he : starEach [e] X.env = (false, eval e X.env) :: starEach [] X.env := by rfl) : PE X (.Call (.Name "repr" p) [e] [] pos) (lE (dCall rReprS ts)) := de_callB call_reprS real_reprS hg hm (by decide +kernel) ha (he := he) (hpl := by rfl)
/-! ### list(text) -/
def rListS : RDC
  | [.str x], Q => x.length ≤ sizeLine ∧ Q (.lst (x.map fun c => .str [c]))
  | _, _ => False
theorem call_listS (hc : X.calm = true) : CallR X (.type "list") (fun xs H Q => ∃ y : Str, xs = [.str y] ∧ y.cps.size ≤ sizeLine ∧ ∀ l, H l = none → Q (.ref l) (upd H l (.lst (y.cps.toList.map fun c => .str ⟨#[c]⟩)))) := by
  intro pins s σ H xs us Q I r h
  obtain ⟨y, rfl, hz, qq⟩ := h
  obtain ⟨u, rfl, ru⟩ := vals1 r
  obtain ⟨t, rfl⟩ := ru
  refine call_list_str (I.ok.hd hc) y t (fun h2 tk acc c hk e hi => ?_) hz
  refine ⟨.ref s.heap.objs.size, upd H s.heap.objs.size (.lst (y.cps.toList.map fun c => .str ⟨#[c]⟩)), I.laid hk (Nat.le_refl _) ⟨by rw [List.length_map, Array.length_toList]; exact hz, acc.toList, c, ?_, by rw [Array.toArray_toList]; exact e⟩, rfl, qq _ (I.hok.fresh (Nat.le_refl _))⟩
  refine vals_of_idx _ _ (by rw [List.length_map, Array.length_toList, Array.length_toList]; exact hi.1) fun j u hj => ?_
  obtain ⟨c, t', hc, rfl⟩ := hi.2 j u (by rw [← Array.getElem?_toList]; exact hj)
  exact ⟨.str ⟨#[c]⟩, by rw [List.getElem?_map, Array.getElem?_toList, hc]; rfl, ⟨_, rfl⟩⟩
theorem real_listS : RealCF (fun xs H Q => ∃ y : Str, xs = [.str y] ∧ y.cps.size ≤ sizeLine ∧ ∀ l, H l = none → Q (.ref l) (upd H l (.lst (y.cps.toList.map fun c => .str ⟨#[c]⟩)))) rListS := by
  intro g σ H xs ds Qd Q s hx w k
  match ds, w, hx with
  | [.str x], w, hx =>
    obtain ⟨v, rfl, h⟩ := hx.one
    obtain rfl := h.str
    have key : ∀ (z : Bz) (M : MS) (H : Hp) (l : List Nat), RpL z M H (l.map fun c => V.str ⟨#[c]⟩) (l.map fun c => D.str [c]) := fun z M H l => by
      induction l with
      | nil => exact .nil
      | cons c l ih => exact .cons (.str [c]) ih
    exact ⟨S2 x, rfl, by simpa using w.1, fun l hl => k.lst s hl w.2 (key _ _ _ x)⟩
theorem df_listS (hm : X.mg "list" = none) (ha : PA X [e] (lAP ts)) (hc : X.calm = true := by rfl) (hg : Gl X "list" := by rfl) (he : starEach [e] X.env = (false, eval e X.env) :: starEach [] X.env := by rfl) : PE X (.Call (.Name "list" p) [e] [] pos) (lF (dCall rListS ts)) := df_callTy (call_listS hc) real_listS hg hm (by decide +kernel) ha (he := he) (hpl := by rfl)
/-! ### f-strings -/
def dFmt (te : TDE) : TDE := fun S Q => te S fun d => match d with
  | .str y => y.length ≤ sizeLine ∧ Q (.str y)
  | .int i => i.natAbs.log2 < 1920 ∧ Q (.str (decOf i))
  | _ => False
def dFmtR (te : TDE) : TDE := fun S Q => te S fun d => match d with
  | .str y => (reprL y).length ≤ sizeLine ∧ Q (.str (reprL y))
  | .int i => i.natAbs.log2 < 1920 ∧ Q (.str (decOf i))
  | _ => False
theorem de_fmt (he : PE X e (lE te)) : PE X (.FormattedValue e (-1) none pos) (lE (dFmt te)) := PE.imp (pe_fmt he) fun σ H Q ⟨g, Qd, s, w, kk⟩ =>
  ⟨g, _, s, w, fun d v H1 w1 x1 s1 r1 => by
    match d, w1, r1 with
    | .str y, w1, r1 =>
      cases r1
      exact .inl ⟨S2 y, rfl, by rw [S2_length]; exact w1.1, kk (.str y) _ H1 w1.2 x1 s1 (.str y)⟩
    | .int i, w1, r1 =>
      cases r1
      exact .inr ⟨i, rfl, w1.1, kk (.str (decOf i)) _ H1 w1.2 x1 s1 (.str (decOf i))⟩⟩
theorem de_fmtR (he : PE X e (lE te)) : PE X (.FormattedValue e 114 none pos) (lE (dFmtR te)) := PE.imp (pe_fmtR he) fun σ H Q ⟨g, Qd, s, w, kk⟩ =>
  ⟨g, _, s, w, fun d v H1 w1 x1 s1 r1 => by
    match d, w1, r1 with
    | .str y, w1, r1 =>
      cases r1
      exact .inl ⟨S2 y, rfl, w1.1, kk (.str (reprL y)) _ H1 w1.2 x1 s1 (.str (reprL y))⟩
    | .int i, w1, r1 =>
      cases r1
      exact .inr ⟨i, rfl, w1.1, kk (.str (decOf i)) _ H1 w1.2 x1 s1 (.str (decOf i))⟩⟩
inductive PJD (X : Cx) : List Expr → List TDE → Prop
  | nil : PJD X [] []
  | cons {e : Expr} {t : TDE} {es : List Expr} {ts : List TDE} (h : PE X e (lE t)) (r : PJD X es ts) : PJD X (e :: es) (t :: ts)
theorem PJD.pj : ∀ {es : List Expr} {ts : List TDE}, PJD X es ts → PJ X es (ts.map lE)
  | _, _, .nil => .nil
  | _, _, .cons h r => .cons h r.pj
def dJs : List TDE → List Nat → SS → (List Nat → Prop) → Prop
  | [], acc, _, Q => Q acc
  | t :: ts, acc, S, Q => t S fun d => ∃ y, d = .str y ∧ acc.length + y.length ≤ sizeLine ∧ dJs ts (acc ++ y) S Q
def dJoined (ts : List TDE) : TDE := fun S Q => dJs ts [] S fun out => Q (.str out)
theorem js_imp : ∀ (ts : List TDE) (acc : List Nat) {g : Gh} {σ : St} {H : Hp} {Qd : D → Prop} {Q : VK}, Stt g σ H → dJs ts acc g.S (fun out => Qd (.str out)) → (∀ d v H', Qd d → Ext g.z H H' → Stt g σ H' → Rp g.z g.M H' v d → Q v H') → tJs (ts.map lE) (S2 acc) σ H fun out H1 => Q (.str out) H1
  | [], acc, g, σ, H, Qd, Q, s, w, kk => kk (.str acc) _ H w .refl s (.str acc)
  | t :: ts, acc, g, σ, H, Qd, Q, s, w, kk => ⟨g, _, s, w, fun d v H1 w1 x1 s1 r1 => by
    obtain ⟨y, rfl, hz, w2⟩ := w1
    cases r1
    refine ⟨S2 y, rfl, by rw [S2_append, S2_length, List.length_append]; exact hz, ?_⟩
    rw [S2_append]
    exact js_imp ts (acc ++ y) s1 w2 fun d v H' q x s' r => kk d v H' q (x1.trans x) s' r⟩
theorem de_joined {v1 v2 : Expr} {rest : List Expr} {ts : List TDE} (h : PJD X (v1 :: v2 :: rest) ts) : PE X (.JoinedStr (v1 :: v2 :: rest) pos) (lE (dJoined ts)) := PE.imp (pe_joined h.pj) fun σ H Q ⟨g, Qd, s, w, kk⟩ => js_imp ts [] s w kk
theorem de_joined1 (he : PE X e (lE te)) : PE X (.JoinedStr [e] pos) (lE te) := pe_joined1 he
/-! ### constants of a class -/
theorem de_cval {mc : Value} {v : V} {d : D} {fl : Str} (he : PE X e (lE te)) (r : ClX.CRead X.K C mc) (c : ∃ u, ClX.CVal X.K C mc fl v u) (hd : ∀ z M H, Rp z M H v d) (hb : attributeBase e fl X.env (eval e X.env) = eval e X.env := by rfl) : PE X (.Attribute e fl pos) (lE (fun S Q => te S fun z => z = .raw (.ref C) ∧ Q d)) :=
  PE.imp (ClX.pe_cval he hb) fun σ H Q ⟨g, Qd, s, w, kk⟩ => ⟨g, _, s, w, fun z v' H1 w1 x1 s1 r1 => by
    obtain ⟨rfl, w1⟩ := w1
    cases r1
    obtain ⟨u, c⟩ := c
    exact ⟨C, mc, v, u, rfl, r, c, kk d v H1 w1 x1 s1 (hd _ _ _)⟩⟩
/-! ### C(.., k = v) -/
theorem permL_shift {α : Type} (x : α) (l : List α) : ∀ perm : List Nat, permL (perm.map (· + 1)) (x :: l) = permL perm l
  | [] => rfl
  | i :: p => by rw [List.map_cons, permL_cons, permL_cons, permL_shift x l p, List.getElem?_cons_succ]
theorem df_makeK0 (M : Mk X.K C f) (F : FnOk X.prog X.w X.K X.mg X.base CX0 k f fd ps (spI C n tf)) (hr : Room (k + 1) X.A) (hm : X.mg x = some (.ref C)) (hb : KBp X.K fd ps 1 ks (0 :: perm.map (· + 1))) (hkw : PK X kws (lA tk)) (hn : ∀ ds Q, tf ds Q → ds.length = n) (hg : Gl X x := by rfl)
    (hall : (backToKw pos (keywordEach kws X.env)).all (·.1.isSome) = true := by rfl) (hks : (backToKw pos (keywordEach kws X.env)).filterMap (·.1) = ks := by rfl) (hdb : (x == ("__debug__" : Str)) = false := by decide) (hpl : ((backTo pos (starEach [] X.env)).any (·.1) || (backToKw pos (keywordEach kws X.env)).any (·.1.isNone)) = false := by rfl) :
    PE X (.Call (.Name x p) [] kws pos) (lF (dFnK 0 ks.length perm tf daNil tk)) := PE.imp (pe_makeK0 M F hr hg hm hb pass0 hkw hall hks hdb hpl) fun σ H Q ⟨g, Qd, s, w, kk⟩ =>
  ⟨g, _, s, w, fun ds vs H1 w1 x1 s1 r1 => by
    obtain ⟨_, l2, w1⟩ := w1
    have r2 := permL_rpl r1 perm
    refine ⟨rfl, by rw [r1.length]; exact l2, fun y dx hy hdx ne => ?_⟩
    have e1 : permL (0 :: perm.map (· + 1)) ([V.ref y] ++ vs) = V.ref y :: permL perm vs := by
      rw [permL_cons, List.singleton_append, permL_shift]; rfl
    refine ⟨H1, y, dx, permL perm vs, _, g.z, g.M, Qd, e1, by rw [r2.length]; exact hn _ _ w1, rfl, hy, hdx, ne, s1.amb, r2, w1, fun ns us H' q x b o => ⟨rfl, kk (.ins C ns us) y H' q (x1.trans x) (s1.ext x b) (x1.none_of hy fun h => s1.fresh hy (res_M h.res)) (s1.fresh hy) o⟩⟩⟩
theorem df_makeK (M : Mk X.K C f) (F : FnOk X.prog X.w X.K X.mg X.base CX0 k f fd ps (spI C n tf)) (hr : Room (k + 1) X.A) (hm : X.mg x = some (.ref C)) (hb : KBp X.K fd ps (m + 1) ks (0 :: perm.map (· + 1))) (ha : PA X (e :: es) (lA ts)) (hkw : PK X kws (lA tk)) (hn : ∀ ds Q, tf ds Q → ds.length = n) (hg : Gl X x := by rfl)
    (hall : (backToKw pos (keywordEach kws X.env)).all (·.1.isSome) = true := by rfl) (hks : (backToKw pos (keywordEach kws X.env)).filterMap (·.1) = ks := by rfl) (hdb : (x == ("__debug__" : Str)) = false := by decide) (he : starEach (e :: es) X.env = (false, eval e X.env) :: starEach es X.env := by rfl) (hpl : ((backTo pos (starEach (e :: es) X.env)).any (·.1) || (backToKw pos (keywordEach kws X.env)).any (·.1.isNone)) = false := by rfl) :
    PE X (.Call (.Name x p) (e :: es) kws pos) (lF (dFnK m ks.length perm tf ts tk)) := PE.imp (pe_makeK M F hr hg hm hb pass0 ha hkw hall hks hdb he hpl) fun σ H Q ⟨g, Qd, s, w, kk⟩ =>
  ⟨g, _, s, w, fun ds vs H1 w1 x1 s1 r1 => ⟨g, _, s1, w1, fun es zs H2 w2 x2 s2 rz => by
    obtain ⟨l1, l2, w2⟩ := w2
    have r1' := r1.ext x2
    have r2 := permL_rpl (r1'.append rz) perm
    refine ⟨by rw [r1'.length]; exact l1, by rw [rz.length]; exact l2, fun y dx hy hdx ne => ?_⟩
    have e1 : permL (0 :: perm.map (· + 1)) ((V.ref y :: vs) ++ zs) = V.ref y :: permL perm (vs ++ zs) := by
      rw [permL_cons, List.cons_append, permL_shift]; rfl
    refine ⟨H2, y, dx, permL perm (vs ++ zs), _, g.z, g.M, Qd, e1, by rw [r2.length]; exact hn _ _ w2, rfl, hy, hdx, ne, s2.amb, r2, w2, fun ns us H' q x b o => ⟨rfl, kk (.ins C ns us) y H' q ((x1.trans x2).trans x) (s2.ext x b) ((x1.trans x2).none_of hy fun h => s2.fresh hy (res_M h.res)) (s2.fresh hy) o⟩⟩⟩⟩
end
end L2.DL


set_option Elab.async false
set_option linter.all false
set_option maxRecDepth 100000
set_option maxHeartbeats 4000000
namespace L2.DL
open PySem PySem.Spec PyProof.Rows
/-! ### dict comprehensions whose keys are ints, texts or flat tuples -/
section
variable {X : Cx} {pins : List (Addr × Obj)} {σ : St} {H H' : Hp} {s : Shared} {a : Addr} {y v : V} {u r : Value} {A : Around} {E : Value → Shared → Prop}
theorem tup_room (hu : A.units + 1 < cLine) {P : Program} {w : World} : (tupleKind (mixKind P w)).room A := by
  have := tupleKind_room_in1 (A := A) (prog := P) (w := w) (knd := mixKind P w) hu
  show A.units < cLine
  omega
theorem dput_do {Q : Unit → Shared → Prop} (hu : A.units + 1 < cLine) (I : Inv X pins σ H s) (g : DPut H a y v H') (ry : RelV y u) (rv : RelV v r) (h : ∀ t, Inv X pins σ H' t → Q () t) :
    wpAny (model X.prog X.w) A (dictSet a u r) Q E s := by
  rcases g with ⟨kvs, k, e, ey, l, eH⟩ | ⟨kvs, k, b, e, ey, eb, l, eH⟩ <;> subst ey <;> subst eH
  · obtain ⟨z, hd, vs, rel, dd⟩ := dk_of I.hok e
    have l1 := length_putK kvs k v
    have l2 := rel.length
    refine wpAny_dictSet_pairs (hsz := by omega) (kV_is ry) dd fun h2 d2 hs => h _ ?_
    obtain ⟨q, hq⟩ : ∃ q, h2.get? a = some q := let ⟨q, _, _, hq, _⟩ := d2; ⟨q, hq⟩
    exact d_write I (by rw [e]; trivial) hs ⟨q, hq⟩ (dk_new (by omega) hd (rel.put k rv) d2)
  · obtain rfl : u = Value.ref b := ry
    obtain ⟨z, hd, xs, rel, dd⟩ := dt_of I.hok e
    have l1 := length_putK kvs k v
    have l2 := Paired.length rel
    refine wpAny_dictSet_heap (hsz := by omega) (tup_room hu) (key_of I.hok eb) dd fun h2 d2 hs => h _ ?_
    obtain ⟨q, es, ep, hq, h2', h3, h4, _, h5⟩ := d2
    refine d_write I (by rw [e]; trivial) hs ⟨q, hq⟩ ⟨by omega, hd, _, (rel.put k eb rv).keeps fun c ys ec => ?_, q, es, ep, hq, h2', h3, h4, h5⟩
    rw [upd_ne (ne_of ec e fun z => nomatch z)]
    exact ec
end
/-- an empty dict, its keys of either kind -/
def Emp (o : HO) : Prop := o = .dK [] ∨ o = .dT []
theorem emp_ok {P : Program} {w : World} {H : Hp} {o : HO} (h : Emp o) (hp : Heap) (hb : sysModules < hp.objs.size) : ObjOk P w H (hp.push { cls := .type "dict", data := .dict #[] }) hp.objs.size o := by
  rcases h with rfl | rfl
  · exact dk_empty hp hb
  · exact dt_empty hp hb
abbrev Hrd (P : Program) (w : World) (A : Around) (env : Env) (R : Result → Shared → Prop) : Value → Shared → Prop := notedBy (model P w) A env fun e s => R (.error e) s
section
variable {P : Program} {w : World} {A : Around} {R : Result → Shared → Prop} {s : Shared} {kx vx t0 i0 t1 i1 : Expr} {f0 f1 : List Expr} {scope : Scope} {pos : Pos} {it : Value} {D : Addr} {env : Env}
abbrev DC2 (kx vx t0 i0 t1 i1 : Expr) (f0 f1 : List Expr) (scope : Scope) (pos : Pos) : Expr := .DictComp kx vx [⟨t0, i0, f0, 0⟩, ⟨t1, i1, f1, 0⟩] scope pos
abbrev tsts (env : Env) (fs : List Expr) : Sem Bool := forIn fs true fun c r => if r = true then do let ok ← isTrue c env (eval c env); pure (ForInStep.yield ok) else pure (ForInStep.yield r)
theorem dturn_out : compTurn (DC2 kx vx t0 i0 t1 i1 f0 f1 scope pos) 0 it (.ref D) env = (do
    standAt i0.pos
    match ← pyNext it with
    | none => pure (.done .next)
    | some v =>
      letOwnedTupleGo t0 it v
      assign t0 env v
      let mut ok := true
      for c in f0 do
        if ok then ok ← isTrue c env (eval c env)
      if ok then
        let x ← eval i1 env
        standAt i1.pos
        let x ← foldedSetIterable i1 env x
        let _ ← runOwn (.compStart (DC2 kx vx t0 i0 t1 i1 f0 f1 scope pos) 1 (← holding [x] (pyIter x)) (.ref D) env) env
      again (.compLoop (DC2 kx vx t0 i0 t1 i1 f0 f1 scope pos) 0 it (.ref D) env)) := by rfl
theorem dturn_in : compTurn (DC2 kx vx t0 i0 t1 i1 f0 f1 scope pos) 1 it (.ref D) env = (do
    standAt i1.pos
    match ← pyNext it with
    | none => pure (.done .next)
    | some v =>
      letOwnedTupleGo t1 it v
      assign t1 env v
      let mut ok := true
      for c in f1 do
        if ok then ok ← isTrue c env (eval c env)
      if ok then
        (do
          let kv ← eval kx env
          let vv ← holding [kv] (eval vx env)
          standAt { kx.pos with endLine := vx.pos.endLine, endCol := vx.pos.endCol }
          holding [kv, vv] (dictSet D kv vv))
      again (.compLoop (DC2 kx vx t0 i0 t1 i1 f0 f1 scope pos) 1 it (.ref D) env)) := by rfl
theorem dloop_out (hs : ∀ x, foldedSetIterable i1 env x = pure x) (J : Nat → Shared → Prop)
    (turn : ∀ n s, J n s → wpAny (model P w) A (pyNext it) (fun r s1 => match r with
      | none => R (.ok .next) s1
      | some v => wpAny (model P w) A (letOwnedTupleGo t0 it v) (fun _ s2 => wpAny (model P w) A (assign t0 env v) (fun _ s3 => wpAny (model P w) A (tsts env f0) (fun ok s4 =>
          if ok = true then wpAny (model P w) A (eval i1 env) (fun x s5 => wpAny (model P w) A (pyIter x) (fun it1 s6 =>
            codeAny (model P w) A (.compStart (DC2 kx vx t0 i0 t1 i1 f0 f1 scope pos) 1 it1 (.ref D) env) (fun r t => match r with
              | .ok _ => ∃ m, m < n ∧ J m t
              | .error _ => False) s6) (Hrd P w A env R) s5) (Hrd P w A env R) s4
          else ∃ m, m < n ∧ J m s4) (Hrd P w A env R) s3) (Hrd P w A env R) s2) (Hrd P w A env R) s1) (Hrd P w A env R) s)
    (n : Nat) (h : J n s) : codeAny (model P w) A (.compLoop (DC2 kx vx t0 i0 t1 i1 f0 f1 scope pos) 0 it (.ref D) env) R s := by
  apply codeAny_loop rfl J _ n h
  intro n s hJ
  change wpAny _ A ((compTurn (DC2 kx vx t0 i0 t1 i1 f0 f1 scope pos) 0 it (.ref D) env).onRaise (fun x => do noteFrame x env; theTreesLotGoes x)) _ _ s
  apply wpAny_noted
  rw [dturn_out]
  apply wpAny_bind
  apply wpAny_standAt
  apply wpAny_bind
  apply wpAny_mono (turn n s hJ) _ fun _ _ h => h
  intro r s1 h1
  cases r with
  | none => exact wpAny_pure h1
  | some v =>
    apply wpAny_bind
    apply wpAny_mono h1 _ fun _ _ h => h
    intro _ s2 h2
    apply wpAny_bind
    apply wpAny_mono h2 _ fun _ _ h => h
    intro _ s3 h3
    apply wpAny_bind
    apply wpAny_mono h3 _ fun _ _ h => h
    intro ok s4 h4
    cases ok with
    | false => exact wpAny_pure ⟨rfl, h4⟩
    | true =>
      apply wpAny_bind
      apply wpAny_mono h4 _ fun _ _ h => h
      intro x s5 h5
      apply wpAny_bind
      apply wpAny_standAt
      apply wpAny_bind
      apply wpAny_of_eq (hs x)
      apply wpAny_bind
      apply wpAny_holding
      apply wpAny_mono h5 _ fun _ _ h => h
      intro it1 s6 h6
      apply wpAny_bind
      refine wpAny_runOwn ?_
      rw [Around.mark_none]
      apply codeAny_mono h6
      intro r t hr
      cases r with
      | ok f => first | exact wpAny_pure ⟨rfl, hr⟩ | exact wpAny_bind (wpAny_pure (wpAny_pure ⟨rfl, hr⟩))
      | error e => exact hr.elim
theorem dloop_in (J : Nat → Shared → Prop)
    (turn : ∀ n s, J n s → wpAny (model P w) A (pyNext it) (fun r s1 => match r with
      | none => R (.ok .next) s1
      | some v => wpAny (model P w) A (letOwnedTupleGo t1 it v) (fun _ s2 => wpAny (model P w) A (assign t1 env v) (fun _ s3 => wpAny (model P w) A (tsts env f1) (fun ok s4 =>
          if ok = true then wpAny (model P w) A (eval kx env) (fun kv s5 => wpAny (model P w) A (eval vx env) (fun vv s6 => wpAny (model P w) A (dictSet D kv vv) (fun _ s7 => ∃ m, m < n ∧ J m s7) (Hrd P w A env R) s6) (Hrd P w A env R) s5) (Hrd P w A env R) s4
          else ∃ m, m < n ∧ J m s4) (Hrd P w A env R) s3) (Hrd P w A env R) s2) (Hrd P w A env R) s1) (Hrd P w A env R) s)
    (n : Nat) (h : J n s) : codeAny (model P w) A (.compLoop (DC2 kx vx t0 i0 t1 i1 f0 f1 scope pos) 1 it (.ref D) env) R s := by
  apply codeAny_loop rfl J _ n h
  intro n s hJ
  change wpAny _ A ((compTurn (DC2 kx vx t0 i0 t1 i1 f0 f1 scope pos) 1 it (.ref D) env).onRaise (fun x => do noteFrame x env; theTreesLotGoes x)) _ _ s
  apply wpAny_noted
  rw [dturn_in]
  apply wpAny_bind
  apply wpAny_standAt
  apply wpAny_bind
  apply wpAny_mono (turn n s hJ) _ fun _ _ h => h
  intro r s1 h1
  cases r with
  | none => exact wpAny_pure h1
  | some v =>
    apply wpAny_bind
    apply wpAny_mono h1 _ fun _ _ h => h
    intro _ s2 h2
    apply wpAny_bind
    apply wpAny_mono h2 _ fun _ _ h => h
    intro _ s3 h3
    apply wpAny_bind
    apply wpAny_mono h3 _ fun _ _ h => h
    intro ok s4 h4
    cases ok with
    | false => exact wpAny_pure ⟨rfl, h4⟩
    | true =>
      apply wpAny_bind
      apply wpAny_bind
      apply wpAny_mono h4 _ fun _ _ h => h
      intro kv s5 h5
      apply wpAny_bind
      apply wpAny_holding
      apply wpAny_mono h5 _ fun _ _ h => h
      intro vv s6 h6
      apply wpAny_bind
      apply wpAny_standAt
      apply wpAny_holding
      apply wpAny_mono h6 _ fun _ _ h => h
      intro _ s7 h7
      exact wpAny_pure ⟨rfl, h7⟩
theorem dstart_in (h0 : codeAny (model P w) A (.compLoop (DC2 kx vx t0 i0 t1 i1 f0 f1 scope pos) 1 it (.ref D) env) R s)
    (h : wpAny (model P w) A (pyIter it) (fun j t => codeAny (model P w) A (.compLoop (DC2 kx vx t0 i0 t1 i1 f0 f1 scope pos) 1 j (.ref D) env) R t) (Hrd P w A env R) s) :
    codeAny (model P w) A (.compStart (DC2 kx vx t0 i0 t1 i1 f0 f1 scope pos) 1 it (.ref D) env) R s := by
  apply codeAny_of_tree
  change wpAny _ _ ((compStart (DC2 kx vx t0 i0 t1 i1 f0 f1 scope pos) 1 it (.ref D) env).onRaise (fun x => do noteFrame x env; standAt theWindowsPlace)) _ _ s
  apply wpAny_notedAt
  unfold compStart
  change wpAny _ _ (ask >>= _) _ _ s
  apply wpAny_bind
  apply wpAny_askSetting
  apply wpAny_ite
  split
  · first | exact wpAny_bind (wpAny_pure (wpAny_pure ⟨rfl, h0⟩)) | exact wpAny_pure ⟨rfl, h0⟩
  · apply wpAny_bind
    apply wpAny_rule
    change wpAny _ _ (standAt i1.pos >>= _) _ _ s
    apply wpAny_bind
    apply wpAny_standAt
    apply wpAny_bind
    apply wpAny_mono h _ fun _ _ x => x
    exact fun j t hj => wpAny_pure ⟨rfl, hj⟩
end
end L2.DL


set_option Elab.async false
set_option linter.all false
set_option maxRecDepth 100000
set_option maxHeartbeats 4000000
namespace L2.DL
open PySem PySem.Spec PyProof.Rows
section
variable {X : Cx}
/-- behind a turn's tests: the key, the value, the store -/
def dcB (D : Addr) (tt : TT) (tk tv : TE) : St → Hp → (Hp → Prop) → Prop := fun σ2 H2 Nx => tt σ2 H2 fun b H3 => if b = true then tk σ2 H3 fun y H4 => tv σ2 H4 fun z H5 => ∃ H6, DPut H5 D y z H6 ∧ Nx H6 else Nx H3
def wLoop (J : It) (g : TG) (vs : List Nat) (σ : St) (H1 : Hp) (N : Hp → Prop) (B : St → Hp → (Hp → Prop) → Prop) : Prop := ∃ W : Nat → Nat → Hp → Prop, (∃ m, W 0 m H1) ∧ ∀ i m H, W i m H →
  (J.stop i H ∧ N H) ∨ (J.go i H ∧ ∃ Nx : Hp → Prop, (∀ H', Nx H' → ∃ m', m' < m ∧ W (i + 1) m' H') ∧ ∀ x H', J.yld i H x H' → g x (wipe σ vs) H' fun σ2 H2 => wipe σ2 vs = wipe σ vs ∧ B σ2 H2 Nx)
def tDc1 (o : HO) (wi : TI) (g : TG) (tt : TT) (tk tv : TE) (vs : List Nat) : TE := fun σ H Q => wi σ H fun J H1 => ∀ D, H1 D = none → wLoop J g vs σ (upd H1 D o) (fun H => Q (.ref D) H) (dcB D tt tk tv)
def tDc2 (o : HO) (wi : TI) (g : TG) (tt : TT) (wi1 : TI) (g1 : TG) (tt1 : TT) (tk tv : TE) (vs vs1 : List Nat) : TE := fun σ H Q => wi σ H fun J H1 => ∀ D, H1 D = none →
  wLoop J g vs σ (upd H1 D o) (fun H => Q (.ref D) H) fun σ2 H2 Nx => tt σ2 H2 fun b H3 => if b = true then wi1 σ2 H3 fun J1 H4 => wLoop J1 g1 vs1 σ2 H4 Nx (dcB D tt1 tk tv) else Nx H3
variable {pins : List (Addr × Obj)} {s : Shared} {σ : St} {H : Hp} {Q : VK} {kx vx tg iter tg1 iter1 : Expr} {ifs ifs1 : List Expr} {scope : Scope} {own : List (Str × Nat)} {vs1 : List Nat} {pos pos' : Pos} {wi wi1 : TI} {g g1 : TG} {tt tt1 : TT} {tk tv : TE} {use : Option (Value → Sem Unit)} {Qf : Value → Shared → Prop} {o : HO}
abbrev envB (X : Cx) (scope : Scope) (C : Addr) : Env := compEnvC scope (cellsFrom (C + 1) scope.names (cloFrom X.env.cells scope.names [])) C X.env
/-- a loop's own objects, in the block -/
theorem blk_fp {s3 : Shared} {H3 : Hp} {ce : Env} {fp : List Addr} {σ' : St} {H' : Hp} {t : Shared} (J : Inv (X.blk s3 H3 scope ce fp) [] σ' H' t) (hn : ∀ b ∈ fp, H' b = none) : ∀ b ∈ fp, FpOk (X.blk s3 H3 scope ce fp) [] H' b := fun b hb =>
  ⟨hn b hb, (J.ok.exf b hb).1, J.ok.exfs b hb, .inl hb, (J.ok.exf b hb).2, fun p hp => by have hp' : p ∈ ([] : List (Addr × Obj)) ++ [] := hp; simp at hp'⟩
/-- the turn's end: what was pinned is let go -/
theorem blk_end {Y : Cx} {ps : List (Addr × Obj)} {fp : List Addr} {tn : Nat → Heap → Prop} {J : It} {it : Addr} {tgx : Expr} {i : Nat} {s7 t : Shared} {σ0 σ9 : St} {H' : Hp} (T : Turn Y.prog Y.w Y.K tgx J fp it tn) (st7 : tn (i + 1) s7.heap) (I' : Inv Y (ps ++ pinsAt fp s7.heap) σ9 H' t) (hl : σ0.length = σ9.length) (hk : ∀ (j : Nat) v, σ0[j]? = some (some v) → σ9[j]? = some (some v)) :
    Inv Y ps σ0 H' t ∧ tn (i + 1) t.heap ∧ ∀ b ∈ fp, H' b = none := by
  have pin : ∀ b ∈ fp, ∀ u, s7.heap.get? b = some u → t.heap.get? b = some u ∧ H' b = none := fun b hb u e => by
    have z := I'.pin (b, u) (List.mem_append_right _ (List.mem_append_right _ (mem_pinsAt hb e)))
    exact ⟨z.1, z.2.1⟩
  refine ⟨I'.unpinned.weak hl hk, T.keep _ _ _ st7 fun b hb u e => (pin b hb u e).1, fun b hb => ?_⟩
  obtain ⟨u, e, _⟩ := T.obj _ _ st7 b hb
  exact (pin b hb u e).2
theorem dcB_do {Y : Cx} {ps : List (Addr × Obj)} {t : Shared} {σ2 : St} {H2 : Hp} {D : Addr} {Nx : Hp → Prop} {Z : Shared → Prop} (hu : Y.A.units + 1 < cLine) (pt : PTs Y ifs tt) (pk : PE Y kx tk) (pv : PE Y vx tv) (I : Inv Y ps σ2 H2 t) (h : dcB D tt tk tv σ2 H2 Nx) (hE : Y.xe = fun _ _ => False) (fin : ∀ {t' H'}, Inv Y ps σ2 H' t' → Nx H' → Z t') {E : Value → Shared → Prop} :
    wpAny (model Y.prog Y.w) Y.A (tsts Y.env ifs) (fun ok s4 => if ok = true then wpAny (model Y.prog Y.w) Y.A (eval kx Y.env) (fun kv s5 => wpAny (model Y.prog Y.w) Y.A (eval vx Y.env) (fun vv s6 => wpAny (model Y.prog Y.w) Y.A (dictSet D kv vv) (fun _ s7 => Z s7) E s6) E s5) E s4 else Z s4) E t := by
  have run := pt.run ps t σ2 H2 _ I h
  have k1 := pk.run
  have k2 := pv.run
  rw [hE] at run k1 k2
  refine thnF run fun b s4 ⟨H4, I4, q4⟩ => ?_
  cases b with
  | false =>
    simp only [Bool.false_eq_true, if_false] at q4 ⊢
    exact fin I4 q4
  | true =>
    simp only [if_true] at q4 ⊢
    refine thnF (k1 _ s4 σ2 H4 _ I4 q4) fun kv s5 ⟨y, H5, I5, r5, q5⟩ => ?_
    refine thnF (k2 _ s5 σ2 H5 _ I5 q5) fun vv s6 ⟨z, H6, I6, r6, H7, dp, nx⟩ => ?_
    exact dput_do hu I6 dp r5 r6 fun t' I7 => fin I7 nx
theorem dc_core1 (hu : X.A.units + 1 < cLine) (hc : X.calm = true) (hN : X.N.Nodup) (eo : Emp o) (I : Inv X pins σ H s) (hi : PI X tg iter wi) (ok : BlkOk X.N X.env.scope scope own)
    (hg : BlkA X scope fun Y => PG Y tg g) (ht : BlkA X scope fun Y => PTs Y ifs tt) (hk : BlkA X scope fun Y => PE Y kx tk) (he : BlkA X scope fun Y => PE Y vx tv) (hs : ∀ x, foldedSetIterable iter X.env x = pure x)
    (h : tDc1 o wi g tt tk tv (own.map (·.2)) σ H Q)
    (back : ∀ D C t m H', Inv X pins σ H' t → Q (.ref D) H' → t.heap.Ns C m → FpOk X pins H' C → compPost (model X.prog X.w) X.A X.xe use Qf (.ref D) C (.ok .next) t) :
    wpAny (model X.prog X.w) X.A (comprehension (.DictComp kx vx [⟨tg, iter, ifs, 0⟩] scope pos) scope X.env pos' newDict false (eval iter X.env) use) Qf X.xe s := by
  refine wpAny_comprehension_free (use := use) rfl hs (closure_ok fun y hy e => (ok.free y hy e).elim (fun k => I.ok.has _ (.inl k)) fun k => I.ok.has _ (.inr k)) ok.kind (fun y hy e => by rw [ok.uniq y hy, e]) (thn (hi.run pins s σ H _ I h) fun xv s1 hx => thn hx fun itv s2 h2 => ?_)
  obtain ⟨it, fp, tn, J, H2, e, I2, T, st2, f2, q⟩ := h2
  subst e
  refine wpAny_newObj_type (newEnv_comp ?_)
  have hDn : H2 s2.heap.objs.size = none := I2.hok.fresh (Nat.le_refl _)
  obtain ⟨W, ⟨m0, w0⟩, turn⟩ := q s2.heap.objs.size hDn
  have I3 : Inv X pins σ (upd H2 s2.heap.objs.size o) { s2 with heap := s2.heap.push { cls := .type "dict", data := .dict #[] } } := I2.laid (t' := s2.toks) (fun b u e => Heap.get?_push_of_some _ e) (Nat.le_refl _) (emp_ok eo s2.heap I2.big)
  have f3 : ∀ b ∈ fp, FpOk X pins (upd H2 s2.heap.objs.size o) b ∧ b < (s2.heap.push { cls := .type "dict", data := .dict #[] }).objs.size := fun b hb => by
    obtain ⟨u, e, _⟩ := T.obj _ _ st2 b hb
    have hlt := Heap.lt_size e
    exact ⟨⟨by rw [upd_ne (Nat.ne_of_lt hlt)]; exact (f2 b hb).1, (f2 b hb).2⟩, by rw [Heap.size_push]; exact Nat.lt_succ_of_lt hlt⟩
  have st3 : tn 0 (s2.heap.push { cls := .type "dict", data := .dict #[] }) := T.keep _ _ _ st2 fun b _ u e => Heap.get?_push_of_some _ e
  generalize hD : s2.heap.objs.size = D at I3 f3 w0 turn ⊢
  generalize hs3 : ({ s2 with heap := s2.heap.push { cls := .type "dict", data := .dict #[] } } : Shared) = s3 at I3
  have h3 : s2.heap.push { cls := .type "dict", data := .dict #[] } = s3.heap := by rw [← hs3]
  rw [h3] at f3 st3
  have I4 := block_start I3 ok hN f3
  have E3 : ∀ b ∈ fp, (upd H2 D o) b = none := fun b hb => (f3 b hb).1.1
  have pg := hg s3 (upd H2 D o) s3.heap.objs.size (cellsFrom (s3.heap.objs.size + 1) scope.names (cloFrom X.env.cells scope.names [])) fp
  have pt := ht s3 (upd H2 D o) s3.heap.objs.size (cellsFrom (s3.heap.objs.size + 1) scope.names (cloFrom X.env.cells scope.names [])) fp
  have pk := hk s3 (upd H2 D o) s3.heap.objs.size (cellsFrom (s3.heap.objs.size + 1) scope.names (cloFrom X.env.cells scope.names [])) fp
  have pv := he s3 (upd H2 D o) s3.heap.objs.size (cellsFrom (s3.heap.objs.size + 1) scope.names (cloFrom X.env.cells scope.names [])) fp
  change codeAny _ _ (.compStart (.DictComp kx vx [⟨tg, iter, ifs, 0⟩] scope pos) 0 (.ref it) (.ref D) (compEnvC scope (cellsFrom (s3.heap.objs.size + 1) scope.names (cloFrom X.env.cells scope.names [])) s3.heap.objs.size X.env)) (compPost (model X.prog X.w) X.A X.xe use Qf (.ref D) s3.heap.objs.size) { s3 with heap := pushCells (s3.heap.push { cls := .type "dict", data := .dict #[] }) scope.names }
  generalize hce : compEnvC scope (cellsFrom (s3.heap.objs.size + 1) scope.names (cloFrom X.env.cells scope.names [])) s3.heap.objs.size X.env = ce at I4 pg pt pk pv ⊢
  have cL : ce.locals = s3.heap.objs.size := by subst hce; rfl
  generalize hH3 : upd H2 D o = H3 at I3 I4 pg pt pk pv w0 E3 f3
  generalize hs4 : ({ s3 with heap := pushCells (s3.heap.push { cls := .type "dict", data := .dict #[] }) scope.names } : Shared) = s4 at I4 ⊢
  have st4 : tn 0 s4.heap := T.keep _ _ _ st3 fun b _ u e => by rw [← hs4]; exact pushCells_keeps _ _ _ _ (Heap.get?_push_of_some _ e)
  have loop : codeAny (model X.prog X.w) X.A (.compLoop (.DictComp kx vx [⟨tg, iter, ifs, 0⟩] scope pos) 0 (.ref it) (.ref D) ce) (compPost (model X.prog X.w) X.A X.xe use Qf (.ref D) s3.heap.objs.size) s4 := by
    refine compLoop_anyD (fun n t => ∃ i H', Inv (X.blk s3 H3 scope ce fp) [] (wipe σ (own.map (·.2))) H' t ∧ tn i t.heap ∧ (∀ b ∈ fp, H' b = none) ∧ W i n H') ?_ m0 ⟨0, H3, I4, st4, E3, w0⟩
    rintro n s5 ⟨i, H5, I5, st5, n5, w5⟩
    rcases turn i n H5 w5 with ⟨stop, qq⟩ | ⟨go, Nx, hNx, step⟩
    · refine thnF (T.done (X.blk s3 H3 scope ce fp) rfl rfl rfl hc i [] s5 _ H5 (fun _ _ => False) I5 (blk_fp I5 n5) st5 stop) fun r s6 ⟨hr, I6⟩ => ?_
      subst hr
      have I7 : Inv X pins σ H5 s6 := I3.call' (ch := fp) I6.os I6.base I6.hok I6.bare fun b hb => ⟨(f3 b hb).1.2.2.2.1, (f3 b hb).1.2.1, (f3 b hb).1.2.2.2.2.1, (f3 b hb).1.2.2.2.2.2⟩
      have nC : H5 ce.locals = none := I6.free
      obtain ⟨m, hn, _⟩ := I6.loc
      have hn : s6.heap.Ns ce.locals m := hn
      rw [cL] at hn nC
      exact back D s3.heap.objs.size s6 m H5 I7 qq hn (I3.fpOk (Nat.le_refl _) nC)
    · refine thnF (T.item (X.blk s3 H3 scope ce fp) rfl rfl rfl hc i [] s5 _ H5 (fun _ _ => False) I5 (blk_fp I5 n5) st5 go) fun r s6 ⟨u, hr, h6⟩ => ?_
      subst hr
      refine thnF h6 fun _ s7 ⟨x, H7, I7, r7, y7, st7, n7⟩ => ?_
      refine thnF (pg.run _ s7 _ H7 x u _ (I7.pinned (blk_fp I7 n7) (T.obj _ _ st7)) r7 (step x H7 y7)) fun _ s8 ⟨σ8, H8, I8, hw8, q8⟩ => ?_
      refine dcB_do (Y := X.blk s3 H3 scope ce fp) hu pt pk pv I8 q8 rfl fun {t H'} I9 nx => ?_
      obtain ⟨m', hm, w'⟩ := hNx H' nx
      obtain ⟨a1, a2, a3⟩ := blk_end (Y := X.blk s3 H3 scope ce fp) (ps := []) (σ0 := wipe σ (own.map (·.2))) (σ9 := σ8) T st7 I9 (by rw [← hw8, wipe_length]) fun j v e => by rw [← hw8] at e; exact (wipe_some e).1
      exact ⟨m', hm, i + 1, H', a1, a2, a3, w'⟩
  exact codeAny_compStart_dict loop (T.self X.A 0 _ _ _ st4 loop)
theorem dc_core2 (hu : X.A.units + 1 < cLine) (hc : X.calm = true) (hN : X.N.Nodup) (eo : Emp o) (I : Inv X pins σ H s) (hi : PI X tg iter wi) (ok : BlkOk X.N X.env.scope scope own)
    (hv : ∀ i ∈ vs1, i ∈ own.map (·.2)) (hg : BlkA X scope fun Y => PG Y tg g) (ht : BlkA X scope fun Y => PTs Y ifs tt) (hi1 : BlkA X scope fun Y => PI Y tg1 iter1 wi1) (hg1 : BlkA X scope fun Y => PG Y tg1 g1) (ht1 : BlkA X scope fun Y => PTs Y ifs1 tt1) (hk : BlkA X scope fun Y => PE Y kx tk) (he : BlkA X scope fun Y => PE Y vx tv) (hs : ∀ x, foldedSetIterable iter X.env x = pure x) (hs1 : ∀ env x, foldedSetIterable iter1 env x = pure x)
    (h : tDc2 o wi g tt wi1 g1 tt1 tk tv (own.map (·.2)) vs1 σ H Q)
    (back : ∀ D C t m H', Inv X pins σ H' t → Q (.ref D) H' → t.heap.Ns C m → FpOk X pins H' C → compPost (model X.prog X.w) X.A X.xe use Qf (.ref D) C (.ok .next) t) :
    wpAny (model X.prog X.w) X.A (comprehension (DC2 kx vx tg iter tg1 iter1 ifs ifs1 scope pos) scope X.env pos' newDict false (eval iter X.env) use) Qf X.xe s := by
  refine wpAny_comprehension_free (use := use) rfl hs (closure_ok fun y hy e => (ok.free y hy e).elim (fun k => I.ok.has _ (.inl k)) fun k => I.ok.has _ (.inr k)) ok.kind (fun y hy e => by rw [ok.uniq y hy, e]) (thn (hi.run pins s σ H _ I h) fun xv s1 hx => thn hx fun itv s2 h2 => ?_)
  obtain ⟨it, fp, tn, J, H2, e, I2, T, st2, f2, q⟩ := h2
  subst e
  refine wpAny_newObj_type (newEnv_comp ?_)
  have hDn : H2 s2.heap.objs.size = none := I2.hok.fresh (Nat.le_refl _)
  obtain ⟨W, ⟨m0, w0⟩, turn⟩ := q s2.heap.objs.size hDn
  have I3 : Inv X pins σ (upd H2 s2.heap.objs.size o) { s2 with heap := s2.heap.push { cls := .type "dict", data := .dict #[] } } := I2.laid (t' := s2.toks) (fun b u e => Heap.get?_push_of_some _ e) (Nat.le_refl _) (emp_ok eo s2.heap I2.big)
  have f3 : ∀ b ∈ fp, FpOk X pins (upd H2 s2.heap.objs.size o) b ∧ b < (s2.heap.push { cls := .type "dict", data := .dict #[] }).objs.size := fun b hb => by
    obtain ⟨u, e, _⟩ := T.obj _ _ st2 b hb
    have hlt := Heap.lt_size e
    exact ⟨⟨by rw [upd_ne (Nat.ne_of_lt hlt)]; exact (f2 b hb).1, (f2 b hb).2⟩, by rw [Heap.size_push]; exact Nat.lt_succ_of_lt hlt⟩
  have st3 : tn 0 (s2.heap.push { cls := .type "dict", data := .dict #[] }) := T.keep _ _ _ st2 fun b _ u e => Heap.get?_push_of_some _ e
  generalize hD : s2.heap.objs.size = D at I3 f3 w0 turn ⊢
  generalize hs3 : ({ s2 with heap := s2.heap.push { cls := .type "dict", data := .dict #[] } } : Shared) = s3 at I3
  have h3 : s2.heap.push { cls := .type "dict", data := .dict #[] } = s3.heap := by rw [← hs3]
  rw [h3] at f3 st3
  have I4 := block_start I3 ok hN f3
  have E3 : ∀ b ∈ fp, (upd H2 D o) b = none := fun b hb => (f3 b hb).1.1
  have pg := hg s3 (upd H2 D o) s3.heap.objs.size (cellsFrom (s3.heap.objs.size + 1) scope.names (cloFrom X.env.cells scope.names [])) fp
  have pt := ht s3 (upd H2 D o) s3.heap.objs.size (cellsFrom (s3.heap.objs.size + 1) scope.names (cloFrom X.env.cells scope.names [])) fp
  have pi1 := hi1 s3 (upd H2 D o) s3.heap.objs.size (cellsFrom (s3.heap.objs.size + 1) scope.names (cloFrom X.env.cells scope.names [])) fp
  have pg1 := hg1 s3 (upd H2 D o) s3.heap.objs.size (cellsFrom (s3.heap.objs.size + 1) scope.names (cloFrom X.env.cells scope.names [])) fp
  have pt1 := ht1 s3 (upd H2 D o) s3.heap.objs.size (cellsFrom (s3.heap.objs.size + 1) scope.names (cloFrom X.env.cells scope.names [])) fp
  have pk := hk s3 (upd H2 D o) s3.heap.objs.size (cellsFrom (s3.heap.objs.size + 1) scope.names (cloFrom X.env.cells scope.names [])) fp
  have pv := he s3 (upd H2 D o) s3.heap.objs.size (cellsFrom (s3.heap.objs.size + 1) scope.names (cloFrom X.env.cells scope.names [])) fp
  change codeAny _ _ (.compStart (DC2 kx vx tg iter tg1 iter1 ifs ifs1 scope pos) 0 (.ref it) (.ref D) (compEnvC scope (cellsFrom (s3.heap.objs.size + 1) scope.names (cloFrom X.env.cells scope.names [])) s3.heap.objs.size X.env)) (compPost (model X.prog X.w) X.A X.xe use Qf (.ref D) s3.heap.objs.size) { s3 with heap := pushCells (s3.heap.push { cls := .type "dict", data := .dict #[] }) scope.names }
  generalize hce : compEnvC scope (cellsFrom (s3.heap.objs.size + 1) scope.names (cloFrom X.env.cells scope.names [])) s3.heap.objs.size X.env = ce at I4 pg pt pk pv pi1 pg1 pt1 ⊢
  have cL : ce.locals = s3.heap.objs.size := by subst hce; rfl
  generalize hH3 : upd H2 D o = H3 at I3 I4 pg pt pk pv pi1 pg1 pt1 w0 E3 f3
  generalize hs4 : ({ s3 with heap := pushCells (s3.heap.push { cls := .type "dict", data := .dict #[] }) scope.names } : Shared) = s4 at I4 ⊢
  have st4 : tn 0 s4.heap := T.keep _ _ _ st3 fun b _ u e => by rw [← hs4]; exact pushCells_keeps _ _ _ _ (Heap.get?_push_of_some _ e)
  have loop : codeAny (model X.prog X.w) X.A (.compLoop (DC2 kx vx tg iter tg1 iter1 ifs ifs1 scope pos) 0 (.ref it) (.ref D) ce) (compPost (model X.prog X.w) X.A X.xe use Qf (.ref D) s3.heap.objs.size) s4 := by
    refine dloop_out (hs1 ce) (fun n t => ∃ i H', Inv (X.blk s3 H3 scope ce fp) [] (wipe σ (own.map (·.2))) H' t ∧ tn i t.heap ∧ (∀ b ∈ fp, H' b = none) ∧ W i n H') ?_ m0 ⟨0, H3, I4, st4, E3, w0⟩
    rintro n s5 ⟨i, H5, I5, st5, n5, w5⟩
    rcases turn i n H5 w5 with ⟨stop, qq⟩ | ⟨go, Nx, hNx, step⟩
    · refine thnF (T.done (X.blk s3 H3 scope ce fp) rfl rfl rfl hc i [] s5 _ H5 (fun _ _ => False) I5 (blk_fp I5 n5) st5 stop) fun r s6 ⟨hr, I6⟩ => ?_
      subst hr
      have I7 : Inv X pins σ H5 s6 := I3.call' (ch := fp) I6.os I6.base I6.hok I6.bare fun b hb => ⟨(f3 b hb).1.2.2.2.1, (f3 b hb).1.2.1, (f3 b hb).1.2.2.2.2.1, (f3 b hb).1.2.2.2.2.2⟩
      have nC : H5 ce.locals = none := I6.free
      obtain ⟨m, hn, _⟩ := I6.loc
      have hn : s6.heap.Ns ce.locals m := hn
      rw [cL] at hn nC
      exact back D s3.heap.objs.size s6 m H5 I7 qq hn (I3.fpOk (Nat.le_refl _) nC)
    · refine thnF (T.item (X.blk s3 H3 scope ce fp) rfl rfl rfl hc i [] s5 _ H5 (fun _ _ => False) I5 (blk_fp I5 n5) st5 go) fun r s6 ⟨u, hr, h6⟩ => ?_
      subst hr
      refine thnF h6 fun _ s7 ⟨x, H7, I7, r7, y7, st7, n7⟩ => ?_
      refine thnF (pg.run _ s7 _ H7 x u _ (I7.pinned (blk_fp I7 n7) (T.obj _ _ st7)) r7 (step x H7 y7)) fun _ s8 ⟨σ8, H8, I8, hw8, q8⟩ => ?_
      have fin : ∀ {σ9 : St} {t : Shared} {H' : Hp}, Inv (X.blk s3 H3 scope ce fp) ([] ++ pinsAt fp s7.heap) σ9 H' t → (wipe σ (own.map (·.2))).length = σ9.length → (∀ (j : Nat) v, (wipe σ (own.map (·.2)))[j]? = some (some v) → σ9[j]? = some (some v)) → Nx H' →
          ∃ m, m < n ∧ ∃ i H', Inv (X.blk s3 H3 scope ce fp) [] (wipe σ (own.map (·.2))) H' t ∧ tn i t.heap ∧ (∀ b ∈ fp, H' b = none) ∧ W i m H' := fun {σ9 t H'} I9 hl hk9 nx => by
        obtain ⟨m', hm, w'⟩ := hNx H' nx
        obtain ⟨a1, a2, a3⟩ := blk_end (Y := X.blk s3 H3 scope ce fp) (ps := []) (σ0 := wipe σ (own.map (·.2))) (σ9 := σ9) T st7 I9 hl hk9
        exact ⟨m', hm, i + 1, H', a1, a2, a3, w'⟩
      have k8 : ∀ (j : Nat) v, (wipe σ (own.map (·.2)))[j]? = some (some v) → σ8[j]? = some (some v) ∧ j ∉ own.map (·.2) := fun j v e => by
        rw [← hw8] at e
        exact wipe_some e
      have l8 : (wipe σ (own.map (·.2))).length = σ8.length := by rw [← hw8, wipe_length]
      refine thnF (pt.run _ s8 σ8 H8 _ I8 q8) fun b s9 ⟨H9, I9, q9⟩ => ?_
      cases b with
      | false =>
        simp only [Bool.false_eq_true, if_false] at q9 ⊢
        exact fin I9 l8 (fun j v e => (k8 j v e).1) q9
      | true =>
        simp only [if_true] at q9 ⊢
        refine thnF (pi1.run _ s9 σ8 H9 _ I9 q9) fun xv1 s10 hx1 => thnF hx1 fun itv1 s11 h11 => ?_
        obtain ⟨it1, fp1, tn1, J1, H11, e1, I11, T1, st11, f11, W1, ⟨m1, w1⟩, turn1⟩ := h11
        subst e1
        have loop1 : codeAny (model X.prog X.w) X.A (.compLoop (DC2 kx vx tg iter tg1 iter1 ifs ifs1 scope pos) 1 (.ref it1) (.ref D) ce)
            (fun r t => match r with
              | .ok _ => ∃ m, m < n ∧ ∃ i H', Inv (X.blk s3 H3 scope ce fp) [] (wipe σ (own.map (·.2))) H' t ∧ tn i t.heap ∧ (∀ b ∈ fp, H' b = none) ∧ W i m H'
              | .error _ => False) s11 := by
          refine dloop_in (fun k t => ∃ j H', Inv (X.blk s3 H3 scope ce fp) ([] ++ pinsAt fp s7.heap) (wipe σ8 vs1) H' t ∧ tn1 j t.heap ∧ (∀ b ∈ fp1, H' b = none) ∧ W1 j k H') ?_ m1 ⟨0, H11, I11.weak (wipe_length _ _) (fun j v e => (wipe_some e).1), st11, fun b hb => (f11 b hb).1, w1⟩
          rintro k s12 ⟨j, H12, I12, st12, n12, w12⟩
          have fp12 : ∀ {H' : Hp}, (∀ b ∈ fp1, H' b = none) → ∀ b ∈ fp1, FpOk (X.blk s3 H3 scope ce fp) ([] ++ pinsAt fp s7.heap) H' b := fun hn b hb => ⟨hn b hb, (f11 b hb).2⟩
          rcases turn1 j k H12 w12 with ⟨stop1, nx1⟩ | ⟨go1, Nx1, hNx1, step1⟩
          · refine thnF (T1.done (X.blk s3 H3 scope ce fp) rfl rfl rfl hc j _ s12 (wipe σ8 vs1) H12 (fun _ _ => False) I12 (fp12 n12) st12 stop1) fun r s13 ⟨hr, I13⟩ => ?_
            subst hr
            refine fin I13 (l8.trans (wipe_length σ8 vs1).symm) (fun j v e => ?_) nx1
            obtain ⟨e1, e2⟩ := k8 j v e
            rw [wipe_out fun z => e2 (hv j z)]
            exact e1
          · refine thnF (T1.item (X.blk s3 H3 scope ce fp) rfl rfl rfl hc j _ s12 (wipe σ8 vs1) H12 (fun _ _ => False) I12 (fp12 n12) st12 go1) fun r s13 ⟨u1, hr, h13⟩ => ?_
            subst hr
            refine thnF h13 fun _ s14 ⟨x1, H14, I14, r14, y14, st14, n14⟩ => ?_
            refine thnF (pg1.run _ s14 (wipe σ8 vs1) H14 x1 u1 _ (I14.pinned (fp12 n14) (T1.obj _ _ st14)) r14 (step1 x1 H14 y14)) fun _ s15 ⟨σ15, H15, I15, hw15, q15⟩ => ?_
            refine dcB_do (Y := X.blk s3 H3 scope ce fp) hu pt1 pk pv I15 q15 rfl fun {t H'} I9 nx => ?_
            obtain ⟨m', hm, w'⟩ := hNx1 H' nx
            obtain ⟨a1, a2, a3⟩ := blk_end (Y := X.blk s3 H3 scope ce fp) (ps := [] ++ pinsAt fp s7.heap) (σ0 := wipe σ8 vs1) (σ9 := σ15) T1 st14 I9 (by rw [← hw15, wipe_length]) fun j v e => by rw [← hw15] at e; exact (wipe_some e).1
            exact ⟨m', hm, j + 1, H', a1, a2, a3, w'⟩
        exact dstart_in loop1 (T1.self X.A 0 _ _ _ st11 loop1)
  exact codeAny_compStart_dict loop (T.self X.A 0 _ _ _ st4 loop)
theorem pe_dc1 (hu : X.A.units + 1 < cLine) (eo : Emp o) (hN : X.N.Nodup) (hi : PI X tg iter wi) (ok : BlkOk X.N X.env.scope scope own) (hg : BlkA X scope fun Y => PG Y tg g) (ht : BlkA X scope fun Y => PTs Y ifs tt) (hk : BlkA X scope fun Y => PE Y kx tk) (he : BlkA X scope fun Y => PE Y vx tv) (hc : X.calm = true) (hs : ∀ x, foldedSetIterable iter X.env x = pure x) :
    PE X (.DictComp kx vx [⟨tg, iter, ifs, 0⟩] scope pos) (tDc1 o wi g tt tk tv (own.map (·.2))) := by
  constructor
  intro pins s σ H Q I h
  rw [arm_eval_DictComp]
  refine dc_core1 hu hc hN eo I hi ok hg ht hk he hs h fun D C t m H' I' q hn f => ⟨m, hn, fun h2 sb => ?_⟩
  exact ⟨.ref D, H', I'.turned (t' := t.toks) (fun b u hb e => (sb.2 b hb).trans e) f.1 f.2.1 f.2.2.2.1 f.2.2.2.2.1 f.2.2.2.2.2, rfl, q⟩
theorem pe_dc2 (hu : X.A.units + 1 < cLine) (eo : Emp o) (hN : X.N.Nodup) (hi : PI X tg iter wi) (ok : BlkOk X.N X.env.scope scope own) (hv : ∀ i ∈ vs1, i ∈ own.map (·.2)) (hg : BlkA X scope fun Y => PG Y tg g) (ht : BlkA X scope fun Y => PTs Y ifs tt) (hi1 : BlkA X scope fun Y => PI Y tg1 iter1 wi1) (hg1 : BlkA X scope fun Y => PG Y tg1 g1) (ht1 : BlkA X scope fun Y => PTs Y ifs1 tt1) (hk : BlkA X scope fun Y => PE Y kx tk) (he : BlkA X scope fun Y => PE Y vx tv) (hc : X.calm = true) (hs : ∀ x, foldedSetIterable iter X.env x = pure x) (hs1 : ∀ env x, foldedSetIterable iter1 env x = pure x) :
    PE X (DC2 kx vx tg iter tg1 iter1 ifs ifs1 scope pos) (tDc2 o wi g tt wi1 g1 tt1 tk tv (own.map (·.2)) vs1) := by
  constructor
  intro pins s σ H Q I h
  rw [arm_eval_DictComp]
  refine dc_core2 hu hc hN eo I hi ok hv hg ht hi1 hg1 ht1 hk he hs hs1 h fun D C t m H' I' q hn f => ⟨m, hn, fun h2 sb => ?_⟩
  exact ⟨.ref D, H', I'.turned (t' := t.toks) (fun b u hb e => (sb.2 b hb).trans e) f.1 f.2.1 f.2.2.2.1 f.2.2.2.2.1 f.2.2.2.2.2, rfl, q⟩
end
end L2.DL


set_option Elab.async false
set_option linter.all false
set_option maxRecDepth 100000
set_option maxHeartbeats 4000000
namespace L2.DL
open PySem PySem.Spec PyProof.Rows
/-! ### dicts as data -/
mutual
def kEq : D → D → Bool
  | .int i, .int j => decide (i = j)
  | .str x, .str y => decide (x = y)
  | .tup xs, .tup ys => kEqL xs ys
  | _, _ => false
def kEqL : List D → List D → Bool
  | [], [] => true
  | x :: xs, y :: ys => kEq x y && kEqL xs ys
  | _, _ => false
end
def dgetD : List D → List D → D → Option D
  | k' :: ks, v :: vs, k => if kEq k' k = true then some v else dgetD ks vs k
  | _, _, _ => none
def dhas (ks : List D) (k : D) : Bool := ks.any fun k' => kEq k' k
def dputK (ks : List D) (k : D) : List D := if dhas ks k = true then ks else ks ++ [k]
def dmapV : List D → List D → D → D → List D
  | k' :: ks, v' :: vs, k, v => (if kEq k' k = true then v else v') :: dmapV ks vs k v
  | _, _, _, _ => []
def dputV (ks vs : List D) (k v : D) : List D := if dhas ks k = true then dmapV ks vs k v else vs ++ [v]
def keyOk : Bool → D → Bool
  | false, d => (keyD d).isSome
  | true, .tup xs => (keysD xs).isSome
  | _, _ => false
theorem keyD_kD {d : D} {k : Key} (h : keyD d = some k) : d = kD k := by
  cases d <;> simp only [keyD, Option.some.injEq, reduceCtorEq] at h <;> subst h <;> rfl
theorem kD_keyD (k : Key) : keyD (kD k) = some k := by
  cases k <;> rfl
theorem keysD_kD : ∀ {ds : List D} {k : List Key}, keysD ds = some k → ds = k.map kD
  | [], k, h => by cases h; rfl
  | d :: ds, k, h => by
    unfold keysD at h
    cases q1 : keyD d with
    | none => rw [q1] at h; cases h
    | some a =>
      cases q2 : keysD ds with
      | none => rw [q1, q2] at h; cases h
      | some b =>
        rw [q1, q2] at h
        cases h
        rw [List.map_cons, ← keysD_kD q2, ← keyD_kD q1]
theorem kEq_kD (a b : Key) : kEq (kD a) (kD b) = decide (a = b) := by
  cases a <;> cases b
  · simp [kD, kEq]
  · simp [kD, kEq]
  · simp [kD, kEq]
  · rename_i x y
    show decide (x.cps.toList = y.cps.toList) = _
    by_cases h : x = y
    · subst h; simp
    · rw [decide_eq_false, decide_eq_false]
      · intro e; exact h (Sum.inr.inj e)
      · intro e
        exact h (by rw [← S2_eta x, ← S2_eta y, e])
theorem kEqL_kD : ∀ (a b : List Key), kEqL (a.map kD) (b.map kD) = decide (a = b)
  | [], [] => by simp [kEqL]
  | [], _ :: _ => by simp [kEqL]
  | _ :: _, [] => by simp [kEqL]
  | x :: a, y :: b => by
    rw [List.map_cons, List.map_cons, kEqL, kEq_kD, kEqL_kD a b]
    by_cases h : x = y <;> simp [h]
theorem kEq_tD (a b : List Key) : kEq (tD a) (tD b) = decide (a = b) := by
  show kEqL _ _ = _
  exact kEqL_kD a b
section
variable {z : Bz} {M : MS} {H : Hp} {κ : Type} [DecidableEq κ] {f : κ → D} {b : κ} {k : D}
theorem dget_some (hf : ∀ a, kEq (f a) k = decide (a = b)) {d : D} : ∀ {kvs : List (κ × V)} {vs : List D}, RpL z M H (kvs.map fun p => p.2) vs → dgetD (kvs.map fun p => f p.1) vs k = some d → ∃ v, valV kvs b = some v ∧ Rp z M H v d
  | [], _, .nil, h => by cases h
  | (a, v) :: kvs, _, .cons r rs, h => by
    rw [List.map_cons, dgetD, hf] at h
    by_cases c : a = b
    · rw [if_pos (decide_eq_true c)] at h
      cases h
      exact ⟨v, valV_pos c, r⟩
    · rw [if_neg (by simpa using c)] at h
      obtain ⟨u, e, r'⟩ := dget_some hf rs h
      exact ⟨u, by rw [valV_neg (by exact c)]; exact e, r'⟩
theorem dget_is (hf : ∀ a, kEq (f a) k = decide (a = b)) : ∀ {kvs : List (κ × V)} {vs : List D}, RpL z M H (kvs.map fun p => p.2) vs → (valV kvs b).isSome = (dgetD (kvs.map fun p => f p.1) vs k).isSome
  | [], _, .nil => rfl
  | (a, v) :: kvs, _, .cons r rs => by
    rw [List.map_cons, dgetD, hf]
    by_cases c : a = b
    · rw [if_pos (decide_eq_true c), valV_pos (by exact c)]; rfl
    · rw [if_neg (by simpa using c), valV_neg (by exact c)]
      exact dget_is hf rs
theorem dhas_any (hf : ∀ a, kEq (f a) k = decide (a = b)) (kvs : List (κ × V)) : dhas (kvs.map fun p => f p.1) k = kvs.any fun kv => decide (kv.1 = b) := by
  unfold dhas
  rw [List.any_map]
  congr 1
  funext p
  exact hf p.1
theorem put_keys (hf : ∀ a, kEq (f a) k = decide (a = b)) (hk : k = f b) (kvs : List (κ × V)) (v : V) : (putK kvs b v).map (fun p => f p.1) = dputK (kvs.map fun p => f p.1) k := by
  unfold dputK putK
  rw [dhas_any hf]
  split
  · rw [List.map_map]
    refine List.map_congr_left fun p _ => ?_
    show f (if p.1 = b then (p.1, v) else p).1 = f p.1
    split <;> rfl
  · rw [List.map_append, hk]; rfl
theorem put_vals (hf : ∀ a, kEq (f a) k = decide (a = b)) {kvs : List (κ × V)} {vs : List D} {v : V} {d : D} (r : RpL z M H (kvs.map fun p => p.2) vs) (rv : Rp z M H v d) : RpL z M H ((putK kvs b v).map fun p => p.2) (dputV (kvs.map fun p => f p.1) vs k d) := by
  unfold dputV putK
  rw [dhas_any hf]
  split
  · rw [List.map_map]
    have : ∀ {kvs : List (κ × V)} {vs : List D}, RpL z M H (kvs.map fun p => p.2) vs → RpL z M H (kvs.map ((fun p => p.2) ∘ fun kv => if kv.1 = b then (kv.1, v) else kv)) (dmapV (kvs.map fun p => f p.1) vs k d) := by
      intro kvs
      induction kvs with
      | nil => intro vs r; cases r; exact .nil
      | cons p kvs ih =>
        intro vs r
        cases r with
        | cons r rs =>
          rw [List.map_cons, List.map_cons, dmapV, hf]
          refine .cons ?_ (ih rs)
          show Rp z M H (if p.1 = b then (p.1, v) else p).2 _
          by_cases c : p.1 = b
          · rw [if_pos c, if_pos (decide_eq_true c)]; exact rv
          · rw [if_neg c, if_neg (by simpa using c)]; exact r
    exact this r
  · rw [List.map_append]
    exact r.append (.one rv)
end
/-- a dict, read: how it stands -/
theorem Pk.dic {g : Gh} {H : Hp} {v : V} {t lk : Bool} {ks vs : List D} (h : Pk g H v (.dic t lk ks vs)) : ∃ a, v = .ref a ∧ ((∃ kvs : List (Key × V), t = false ∧ LkD lk H a (.dK kvs) ∧ ks = (kvs.map fun p => kD p.1) ∧ RpL g.z g.M H (kvs.map fun p => p.2) vs) ∨ ∃ kvs : List (List Key × V), t = true ∧ LkD lk H a (.dT kvs) ∧ ks = (kvs.map fun p => tD p.1) ∧ RpL g.z g.M H (kvs.map fun p => p.2) vs) := by
  rcases h with h | ⟨a, e, _, _, h⟩
  · cases h with
    | dicK r n l => exact ⟨_, rfl, .inl ⟨_, rfl, r, rfl, l⟩⟩
    | dicT r n l => exact ⟨_, rfl, .inr ⟨_, rfl, r, rfl, l⟩⟩
  · cases h with
    | dicK r l => exact ⟨_, e, .inl ⟨_, rfl, r, rfl, l⟩⟩
    | dicT r l => exact ⟨_, e, .inr ⟨_, rfl, r, rfl, l⟩⟩
/-- a key, read -/
theorem Pk.key {g : Gh} {H : Hp} {v : V} {d : D} (h : Pk g H v d) (hk : (keyD d).isSome = true) : ∃ k, d = kD k ∧ v = kV k := by
  obtain ⟨k, e⟩ := Option.isSome_iff_exists.mp hk
  have e1 := keyD_kD e
  subst e1
  refine ⟨k, rfl, ?_⟩
  cases k with
  | inl i => exact h.int
  | inr x => exact h.str
theorem rpL_key {z : Bz} {M : MS} {H : Hp} : ∀ {k : List Key} {xs : List V}, RpL z M H xs (k.map kD) → xs = k.map kV
  | [], _, .nil => rfl
  | a :: k, _, .cons h r => by
    rw [List.map_cons, ← rpL_key r]
    congr 1
    cases a with
    | inl i => exact h.int_inv
    | inr x => exact h.str_inv
theorem Pk.keyT {g : Gh} {H : Hp} {v : V} {d : D} (h : Pk g H v d) (hk : keyOk true d = true) : ∃ k b, d = tD k ∧ v = .ref b ∧ H b = some (.tup (k.map kV)) := by
  cases d <;> try (cases hk; done)
  rename_i xs
  obtain ⟨k, e⟩ := Option.isSome_iff_exists.mp (show (keysD xs).isSome = true from hk)
  have e1 := keysD_kD e
  subst e1
  obtain ⟨a, ys, rfl, ha, l⟩ := h.tup
  exact ⟨k, a, rfl, rfl, by rw [ha, rpL_key l]⟩
theorem dic_get {g : Gh} {H : Hp} {x y : V} {t lk : Bool} {ks vs : List D} {k : D} (hx : Pk g H x (.dic t lk ks vs)) (hy : Pk g H y k) (hk : keyOk t k = true) : ∃ a o, x = .ref a ∧ DGet H a y o ∧ o.isSome = (dgetD ks vs k).isSome ∧ ∀ d, dgetD ks vs k = some d → ∃ v, o = some v ∧ Rp g.z g.M H v d := by
  obtain ⟨a, rfl, h | h⟩ := hx.dic
  · obtain ⟨kvs, rfl, r, rfl, l⟩ := h
    obtain ⟨b, rfl, rfl⟩ := hy.key hk
    have hf : ∀ c, kEq (kD c) (kD b) = decide (c = b) := fun c => kEq_kD c b
    exact ⟨a, _, rfl, .inl ⟨kvs, b, r.rd, rfl, rfl⟩, dget_is hf l, fun d e => dget_some hf l e⟩
  · obtain ⟨kvs, rfl, r, rfl, l⟩ := h
    obtain ⟨b, q, rfl, rfl, hq⟩ := hy.keyT hk
    have hf : ∀ c, kEq (tD c) (tD b) = decide (c = b) := fun c => kEq_tD c b
    exact ⟨a, _, rfl, .inr ⟨kvs, b, q, r.rd, rfl, hq, rfl⟩, dget_is hf l, fun d e => dget_some hf l e⟩
def dGetR : D → D → (D → Prop) → Prop
  | .dic t _ ks vs, k, Q => keyOk t k = true ∧ ∃ v, dgetD ks vs k = some v ∧ Q v
  | _, _, _ => False
def dInR (f : Bool → Bool) : D → D → (D → Prop) → Prop
  | .dic t _ ks vs, k, Q => keyOk t k = true ∧ Q (.bl (f (dgetD ks vs k).isSome))
  | _, _, _ => False
section
variable {X : Cx} {o i e : Expr} {td tk te tv : TDE} {pos pos' p : Pos} {ts : TDA} {j : Nat}
theorem dGetR_dic {d k : D} {Q : D → Prop} (h : dGetR d k Q) : ∃ t lk ks vs, d = .dic t lk ks vs ∧ keyOk t k = true ∧ ∃ v, dgetD ks vs k = some v ∧ Q v := by
  cases d <;> try (exact h.elim)
  exact ⟨_, _, _, _, rfl, h⟩
theorem dInR_dic {f : Bool → Bool} {d k : D} {Q : D → Prop} (h : dInR f d k Q) : ∃ t lk ks vs, d = .dic t lk ks vs ∧ keyOk t k = true ∧ Q (.bl (f (dgetD ks vs k).isSome)) := by
  cases d <;> try (exact h.elim)
  exact ⟨_, _, _, _, rfl, h⟩
theorem de_dget (hu : X.A.units + 65 < cLine) (hd : PE X o (lP td)) (hk : PE X i (lP tk)) (hs : NoSl i := by exact fun _ _ => rfl) : PE X (.Subscript o i pos) (lE (fun S Q => td S fun d => tk S fun k => dGetR d k Q)) :=
  PE.imp (pe_dget (by omega) hd hk hs) fun σ H Q ⟨g, Qd, s, w, kk⟩ => ⟨g, _, s, w, fun d x H1 w1 x1 s1 r1 => ⟨g, _, s1, w1, fun k y H2 w2 x2 s2 r2 => by
    obtain ⟨t, lk, ks, vs, rfl, hk, v, ev, q⟩ := dGetR_dic w2
    obtain ⟨a, ov, rfl, dg, _, hv⟩ := dic_get (r1.ext x2) r2 hk
    obtain ⟨u, rfl, ru⟩ := hv v ev
    exact ⟨a, u, rfl, dg, kk v u H2 q (x1.trans x2) s2 ru⟩⟩⟩
theorem de_din (hu : X.A.units + 65 < cLine) (hk : PE X i (lP tk)) (hd : PE X o (lP td)) (hm : behindInMarks .In o = false := by rfl) : PE X (.Compare i [.In] [o] pos) (lE (fun S Q => tk S fun k => td S fun d => dInR id d k Q)) :=
  PE.imp (pe_cmp (pc_din (by omega) hk hd) hm) fun σ H Q ⟨g, Qd, s, w, kk⟩ => ⟨g, _, s, w, fun k y H1 w1 x1 s1 r1 => ⟨g, _, s1, w1, fun d x H2 w2 x2 s2 r2 => by
    obtain ⟨t, lk, ks, vs, rfl, hk, q⟩ := dInR_dic w2
    obtain ⟨a, ov, rfl, dg, is, _⟩ := dic_get r2 (r1.ext x2) hk
    exact ⟨a, ov, rfl, dg, by rw [is]; exact kk _ _ H2 q (x1.trans x2) s2 (.bl _)⟩⟩⟩
theorem de_dnotIn (hu : X.A.units + 65 < cLine) (hk : PE X i (lP tk)) (hd : PE X o (lP td)) (hm : behindInMarks .NotIn o = false := by rfl) : PE X (.Compare i [.NotIn] [o] pos) (lE (fun S Q => tk S fun k => td S fun d => dInR not d k Q)) :=
  PE.imp (pe_cmp (pc_dnotin (by omega) hk hd) hm) fun σ H Q ⟨g, Qd, s, w, kk⟩ => ⟨g, _, s, w, fun k y H1 w1 x1 s1 r1 => ⟨g, _, s1, w1, fun d x H2 w2 x2 s2 r2 => by
    obtain ⟨t, lk, ks, vs, rfl, hk, q⟩ := dInR_dic w2
    obtain ⟨a, ov, rfl, dg, is, _⟩ := dic_get r2 (r1.ext x2) hk
    exact ⟨a, ov, rfl, dg, by rw [is]; exact kk _ _ H2 q (x1.trans x2) s2 (.bl _)⟩⟩⟩
theorem dt_din (hu : X.A.units + 65 < cLine) (hk : PE X i (lP tk)) (hd : PE X o (lP td)) (hm : behindInMarks .In o = false := by rfl) : PT X (.Compare i [.In] [o] pos) (lT (dTestB (fun S Q => tk S fun k => td S fun d => dInR id d k Q))) :=
  PT.imp (pt_cmp (pc_din (by omega) hk hd) hm) fun σ H Q ⟨g, Qd, s, w, kk⟩ => ⟨g, _, s, w, fun k y H1 w1 x1 s1 r1 => ⟨g, _, s1, w1, fun d x H2 w2 x2 s2 r2 => by
    obtain ⟨t, lk, ks, vs, rfl, hk, kq, hq, q⟩ := dInR_dic w2
    cases hq
    obtain ⟨a, ov, rfl, dg, is, _⟩ := dic_get r2 (r1.ext x2) hk
    exact ⟨a, ov, rfl, dg, _, rfl, by rw [is]; exact kk _ H2 q (x1.trans x2) s2⟩⟩⟩
theorem dt_dnotIn (hu : X.A.units + 65 < cLine) (hk : PE X i (lP tk)) (hd : PE X o (lP td)) (hm : behindInMarks .NotIn o = false := by rfl) : PT X (.Compare i [.NotIn] [o] pos) (lT (dTestB (fun S Q => tk S fun k => td S fun d => dInR not d k Q))) :=
  PT.imp (pt_cmp (pc_dnotin (by omega) hk hd) hm) fun σ H Q ⟨g, Qd, s, w, kk⟩ => ⟨g, _, s, w, fun k y H1 w1 x1 s1 r1 => ⟨g, _, s1, w1, fun d x H2 w2 x2 s2 r2 => by
    obtain ⟨t, lk, ks, vs, rfl, hk, kq, hq, q⟩ := dInR_dic w2
    cases hq
    obtain ⟨a, ov, rfl, dg, is, _⟩ := dic_get r2 (r1.ext x2) hk
    exact ⟨a, ov, rfl, dg, _, rfl, by rw [is]; exact kk _ H2 q (x1.trans x2) s2⟩⟩⟩
/-- {} -/
theorem df_dnewK : PE X (.Dict [] [] pos) (lF (dC (.dic false false [] []))) := PE.imp pe_dnewK fun σ H Q ⟨g, Qd, s, w, kk⟩ => fun p hp => kk _ p _ w (.new hp) (s.alloc hp) hp (s.fresh hp) (.dicK (kvs := []) upd_same .nil)
theorem df_dnewT : PE X (.Dict [] [] pos) (lF (dC (.dic true false [] []))) := PE.imp pe_dnewT fun σ H Q ⟨g, Qd, s, w, kk⟩ => fun p hp => kk _ p _ w (.new hp) (s.alloc hp) hp (s.fresh hp) (.dicT (kvs := []) upd_same .nil)
/-- d[k] = v, d owned -/
def dsDput (j : Nat) (tk tv : TDE) : TDS := fun De S => ∃ t ks vs, S[j]? = some (.own (.dic t false ks vs)) ∧ tv S fun v => tk S fun k => keyOk t k = true ∧ ks.length < sizeLine ∧ De.nx (S.set j (.own (.dic t false (dputK ks k) (dputV ks vs k v))))
theorem ds_dput (hu : X.A.units + 65 < cLine) (ho : PE X o (tVar j)) (hk : PE X i (lP tk)) (hv : PE X e (lE tv)) (hs : swapsWith e (some (.Subscript o i pos')) pos.line X.env = pure false := by rfl) : PS X (.Assign [.Subscript o i pos'] e pos) (lS (dsDput j tk tv)) :=
  PS.imp (ps_dput (by omega) ho hk hv hs) fun D σ H ⟨g, De, s, ⟨t, ks, vs, e1, w⟩, l⟩ => ⟨g, _, s, w, fun v xv H1 w1 x1 s1 r1 => by
    obtain ⟨a, ea, eo, o⟩ := s.own j _ e1
    refine ⟨.ref a, ea, g, _, s1, w1, fun k y H2 w2 x2 s2 r2 => ?_⟩
    obtain ⟨hk, hl, q⟩ := w2
    obtain ⟨a', ea', eo', o'⟩ := s2.own j _ e1
    rw [ea] at ea'
    cases ea'
    have hM : g.M a := .inr (.inr ⟨j, eo⟩)
    cases o' with
    | dicK h2 l2 =>
      rename_i kvs
      obtain ⟨b, rfl, rfl⟩ := r2.key hk
      have hf : ∀ c, kEq (kD c) (kD b) = decide (c = b) := fun c => kEq_kD c b
      refine ⟨a, _, rfl, .inl ⟨kvs, b, h2, rfl, by simpa using hl, rfl⟩, ?_⟩
      refine l.nx g.ow _ σ _ (s2.mutate e1 ea (.inl rfl) ?_) q
      rw [← put_keys hf rfl kvs xv]
      exact .dicK upd_same ((put_vals hf l2 (r1.ext x2)).tr (tr_mut hM _))
    | dicT h2 l2 =>
      rename_i kvs
      obtain ⟨b, c, rfl, rfl, hc⟩ := r2.keyT hk
      have hf : ∀ c, kEq (tD c) (tD b) = decide (c = b) := fun c => kEq_tD c b
      refine ⟨a, _, rfl, .inr ⟨kvs, b, c, h2, rfl, hc, by simpa using hl, rfl⟩, ?_⟩
      refine l.nx g.ow _ σ _ (s2.mutate e1 ea (.inl rfl) ?_) q
      rw [← put_keys hf rfl kvs xv]
      exact .dicT upd_same ((put_vals hf l2 (r1.ext x2)).tr (tr_mut hM _))⟩
end
end L2.DL


set_option Elab.async false
set_option linter.all false
set_option maxRecDepth 100000
set_option maxHeartbeats 4000000
namespace L2.DL
open PySem PySem.Spec PyProof.Rows
/-! ### walking a locked dict -/
theorem rp_key {z : Bz} {M : MS} {H : Hp} (k : Key) : Rp z M H (kV k) (kD k) := by
  cases k with
  | inl i => exact .int i
  | inr x =>
    have : Rp z M H (.str (S2 x.cps.toList)) (.str x.cps.toList) := .str _
    rw [S2_eta] at this
    exact this
theorem rpL_keys {z : Bz} {M : MS} {H : Hp} : ∀ k : List Key, RpL z M H (k.map kV) (k.map kD)
  | [] => .nil
  | a :: k => .cons (rp_key a) (rpL_keys k)
theorem Wk.keysK {g : Gh} {H1 : Hp} {a : Addr} {o : Obj} {kvs : List (Key × V)} (e : H1 a = some (.frz o (.dK kvs))) (n : ¬ g.M a) : Wk g H1 (Itk a o kvs) (kvs.map fun p => kD p.1) where
  go := fun i H' h hi => ⟨h a _ n e, by simpa using hi⟩
  stop := fun H' h => ⟨h a _ n e, by simp⟩
  yld := fun i H' x H'' d h y hd => by
    obtain ⟨rfl, k, v, e1, rfl⟩ := y
    rw [List.getElem?_map, e1] at hd
    cases hd
    exact ⟨fun _ _ e => e, fun M' t _ => rp_key k⟩
theorem Wk.keysT {g : Gh} {H1 : Hp} {a : Addr} {o : Obj} {kvs : List (List Key × V)} (e : H1 a = some (.frz o (.dT kvs))) (n : ¬ g.M a) : Wk g H1 (Itkt a o kvs) (kvs.map fun p => tD p.1) where
  go := fun i H' h hi => ⟨h a _ n e, by simpa using hi⟩
  stop := fun H' h => ⟨h a _ n e, by simp⟩
  yld := fun i H' x H'' d h y hd => by
    obtain ⟨rfl, k, v, q, e1, rfl, hq⟩ := y
    rw [List.getElem?_map, e1] at hd
    cases hd
    refine ⟨fun _ _ e => e, fun M' t nt => ?_⟩
    have nm : ¬ M' q := fun m => by
      obtain ⟨u, eu, nu⟩ := nt q m
      rw [hq] at eu
      cases eu
      exact nu
    exact .tup hq nm (rpL_keys k)
section
variable {X : Cx} {tg e : Expr} {te : TDE}
def diKeys (te : TDE) : TDI := fun S Q => te S fun d => ∃ t ks vs, d = .dic t true ks vs ∧ Q ks
theorem di_keys (he : PE X e (lE te)) : DI X tg e (diKeys te) := ⟨_, pi_keys he, fun g σ H Qd R s w k => ⟨g, _, s, w, fun d v H1 w1 x1 s1 r1 => by
  obtain ⟨t, ks, vs, rfl, q⟩ := w1
  cases r1 with
  | dicK h n l =>
    obtain ⟨o, h⟩ := h
    exact ⟨_, o, rfl, .inl ⟨_, h, k _ _ H1 q x1 s1 (Wk.keysK h n)⟩⟩
  | dicT h n l =>
    obtain ⟨o, h⟩ := h
    exact ⟨_, o, rfl, .inr ⟨_, h, k _ _ H1 q x1 s1 (Wk.keysT h n)⟩⟩⟩⟩
end
/-! ### locking -/
theorem Ow.mutK {z : Bz} {M : MS} {H : Hp} {a : Addr} {t : Bool} {ks vs : List D} (h : Ow z M H a (.dic t false ks vs)) : ∃ u, H a = some u ∧ Mut (some u) ∧ ∀ (od : Obj) (M' : MS), Tr M H M' (upd H a (.frz od u)) → ¬ M' a → Rp z M' (upd H a (.frz od u)) (.ref a) (.dic t true ks vs) := by
  cases h with
  | dicK r l => exact ⟨_, r, True.intro, fun od M' tr n => .dicK (lk := true) ⟨od, upd_same⟩ n (l.tr tr)⟩
  | dicT r l => exact ⟨_, r, True.intro, fun od M' tr n => .dicT (lk := true) ⟨od, upd_same⟩ n (l.tr tr)⟩
section
variable {X : Cx} {e : Expr} {te : TDE} {t : TDS}
def dLk (te : TDE) : TDE := fun S Q => te S fun d => ∃ t ks vs, d = .dic t false ks vs ∧ Q (.dic t true ks vs)
theorem PE.lockF (h : PE X e (lF te)) : PE X e (lE (dLk te)) := by
  constructor
  intro pins s σ H Q I ⟨g, Qd, st, w, k⟩
  refine thn (h.run pins s σ H (fun x H1 => ∃ a t ks vs, x = .ref a ∧ Qd (.dic t true ks vs) ∧ Ext g.z H H1 ∧ Stt g σ H1 ∧ H a = none ∧ ¬ g.M a ∧ OwF g.z g.M H1 a (.dic t false ks vs)) I ⟨g, _, st, w, fun d a H1 ⟨t, ks, vs, e1, q⟩ x1 s1 hn nm o => ?_⟩) fun v s1 ⟨x, H1, I1, r, a, t, ks, vs, ex, q, x1, st1, hn, nm, o⟩ => ?_
  · subst e1
    exact ⟨a, t, ks, vs, rfl, q, x1, s1, hn, nm, o⟩
  · subst ex
    obtain ⟨u, hu, mu, rp⟩ := Ow.mutK o
    obtain ⟨od, I2⟩ := I1.lock hu mu
    have x2 : Ext g.z H (upd H1 a (.frz od u)) := fun b v e n => by rw [upd_ne (ne_of_none e hn)]; exact x1 b v e n
    have b2 : BagOk g.z (upd H1 a (.frz od u)) := st1.bag.mut (fun h => nm (res_M h)) (Ow.code o)
    refine ⟨.ref a, _, I2, r, k _ _ _ q x2 (st.ext x2 b2) (rp od g.M (Tr.of fun b v n e => ?_) nm)⟩
    have hb : b ≠ a := fun z => n (.inr z)
    exact ⟨by rw [upd_ne hb]; exact e, fun q => n (.inl q)⟩
theorem Stt.lockOwn {g : Gh} {σ : St} {H : Hp} {i : Nat} {d d' : D} {a : Addr} {o' : HO} (s : Stt g σ H) (e : g.S[i]? = some (.own d)) (ea : σ[i]? = some (some (.ref a))) (eo : g.ow i = some a) (no : NtO o')
    (rp : ∀ M', Tr g.M H M' (upd H a o') → ¬ M' a → Rp g.z M' (upd H a o') (.ref a) d') : Stt { g with ow := setOw g.ow i none, S := g.S.set i (.val d') } σ (upd H a o') := by
  have ocode : ∀ c q, H a ≠ some (CodeO c q) := by
    obtain ⟨a', _, eo', ow0⟩ := s.own i d e
    rw [eo] at eo'
    cases eo'
    exact Ow.code ow0
  have hM : g.M a := .inr (.inr ⟨i, eo⟩)
  have sub : ∀ b, Mo g.M0 g.z (setOw g.ow i none) b → g.M b := fun b h => by
    rcases h with h | h | ⟨j, h⟩
    · exact .inl h
    · exact .inr (.inl h)
    · unfold setOw at h
      split at h
      · cases h
      · exact .inr (.inr ⟨j, h⟩)
  have tr : Tr g.M H (Mo g.M0 g.z (setOw g.ow i none)) (upd H a o') := Tr.of fun b u n e => ⟨by rw [upd_ne (show b ≠ a by rintro rfl; exact n hM)]; exact e, fun q => n (sub b q)⟩
  have na : ¬ Mo g.M0 g.z (setOw g.ow i none) a := fun h => by
    rcases h with h | h | ⟨j, h⟩
    · exact (s.new i a eo).2.1 h
    · exact (s.new i a eo).2.2 h
    · unfold setOw at h
      split at h
      · cases h
      · rename_i hj
        exact hj (s.inj j i a h eo)
  refine ⟨by simpa using s.len, fun j d'' e' => ?_, fun j d'' e' => ?_, fun j k c e1 e2 => ?_, fun j c e1 => ?_, fun c h => ?_, fun b u e1 n => ?_, s.bag.mut (fun h => (s.new i a eo).2.2 h) ocode, s.ex.val⟩
  · have e1 : (g.S.set i (.val d'))[j]? = some (.val d'') := e'
    rw [List.getElem?_set] at e1
    by_cases hij : i = j
    · subst hij
      rw [if_pos rfl] at e1
      split at e1
      · cases e1
        exact ⟨.ref a, ea, rp _ tr na⟩
      · cases e1
    · rw [if_neg hij] at e1
      obtain ⟨u, e2, r1⟩ := s.val j d'' e1
      exact ⟨u, e2, r1.tr tr⟩
  · have e1 : (g.S.set i (.val d'))[j]? = some (.own d'') := e'
    rw [List.getElem?_set] at e1
    by_cases hij : i = j
    · subst hij
      rw [if_pos rfl] at e1
      split at e1 <;> cases e1
    · rw [if_neg hij] at e1
      obtain ⟨u, e2, e3, r1⟩ := s.own j d'' e1
      refine ⟨u, e2, ?_, r1.tr tr fun w q => ?_⟩
      · show setOw g.ow i none j = some u
        unfold setOw; rw [if_neg (Ne.symm hij)]; exact e3
      · rw [upd_ne (show u ≠ a by rintro rfl; exact hij (s.inj i j u eo e3))]; exact q
  · have e1' : setOw g.ow i none j = some c := e1
    have e2' : setOw g.ow i none k = some c := e2
    unfold setOw at e1' e2'
    split at e1' <;> split at e2' <;> try cases e1'
    · cases e2'
    · exact s.inj j k c e1' e2'
  · have e' : setOw g.ow i none j = some c := e1
    unfold setOw at e'
    split at e'
    · cases e'
    · exact s.new j c e'
  · by_cases hc : c = a
    · subst hc; exact ⟨_, upd_same, no⟩
    · obtain ⟨u, e, n⟩ := s.alive c (sub c h)
      exact ⟨u, by rw [upd_ne hc]; exact e, n⟩
  · rw [upd_ne (show b ≠ a by rintro rfl; rw [(s.new i b eo).1] at e1; cases e1)]
    exact s.keep b u e1 n
/-- what name i owns is kept and locked from here on -/
def dsFrzL (i : Nat) (t : TDS) : TDS := fun De S => ∃ b ks vs, S[i]? = some (.own (.dic b false ks vs)) ∧ t De (S.set i (.val (.dic b true ks vs)))
theorem ds_frzL {sts : List Stmt} (i : Nat) (h : PSs X sts (lS t)) : PSs X sts (lS (dsFrzL i t)) := by
  constructor
  intro pins s σ H D I ⟨g, De, st, ⟨b, ks, vs, e, w⟩, l⟩
  obtain ⟨a, ea, eo, o⟩ := st.own i _ e
  obtain ⟨u, hu, mu, rp⟩ := o.mutK
  obtain ⟨od, I2⟩ := I.lock hu mu
  exact h.run pins s σ _ D I2 ⟨_, De, st.lockOwn e ea eo trivial (rp od), w, l.back⟩
end
end L2.DL


set_option Elab.async false
set_option linter.all false
set_option maxRecDepth 100000
set_option maxHeartbeats 4000000
namespace L2.DL
open PySem PySem.Spec PyProof.Rows
/-! ### dict comprehensions as data -/
theorem acc_gen {g : Gh} {A : Addr} {σ : St} {H1 : Hp} {vs is : List Nat} {J : It} {ds : List D} {tgd : TDG} {B : St → Hp → (Hp → Prop) → Prop} {fB : SS → (List D → Prop) → Prop} {N : Hp → Prop} {rs0 : List D} {Qr : List D → Prop} {Acc : Hp → List D → Prop}
    (hAn : ∀ H r, Acc H r → Nt H A) (hAx : ∀ H H' r, Acc H r → Ext g.z H H' → Acc H' r)
    (s1 : Stt g σ H1) (hm : g.M0 A) (h0 : g.H0 A = none) (wk : WkA g A H1 J ds) (hv : ∀ j ∈ is, j ∈ vs) (c : Nat)
    (hB : ∀ (S' : SS) (σ' : St) (H' : Hp) (rs : List D) (Qr : List D → Prop) (Nx : Hp → Prop), Stt { g with S := S' } σ' H' → Acc H' rs → rs.length + c ≤ sizeLine → fB S' Qr →
      (∀ H2 r, ExtA g.z A H' H2 → BagOk g.z H2 → Acc H2 (rs ++ r) → r.length ≤ c → Qr r → Nx H2) → B σ' H' Nx)
    (l0 : Acc H1 rs0) (hb : rs0.length + ds.length * c ≤ sizeLine) (w : wpMap (fun d k => tgd d (wipeS g.S vs) fun S2 => fB S2 k) ds Qr)
    (hN : ∀ H2 r, ExtA g.z A H1 H2 → BagOk g.z H2 → Acc H2 (rs0 ++ r) → r.length ≤ ds.length * c → Qr r → N H2) : wLoop J (lG is tgd) vs σ H1 N B := by
  refine ⟨fun i m H' => m = ds.length - i ∧ i ≤ ds.length ∧ ∃ r, ExtA g.z A H1 H' ∧ BagOk g.z H' ∧ Acc H' (rs0 ++ r) ∧ r.length ≤ i * c ∧ wpMap (fun d k => tgd d (wipeS g.S vs) fun S2 => fB S2 k) (ds.drop i) fun rest => Qr (r ++ rest),
    ⟨ds.length, by simp, Nat.zero_le _, [], fun b o e _ _ => e, s1.bag, by simpa using l0, Nat.zero_le _, w⟩, ?_⟩
  rintro i m H' ⟨rfl, hi, r, x, b, l, hrl, w'⟩
  have s' : Stt g σ H' := s1.extA hm h0 x b (hAn _ _ l)
  by_cases hlt : i < ds.length
  · have ed : ds.drop i = ds[i] :: ds.drop (i + 1) := List.drop_eq_getElem_cons hlt
    rw [ed] at w'
    have hmul : (i + 1) * c ≤ ds.length * c := Nat.mul_le_mul_right c hlt
    have hmul2 : (i + 1) * c = i * c + c := by rw [Nat.add_mul, Nat.one_mul]
    refine .inr ⟨wk.go i H' x hlt, fun H2 => ∃ r, ExtA g.z A H1 H2 ∧ BagOk g.z H2 ∧ Acc H2 (rs0 ++ r) ∧ r.length ≤ (i + 1) * c ∧ wpMap (fun d k => tgd d (wipeS g.S vs) fun S2 => fB S2 k) (ds.drop (i + 1)) fun rest => Qr (r ++ rest),
      fun H2 h => ⟨ds.length - (i + 1), by omega, rfl, hlt, h⟩, fun v H'' y => ?_⟩
    obtain ⟨gr, rp⟩ := wk.yld i H' v H'' ds[i] x s'.alive y (List.getElem?_eq_getElem hlt)
    have x'' : Ext g.z H' H'' := fun a o e _ => gr a o e
    have s'' := (s'.ext x'' (b.grow gr)).wipe vs
    refine ⟨{ g with S := wipeS g.S vs }, ds[i], _, s'', rp, w', fun S3 σ3 s3 hs3 hl3 w3 => ⟨wipe_eq hs3 (by rw [hl3, wipe_length]) hv, ?_⟩⟩
    refine hB S3 σ3 H'' (rs0 ++ r) _ _ s3 (hAx _ _ _ l x'') (by rw [List.length_append]; omega) w3 fun H2 r2 x2 b2 l2 hr2 q2 => ?_
    refine ⟨r ++ r2, (x.trans x''.A).trans x2, b2, by rw [← List.append_assoc]; exact l2, by rw [List.length_append]; omega, ?_⟩
    simpa [List.append_assoc] using q2
  · have e : i = ds.length := by omega
    subst e
    rw [List.drop_length] at w'
    exact .inl ⟨wk.stop H' x, hN H' r x b l hrl (by simpa [wpMap] using w')⟩
/-- the entries, put one by one -/
def dstep (p : List D × List D) : D → List D × List D
  | .tup [k, v] => (dputK p.1 k, dputV p.1 p.2 k v)
  | _ => p
def dfold (rs : List D) : List D × List D := rs.foldl dstep ([], [])
theorem dputK_len (ks : List D) (k : D) : (dputK ks k).length ≤ ks.length + 1 := by
  unfold dputK
  split
  · omega
  · simp
theorem dfold_len : ∀ (rs : List D) (p : List D × List D), (rs.foldl dstep p).1.length ≤ p.1.length + rs.length
  | [], p => by simp
  | e :: rs, p => by
    rw [List.foldl_cons, List.length_cons]
    refine Nat.le_trans (dfold_len rs _) ?_
    have : (dstep p e).1.length ≤ p.1.length + 1 := by
      unfold dstep
      split
      · exact dputK_len _ _
      · omega
    omega
def dAcc (g : Gh) (t : Bool) (A : Addr) (H : Hp) (rs : List D) : Prop := Ow g.z g.M H A (.dic t false (dfold rs).1 (dfold rs).2)
def dcF (t : Bool) (tt : TDT) (tk tv : TDE) : SS → (List D → Prop) → Prop := fun S2 Q => tt S2 fun b => if b = true then tk S2 fun k => tv S2 fun v => keyOk t k = true ∧ Q [.tup [k, v]] else Q []
theorem dcB_ok {g : Gh} {A : Addr} {t : Bool} {tt : TDT} {tk tv : TDE} (hm : g.M0 A) (hr : ¬ resB g.z A) (S' : SS) (σ' : St) (H' : Hp) (rs : List D) (Qr : List D → Prop) (Nx : Hp → Prop) (s : Stt { g with S := S' } σ' H') (l : dAcc g t A H' rs) (hz : rs.length + 1 ≤ sizeLine) (w : dcF t tt tk tv S' Qr)
      (kk : ∀ H2 r, ExtA g.z A H' H2 → BagOk g.z H2 → dAcc g t A H2 (rs ++ r) → r.length ≤ 1 → Qr r → Nx H2) : dcB A (lT tt) (lE tk) (lE tv) σ' H' Nx := by
  have hA : g.M A := .inl hm
  have nb : ∀ {H H'}, Ext g.z H H' → ∀ o, H A = some o → H' A = some o := fun x o e => x A o e fun h => hr h.res
  refine ⟨_, _, s, w, fun b H3 w3 x3 s3 => ?_⟩
  have l3 : dAcc g t A H3 rs := Ow.tr l x3.trM (nb x3)
  cases b with
  | false => exact kk H3 [] x3.A s3.bag (by simpa using l3) (by simp) w3
  | true =>
    refine ⟨_, _, s3, w3, fun k y H4 w4 x4 s4 r4 => ⟨_, _, s4, w4, fun d v H5 w5 x5 s5 r5 => ?_⟩⟩
    obtain ⟨hk, q⟩ := w5
    have l5 : dAcc g t A H5 rs := Ow.tr (Ow.tr l3 x4.trM (nb x4)) x5.trM (nb x5)
    have hlen := dfold_len rs ([], [])
    have fin : ∀ o', Nt (upd H5 A o') A → BagOk g.z (upd H5 A o') := fun o' _ => s5.bag.mut hr (Ow.code l5)
    have ef : dfold (rs ++ [.tup [k, d]]) = (dputK (dfold rs).1 k, dputV (dfold rs).1 (dfold rs).2 k d) := by
      unfold dfold
      rw [List.foldl_append]
      rfl
    unfold dAcc at l5 kk
    have r4' := r4.ext x5
    have r4p : Pk { g with S := S' } H5 y k := .inl r4'
    generalize hks : (dfold rs).1 = ks at l5 ef hlen
    generalize hvs : (dfold rs).2 = vs at l5 ef
    have hlen' : (dfold rs).1.length ≤ rs.length := by
      have := dfold_len rs ([], [])
      simpa [dfold] using this
    rw [hks] at hlen'
    cases l5 with
    | dicK h2 l2 =>
      rename_i kvs
      obtain ⟨b, rfl, rfl⟩ := r4p.key hk
      have hf : ∀ c, kEq (kD c) (kD b) = decide (c = b) := fun c => kEq_kD c b
      refine ⟨_, .inl ⟨kvs, b, h2, rfl, by rw [List.length_map] at hlen'; omega, rfl⟩, ?_⟩
      refine kk _ [.tup [kD b, d]] (ExtA.upd ((x3.trans x4).trans x5).A) (fin _ ⟨_, upd_same, trivial⟩) ?_ (by simp) q
      rw [ef, ← put_keys hf rfl kvs v]
      exact .dicK upd_same ((put_vals hf l2 r5).tr (tr_mut hA _))
    | dicT h2 l2 =>
      rename_i kvs
      obtain ⟨b, c, rfl, rfl, hc⟩ := r4p.keyT hk
      have hf : ∀ c, kEq (tD c) (tD b) = decide (c = b) := fun c => kEq_tD c b
      refine ⟨_, .inr ⟨kvs, b, c, h2, rfl, hc, by rw [List.length_map] at hlen'; omega, rfl⟩, ?_⟩
      refine kk _ [.tup [tD b, d]] (ExtA.upd ((x3.trans x4).trans x5).A) (fin _ ⟨_, upd_same, trivial⟩) ?_ (by simp) q
      rw [ef, ← put_keys hf rfl kvs v]
      exact .dicT upd_same ((put_vals hf l2 r5).tr (tr_mut hA _))
def dcO : Bool → HO
  | false => .dK []
  | true => .dT []
theorem dcO_emp (t : Bool) : Emp (dcO t) := by
  cases t
  · exact .inl rfl
  · exact .inr rfl
theorem dcO_no (t : Bool) : NtO (dcO t) := by
  cases t <;> exact trivial
theorem dcO_acc {g : Gh} {A : Addr} {H : Hp} (t : Bool) : dAcc g t A (upd H A (dcO t)) [] := by
  cases t
  · exact .dicK (kvs := []) upd_same .nil
  · exact .dicT (kvs := []) upd_same .nil
theorem dAcc_nt {g : Gh} {A : Addr} {t : Bool} (H : Hp) (r : List D) (h : dAcc g t A H r) : Nt H A := Ow.alive h
theorem dAcc_ext {g : Gh} {A : Addr} {t : Bool} (hr : ¬ resB g.z A) (H H' : Hp) (r : List D) (h : dAcc g t A H r) (x : Ext g.z H H') : dAcc g t A H' r := Ow.tr h x.trM fun o e => x A o e fun h => hr h.res
theorem dc_end {g : Gh} {σ : St} {H H1 H2 : Hp} {A : Addr} {rs : List D} {t : Bool} {Qd : D → Prop} {Q : VK} {o : HO} (s1 : Stt g σ H1) (x1 : Ext g.z H H1) (hA : H1 A = none) (x : ExtA g.z A (upd H1 A o) H2) (b : BagOk g.z H2) (l : dAcc (withD g A) t A H2 rs) (q : Qd (.dic t false (dfold rs).1 (dfold rs).2))
    (k : ∀ d a H', Qd d → Ext g.z H H' → Stt g σ H' → H a = none → ¬ g.M a → OwF g.z g.M H' a d → Q (.ref a) H') : Q (.ref A) H2 := by
  have hr : ¬ resB g.z A := fun h => s1.fresh hA (res_M h)
  have x2 : Ext g.z H1 H2 := fun c u e n => x c u (by rw [upd_ne (ne_of_none e hA)]; exact e) n (ne_of_none e hA)
  exact k _ A H2 q (x1.trans x2) (s1.ext x2 b) (x1.none_of hA fun h => hr h.res) (s1.fresh hA) (Ow.tr l (M' := fun b => g.M b ∨ b = A) (Tr.of fun b o n e => ⟨e, fun h => n (withD_M.mpr h)⟩) fun _ e => e)
section
variable {X : Cx} {kx vx tg iter tg1 iter1 : Expr} {ifs ifs1 : List Expr} {scope : Scope} {own : List (Str × Nat)} {pos : Pos} {is is1 vs1 : List Nat} {ti ti1 : TDI} {tgd tgd1 : TDG} {tt tt1 : TDT} {tk tv : TDE} {t : Bool}
/-- {k: v for x in it if c} -/
def dDc (t : Bool) (ti : TDI) (tgd : TDG) (tt : TDT) (tk tv : TDE) (vs : List Nat) : TDE := fun S Q => ti S fun ds => ds.length ≤ sizeLine ∧ wpMap (fun d k => tgd d (wipeS S vs) fun S2 => dcF t tt tk tv S2 k) ds fun rs => Q (.dic t false (dfold rs).1 (dfold rs).2)
theorem dc_imp {wi : TI} {vs : List Nat} (hw : WalkOk ti wi) (hv : ∀ j ∈ is, j ∈ vs) {σ : St} {H : Hp} {Q : VK} (h : lF (dDc t ti tgd tt tk tv vs) σ H Q) : tDc1 (dcO t) wi (lG is tgd) (lT tt) (lE tk) (lE tv) vs σ H Q := by
  obtain ⟨g, Qd, s, w, k⟩ := h
  refine hw g σ H _ _ s w fun ds J H1 w1 x1 s1 wk A hA => ?_
  have hr : ¬ resB g.z A := fun h => s1.fresh hA (res_M h)
  have h0 : g.H0 A = none := s1.keep.none_of hA fun h => hr h.res
  exact acc_gen (g := withD g A) (B := dcB A (lT tt) (lE tk) (lE tv)) (fB := dcF t tt tk tv) (rs0 := []) (Acc := dAcc (withD g A) t A) dAcc_nt (dAcc_ext hr) (s1.withD hA (dcO_no t)) (.inr rfl) h0 (wk.A hA) hv 1 (dcB_ok (g := withD g A) (.inr rfl) hr) (dcO_acc t) (by simpa using w1.1) w1.2
    fun H2 r x b l _ q => dc_end s1 x1 hA x b (by simpa using l) q k
theorem df_dc (hu : X.A.units + 1 < cLine) (t : Bool) (hi : DI X tg iter ti) (hN : X.N.Nodup) (ok : BlkOk X.N X.env.scope scope own) (hg : BlkA X scope fun Y => PG Y tg (lG is tgd)) (ht : BlkA X scope fun Y => PTs Y ifs (lT tt)) (hk : BlkA X scope fun Y => PE Y kx (lE tk)) (he : BlkA X scope fun Y => PE Y vx (lE tv))
    (hv : ∀ j ∈ is, j ∈ own.map (·.2) := by decide) (hc : X.calm = true := by rfl) (hs : ∀ x, foldedSetIterable iter X.env x = pure x := by intro _; rfl) : PE X (.DictComp kx vx [⟨tg, iter, ifs, 0⟩] scope pos) (lF (dDc t ti tgd tt tk tv (own.map (·.2)))) := by
  obtain ⟨wi, hpi, hw⟩ := hi
  exact PE.imp (pe_dc1 hu (dcO_emp t) hN hpi ok hg ht hk he hc hs) fun σ H Q h => dc_imp hw hv h
/-- two loops -/
def dcF2 (t : Bool) (B : Nat) (tt : TDT) (ti1 : TDI) (tgd1 : TDG) (tt1 : TDT) (tk tv : TDE) (vs1 : List Nat) : SS → (List D → Prop) → Prop := fun S2 Q => tt S2 fun b => if b = true then ti1 S2 fun es => es.length ≤ B ∧ wpMap (fun d k => tgd1 d (wipeS S2 vs1) fun S3 => dcF t tt1 tk tv S3 k) es Q else Q []
def dDc2 (t : Bool) (ti : TDI) (tgd : TDG) (tt : TDT) (ti1 : TDI) (tgd1 : TDG) (tt1 : TDT) (tk tv : TDE) (vs vs1 : List Nat) : TDE := fun S Q => ti S fun ds => ∃ B, ds.length * B ≤ sizeLine ∧ wpMap (fun d k => tgd d (wipeS S vs) fun S2 => dcF2 t B tt ti1 tgd1 tt1 tk tv vs1 S2 k) ds fun rs => Q (.dic t false (dfold rs).1 (dfold rs).2)
theorem dc2_imp {wi wi1 : TI} {vs : List Nat} (hw : WalkOk ti wi) (hw1 : WalkOk ti1 wi1) (hv : ∀ j ∈ is, j ∈ vs) (hv1 : ∀ j ∈ is1, j ∈ vs1) {σ : St} {H : Hp} {Q : VK} (h : lF (dDc2 t ti tgd tt ti1 tgd1 tt1 tk tv vs vs1) σ H Q) : tDc2 (dcO t) wi (lG is tgd) (lT tt) wi1 (lG is1 tgd1) (lT tt1) (lE tk) (lE tv) vs vs1 σ H Q := by
  obtain ⟨g, Qd, s, w, k⟩ := h
  refine hw g σ H _ _ s w fun ds J H1 ⟨c, w1, w2⟩ x1 s1 wk A hA => ?_
  have hr : ¬ resB g.z A := fun h => s1.fresh hA (res_M h)
  have h0 : g.H0 A = none := s1.keep.none_of hA fun h => hr h.res
  refine acc_gen (g := withD g A) (fB := dcF2 t c tt ti1 tgd1 tt1 tk tv vs1) (rs0 := []) (Acc := dAcc (withD g A) t A) dAcc_nt (dAcc_ext hr) (s1.withD hA (dcO_no t)) (.inr rfl) h0 (wk.A hA) hv c ?_ (dcO_acc t) (by simpa using w1) w2
    fun H2 r x b l _ q => dc_end s1 x1 hA x b (by simpa using l) q k
  intro S' σ' H' rs Qr Nx s' l hz w' kk
  refine ⟨_, _, s', w', fun b H3 w3 x3 s3 => ?_⟩
  have l3 := dAcc_ext (g := withD g A) hr _ _ _ l x3
  cases b with
  | false => exact kk H3 [] x3.A s3.bag (by simpa using l3) (by simp) w3
  | true =>
    refine hw1 _ σ' H3 _ _ s3 w3 fun es J1 H4 w4 x4 s4 wk4 => ?_
    have l4 := dAcc_ext (g := withD g A) hr _ _ _ l3 x4
    exact acc_gen (g := { withD g A with S := S' }) (B := dcB A (lT tt1) (lE tk) (lE tv)) (fB := dcF t tt1 tk tv) (Acc := dAcc (withD g A) t A) dAcc_nt (dAcc_ext (g := withD g A) hr) s4 (.inr rfl) h0 (wk4.A2 (.inl (.inr rfl))) hv1 1 (dcB_ok (g := { withD g A with S := S' }) (.inr rfl) hr) l4 (by omega) w4.2
      fun H5 r x5 b5 l5 hr5 q5 => kk H5 r ((x3.trans x4).A.trans x5) b5 l5 (by omega) q5
theorem df_dc2 (hu : X.A.units + 1 < cLine) (t : Bool) (hi : DI X tg iter ti) (hN : X.N.Nodup) (ok : BlkOk X.N X.env.scope scope own) (hvs1 : ∀ i ∈ vs1, i ∈ own.map (·.2)) (hg : BlkA X scope fun Y => PG Y tg (lG is tgd)) (ht : BlkA X scope fun Y => PTs Y ifs (lT tt)) (hi1 : ∃ wi1 : TI, (BlkA X scope fun Y => PI Y tg1 iter1 wi1) ∧ WalkOk ti1 wi1)
    (hg1 : BlkA X scope fun Y => PG Y tg1 (lG is1 tgd1)) (ht1 : BlkA X scope fun Y => PTs Y ifs1 (lT tt1)) (hk : BlkA X scope fun Y => PE Y kx (lE tk)) (he : BlkA X scope fun Y => PE Y vx (lE tv))
    (hv : ∀ j ∈ is, j ∈ own.map (·.2) := by decide) (hv1 : ∀ j ∈ is1, j ∈ vs1 := by decide) (hc : X.calm = true := by rfl) (hs : ∀ x, foldedSetIterable iter X.env x = pure x := by intro _; rfl) (hs1 : ∀ env x, foldedSetIterable iter1 env x = pure x := by intro _ _; rfl) :
    PE X (.DictComp kx vx [⟨tg, iter, ifs, 0⟩, ⟨tg1, iter1, ifs1, 0⟩] scope pos) (lF (dDc2 t ti tgd tt ti1 tgd1 tt1 tk tv (own.map (·.2)) vs1)) := by
  obtain ⟨wi, hpi, hw⟩ := hi
  obtain ⟨wi1, hpi1, hw1⟩ := hi1
  exact PE.imp (pe_dc2 hu (dcO_emp t) hN hpi ok hvs1 hg ht hpi1 hg1 ht1 hk he hc hs hs1) fun σ H Q h => dc2_imp hw hw1 hv hv1 h
end
end L2.DL


set_option Elab.async false
set_option linter.all false
set_option maxRecDepth 100000
set_option maxHeartbeats 4000000
namespace L2.DL
open PySem PySem.Spec PyProof.Rows
/-! ### y = {..} -/
section
variable {X : Cx} {kx vx tg iter tg1 iter1 : Expr} {ifs ifs1 : List Expr} {scope : Scope} {own : List (Str × Nat)} {vs1 : List Nat} {pos spos py : Pos} {wi wi1 : TI} {g g1 : TG} {tt tt1 : TT} {tk tv : TE} {o : HO} {i : Nat} {y : Str}
theorem ps_setDc1 (hu : X.A.units + 1 < cLine) (eo : Emp o) (hc : X.calm = true) (hN : X.N.Nodup) (hy : X.N[i]? = some y) (hyl : X.env.scope.names.lookup y = some .local)
    (hsw : swapsWith (.DictComp kx vx [⟨tg, iter, ifs, 0⟩] scope pos) (some (.Name y py)) spos.line X.env = pure true) (hi : PI X tg iter wi) (ok : BlkOk X.N X.env.scope scope own)
    (hg : BlkA X scope fun Y => PG Y tg g) (ht : BlkA X scope fun Y => PTs Y ifs tt) (hk : BlkA X scope fun Y => PE Y kx tk) (he : BlkA X scope fun Y => PE Y vx tv) (hs : ∀ x, foldedSetIterable iter X.env x = pure x) :
    PS X (.Assign [.Name y py] (.DictComp kx vx [⟨tg, iter, ifs, 0⟩] scope pos) spos) (tAsg (tDc1 o wi g tt tk tv (own.map (·.2))) (gName i)) := by
  refine ⟨fun pins s σ H D I h => ?_⟩
  rw [exec_Assign_Name_used _ _ _ _ hsw]
  refine wpAny_bind (wpAny_standAt (wpAny_bind ?_))
  show wpAny _ X.A (do let _ ← comprehension (.DictComp kx vx [⟨tg, iter, ifs, 0⟩] scope pos) scope X.env (firstIterPos [⟨tg, iter, ifs, 0⟩] pos) newDict false (eval iter X.env) (some (assign (.Name y py) X.env))) _ _ s
  have h : tDc1 o wi g tt tk tv (own.map (·.2)) σ H (fun x H1 => gName i x σ H1 D.nx) := h
  refine wpAny_bind (thn (dc_core1 (Qf := fun _ s' => SP X pins D .next s') hu hc hN eo I hi ok hg ht hk he hs h fun L C s' m H' I' q hn f => ?_) fun _ s' hq => wpAny_pure (wpAny_pure hq))
  show wpAny _ _ (assign (.Name y py) X.env (.ref L)) _ _ _
  refine wpAny_assign_Name (store_ok2 (v := V.ref L) I' hN hy (.inl hyl) rfl (fun s2 I2 ⟨a, sb, ha⟩ => ?_) (.inr hyl))
  obtain ⟨f0, f1, f2, f3, f4, f5⟩ := f
  have haC : C ≠ a := by
    rcases ha with z | z
    · rw [z]; exact f1
    · exact fun e => f4 y a z e.symm
  refine ⟨m, hn.sameBut sb haC, fun h3 sb3 => ?_⟩
  exact ⟨_, H', I2.turned (t' := s2.toks) (fun b o hb e => (sb3.2 b hb).trans e) f0 f1 f3 f4 f5, q⟩
theorem ps_setDc2 (hu : X.A.units + 1 < cLine) (eo : Emp o) (hc : X.calm = true) (hN : X.N.Nodup) (hy : X.N[i]? = some y) (hyl : X.env.scope.names.lookup y = some .local)
    (hsw : swapsWith (DC2 kx vx tg iter tg1 iter1 ifs ifs1 scope pos) (some (.Name y py)) spos.line X.env = pure true) (hi : PI X tg iter wi) (ok : BlkOk X.N X.env.scope scope own) (hv : ∀ i ∈ vs1, i ∈ own.map (·.2))
    (hg : BlkA X scope fun Y => PG Y tg g) (ht : BlkA X scope fun Y => PTs Y ifs tt) (hi1 : BlkA X scope fun Y => PI Y tg1 iter1 wi1) (hg1 : BlkA X scope fun Y => PG Y tg1 g1) (ht1 : BlkA X scope fun Y => PTs Y ifs1 tt1) (hk : BlkA X scope fun Y => PE Y kx tk) (he : BlkA X scope fun Y => PE Y vx tv) (hs : ∀ x, foldedSetIterable iter X.env x = pure x) (hs1 : ∀ env x, foldedSetIterable iter1 env x = pure x) :
    PS X (.Assign [.Name y py] (DC2 kx vx tg iter tg1 iter1 ifs ifs1 scope pos) spos) (tAsg (tDc2 o wi g tt wi1 g1 tt1 tk tv (own.map (·.2)) vs1) (gName i)) := by
  refine ⟨fun pins s σ H D I h => ?_⟩
  rw [exec_Assign_Name_used _ _ _ _ hsw]
  refine wpAny_bind (wpAny_standAt (wpAny_bind ?_))
  show wpAny _ X.A (do let _ ← comprehension (DC2 kx vx tg iter tg1 iter1 ifs ifs1 scope pos) scope X.env (firstIterPos [⟨tg, iter, ifs, 0⟩, ⟨tg1, iter1, ifs1, 0⟩] pos) newDict false (eval iter X.env) (some (assign (.Name y py) X.env))) _ _ s
  have h : tDc2 o wi g tt wi1 g1 tt1 tk tv (own.map (·.2)) vs1 σ H (fun x H1 => gName i x σ H1 D.nx) := h
  refine wpAny_bind (thn (dc_core2 (Qf := fun _ s' => SP X pins D .next s') hu hc hN eo I hi ok hv hg ht hi1 hg1 ht1 hk he hs hs1 h fun L C s' m H' I' q hn f => ?_) fun _ s' hq => wpAny_pure (wpAny_pure hq))
  show wpAny _ _ (assign (.Name y py) X.env (.ref L)) _ _ _
  refine wpAny_assign_Name (store_ok2 (v := V.ref L) I' hN hy (.inl hyl) rfl (fun s2 I2 ⟨a, sb, ha⟩ => ?_) (.inr hyl))
  obtain ⟨f0, f1, f2, f3, f4, f5⟩ := f
  have haC : C ≠ a := by
    rcases ha with z | z
    · rw [z]; exact f1
    · exact fun e => f4 y a z e.symm
  refine ⟨m, hn.sameBut sb haC, fun h3 sb3 => ?_⟩
  exact ⟨_, H', I2.turned (t' := s2.toks) (fun b o hb e => (sb3.2 b hb).trans e) f0 f1 f3 f4 f5, q⟩
theorem sw_trueD {gs : List Comprehension} {l : Nat} {env : Env} (hk : env.scope.kind = .function) (hy : env.scope.names.lookup y = some .local) (hl : (py.line == pos.line) = true)
    (ha : (scope.names.any fun (n, k) => n == y && (k == .local || k == .cell)) = false) : swapsWith (.DictComp kx vx gs scope pos) (some (.Name y py)) l env = pure true := by
  have ky : env.kindOf y = some .local := hy
  have hb : env.blockKind = .function := by unfold Env.blockKind; rw [hk]; rfl
  unfold swapsWith
  simp only [hb, ky, ha, Expr.pos, hl]
  rfl
end
section
variable {X : Cx} {kx vx tg iter tg1 iter1 : Expr} {ifs ifs1 : List Expr} {scope : Scope} {own : List (Str × Nat)} {pos spos py : Pos} {is is1 vs1 : List Nat} {ti ti1 : TDI} {tgd tgd1 : TDG} {tt tt1 : TDT} {tk tv : TDE} {i : Nat} {y : Str}
theorem ds_ownDc (hu : X.A.units + 1 < cLine) (t : Bool) (hi : DI X tg iter ti) (hN : X.N.Nodup) (hy : X.N[i]? = some y) (hyl : X.env.scope.names.lookup y = some .local) (hsw : swapsWith (.DictComp kx vx [⟨tg, iter, ifs, 0⟩] scope pos) (some (.Name y py)) spos.line X.env = pure true) (ok : BlkOk X.N X.env.scope scope own) (hg : BlkA X scope fun Y => PG Y tg (lG is tgd)) (ht : BlkA X scope fun Y => PTs Y ifs (lT tt)) (hk : BlkA X scope fun Y => PE Y kx (lE tk)) (he : BlkA X scope fun Y => PE Y vx (lE tv))
    (hv : ∀ j ∈ is, j ∈ own.map (·.2) := by decide) (hc : X.calm = true := by rfl) (hs : ∀ x, foldedSetIterable iter X.env x = pure x := by intro _; rfl) : PS X (.Assign [.Name y py] (.DictComp kx vx [⟨tg, iter, ifs, 0⟩] scope pos) spos) (lS (dsOwn i (dDc t ti tgd tt tk tv (own.map (·.2))))) := by
  obtain ⟨wi, hpi, hw⟩ := hi
  exact PS.imp (ps_setDc1 hu (dcO_emp t) hc hN hy hyl hsw hpi ok hg ht hk he hs) fun D σ H ⟨g, De, s, w, l⟩ => dc_imp hw hv ⟨g, _, s, w, fun d a H1 w1 x1 s1 hn nm o => l.nx _ _ _ H1 (s.setOwn x1 s1.bag hn nm o) w1⟩
theorem ds_ownDc2 (hu : X.A.units + 1 < cLine) (t : Bool) (hi : DI X tg iter ti) (hN : X.N.Nodup) (hy : X.N[i]? = some y) (hyl : X.env.scope.names.lookup y = some .local) (hsw : swapsWith (.DictComp kx vx [⟨tg, iter, ifs, 0⟩, ⟨tg1, iter1, ifs1, 0⟩] scope pos) (some (.Name y py)) spos.line X.env = pure true) (ok : BlkOk X.N X.env.scope scope own) (hvs1 : ∀ i ∈ vs1, i ∈ own.map (·.2)) (hg : BlkA X scope fun Y => PG Y tg (lG is tgd)) (ht : BlkA X scope fun Y => PTs Y ifs (lT tt)) (hi1 : ∃ wi1 : TI, (BlkA X scope fun Y => PI Y tg1 iter1 wi1) ∧ WalkOk ti1 wi1)
    (hg1 : BlkA X scope fun Y => PG Y tg1 (lG is1 tgd1)) (ht1 : BlkA X scope fun Y => PTs Y ifs1 (lT tt1)) (hk : BlkA X scope fun Y => PE Y kx (lE tk)) (he : BlkA X scope fun Y => PE Y vx (lE tv))
    (hv : ∀ j ∈ is, j ∈ own.map (·.2) := by decide) (hv1 : ∀ j ∈ is1, j ∈ vs1 := by decide) (hc : X.calm = true := by rfl) (hs : ∀ x, foldedSetIterable iter X.env x = pure x := by intro _; rfl) (hs1 : ∀ env x, foldedSetIterable iter1 env x = pure x := by intro _ _; rfl) :
    PS X (.Assign [.Name y py] (.DictComp kx vx [⟨tg, iter, ifs, 0⟩, ⟨tg1, iter1, ifs1, 0⟩] scope pos) spos) (lS (dsOwn i (dDc2 t ti tgd tt ti1 tgd1 tt1 tk tv (own.map (·.2)) vs1))) := by
  obtain ⟨wi, hpi, hw⟩ := hi
  obtain ⟨wi1, hpi1, hw1⟩ := hi1
  exact PS.imp (ps_setDc2 hu (dcO_emp t) hc hN hy hyl hsw hpi ok hvs1 hg ht hpi1 hg1 ht1 hk he hs hs1) fun D σ H ⟨g, De, s, w, l⟩ => dc2_imp hw hw1 hv hv1 ⟨g, _, s, w, fun d a H1 w1 x1 s1 hn nm o => l.nx _ _ _ H1 (s.setOwn x1 s1.bag hn nm o) w1⟩
end
end L2.DL


set_option Elab.async false
set_option linter.all false
set_option maxRecDepth 100000
set_option maxHeartbeats 4000000
namespace L2.DL
open PySem PySem.Spec PyProof.Rows PySem.Calls
/-! ### == of dicts with tuples as keys -/
section
variable {prog : Program} {w : World} {K : Type} [DecidableEq K] {knd : HeapKind prog w K} {A : Around} {E : Value → Shared → Prop} {s : Shared}
inductive HitsH (prog : Program) (w : World) (A : Around) (s : Shared) (kb : List (K × Addr × Value)) : List (K × Addr × Value) → Bool → Prop
  | nil : HitsH prog w A s kb [] true
  | miss {x : K × Addr × Value} {r : List (K × Addr × Value)} : (∀ (j : Nat) p, kb[j]? ≠ some (x.1, p)) → HitsH prog w A s kb (x :: r) false
  | hit {x : K × Addr × Value} {r : List (K × Addr × Value)} {e b : Bool} (hs : ∃ (j : Nat) (p : Addr × Value), kb[j]? = some (x.1, p)) : (∀ (j : Nat) (p : Addr × Value), kb[j]? = some (x.1, p) → SeqAt.EqAt A s x.2.2 p.2 e) → HitsH prog w A s kb r b → HitsH prog w A s kb (x :: r) (e && b)
theorem HitsH.inv {kb : List (K × Addr × Value)} {x : K × Addr × Value} {r : List (K × Addr × Value)} {b : Bool} (h : HitsH prog w A s kb (x :: r) b) :
    ((∀ (j : Nat) p, kb[j]? ≠ some (x.1, p)) ∧ b = false) ∨ ∃ e b', (∃ (j : Nat) (p : Addr × Value), kb[j]? = some (x.1, p)) ∧ (∀ (j : Nat) (p : Addr × Value), kb[j]? = some (x.1, p) → SeqAt.EqAt A s x.2.2 p.2 e) ∧ HitsH prog w A s kb r b' ∧ b = (e && b') := by
  cases h with
  | miss hn => exact .inl ⟨hn, rfl⟩
  | hit hs he hr => exact .inr ⟨_, _, hs, he, hr, rfl⟩
theorem samePairsH {nm : String} {a b : Addr} {ka kb : List (K × Addr × Value)} {r : Bool} {Q : Bool → Shared → Prop} (hu : knd.room A) (ha : (a == sysModules) = false) (hb : (b == sysModules) = false)
    (da : s.heap.DictOfH knd a ka) (db : s.heap.DictOfH knd b kb) (hits : ka.length = kb.length → HitsH prog w A s kb ka r) (h : Q (ka.length == kb.length && r) s) :
    wpAny (model prog w) A (Builtin.Dict.samePairs nm a b) Q E s := by
  obtain ⟨oa, es, ep, hoa, _, hda, hea, hka, hna⟩ := da
  obtain ⟨ob, es', ep', hob, _, hdb, heb, hkb, hnb⟩ := db
  have hla : es.size = ka.length := size_of_entries hea
  have hlb : es'.size = kb.length := size_of_entries heb
  rw [← hla, ← hlb] at h
  unfold Builtin.Dict.samePairs Builtin.Dict.showsAll
  rw [if_neg (show ¬ (a == sysModules) = true by rw [ha]; exact Bool.false_ne_true), if_neg (show ¬ (b == sysModules) = true by rw [hb]; exact Bool.false_ne_true)]
  refine wpAny_bind (wpAny_pure (wpAny_bind (wpAny_pure ?_)))
  refine wpAny_bind (wpAny_dictEntries hoa hda ?_)
  dsimp only
  refine wpAny_bind (wpAny_dictEntries hob hdb ?_)
  by_cases hsz : es.size = es'.size
  case neg =>
    rw [if_pos (by simpa using hsz)]
    have hbf : (es.size == es'.size) = false := by simpa using hsz
    rw [hbf, Bool.false_and] at h
    exact wpAny_bind (wpAny_rule (wpAny_pure h))
  case pos =>
    have h' : Q r s := by simpa [hsz] using h
    have hits' := hits (by rw [← hla, ← hlb]; exact hsz)
    rw [if_neg (by rw [hsz]; simp)]
    refine wpAny_bind (wpAny_dictEpoch hoa hda ?_)
    refine wpAny_bind ?_
    rw [Std.Legacy.Range.forIn_eq_forIn_range']
    simp only [Std.Legacy.Range.size, Nat.sub_zero, Nat.add_sub_cancel, Nat.div_one]
    refine wpAny_forIn_list _
      (fun rest q s' => s' = s ∧ q = (none, ()) ∧ ∃ i, rest = List.range' i (es.size - i) ∧ i ≤ es.size ∧ HitsH prog w A s kb (ka.drop i) r)
      _ ?_ ?_ _ _ ⟨rfl, rfl, 0, by simp, Nat.zero_le _, hits'⟩
    · rintro x rest q s' ⟨rfl, rfl, i, hr, hi, hpre⟩
      have hlt : i < es.size := by
        rcases Nat.lt_or_ge i es.size with h | h
        · exact h
        · rw [Nat.sub_eq_zero_of_le h] at hr; simp at hr
      obtain ⟨rfl, hrest⟩ : x = i ∧ rest = List.range' (i + 1) (es.size - (i + 1)) := by
        have e : es.size - i = (es.size - (i + 1)) + 1 := by omega
        rw [e, List.range'_succ] at hr
        injection hr with h1 h2
        exact ⟨h1, h2⟩
      refine wpAny_bind (wpAny_dictEntries hoa hda ?_)
      have hlt' : x < ka.length := by rw [← hla]; exact hlt
      have hdrop : ka.drop x = ka[x] :: ka.drop (x + 1) := List.drop_eq_getElem_cons hlt'
      rw [entry_at hea x, List.getElem?_eq_getElem hlt']
      rw [hdrop] at hpre
      generalize hx : ka[x] = y at hpre
      have hmem : y ∈ ka := by rw [← hx]; exact List.getElem_mem hlt'
      show wpAny _ _ (holding [Value.ref y.2.1, y.2.2] _ >>= _) _ _ _
      refine wpAny_bind (wpAny_holding (wpAny_bind (wpAny_dictFind_heap (k := y.1) (a := y.2.1) hu (hka y hmem) hob hdb heb hkb hnb ?_ ?_)))
      · intro hno
        rcases hpre.inv with ⟨_, er⟩ | ⟨_, _, ⟨j, p, hj⟩, _⟩
        · rw [er] at h'
          refine wpAny_pure ?_
          show wpAny _ _ (if (!false) = true then _ else _) _ _ _
          rw [if_pos (by decide)]
          exact wpAny_pure (wpAny_pure h')
        · exact absurd hj (hno j p)
      · intro j p hj
        rcases hpre.inv with ⟨hn, _⟩ | ⟨e, b', _, he, hrr, er⟩
        · exact absurd hj (hn j p)
        · refine wpAny_bind (wpAny_dictEntries hob hdb ?_)
          rw [entry_at heb j, hj]
          refine wpAny_holding (he j p hj _ _ _ _ ?_)
          cases e with
          | false =>
            rw [er, Bool.false_and] at h'
            show wpAny _ _ (if (!false) = true then _ else _) _ _ _
            rw [if_pos (by decide)]
            exact wpAny_pure (wpAny_pure h')
          | true =>
            rw [Bool.true_and] at er
            rw [← er] at hrr
            show wpAny _ _ (if (!true) = true then _ else _) _ _ _
            rw [if_neg (by decide)]
            refine wpAny_bind (wpAny_dictEpoch hoa hda ?_)
            rw [if_neg (by simp)]
            exact wpAny_pure ⟨rfl, rfl, x + 1, hrest, hlt, hrr⟩
    · rintro q s' ⟨rfl, rfl, i, hr, hi, hpre⟩
      have hin : i = es.size := by
        rcases Nat.lt_or_ge i es.size with h | h
        · have e : es.size - i = (es.size - (i + 1)) + 1 := by omega
          rw [e, List.range'_succ] at hr; exact nomatch hr
        · exact Nat.le_antisymm hi h
      refine wpAny_pure ?_
      rw [hin, hla, List.drop_length] at hpre
      cases hpre
      exact h'
theorem rcH_dicts {a b : Addr} {ka kb : List (K × Addr × Value)} {r : Bool} (hk : knd.room A.in1) (ha : (a == sysModules) = false) (hb : (b == sysModules) = false)
    (da : s.heap.DictOfH knd a ka) (db : s.heap.DictOfH knd b kb) (hu : A.units < cLine) (hits : ka.length = kb.length → HitsH prog w A.in1 s kb ka r) (E Q : Value → Shared → Prop) (h : Q (.bool (ka.length == kb.length && r)) s) : wpAny (model prog w) A (richCompare .Eq (.ref a) (.ref b)) Q E s := by
  refine wpAny_richCompare_same_room (op := .Eq) da.typeIs db.typeIs PySem.F.slot_dict_eq (wpAny_call_entry PySem.F.slot_dict_eq da.typeIs PySem.F.entry_dict_eq ?_ (PySem.F.args_dict_eq_2 _ _)) hu
  show wpAny _ _ (Builtin.Dict.dictSlotArgs "__eq__" ⟨[.ref a, .ref b], []⟩ >>= _) _ _ s
  refine wpAny_bind ?_
  unfold Builtin.Dict.dictSlotArgs
  refine wpAny_bind (wpAny_notOrdered_dict da.typeIs ?_)
  show wpAny _ _ (pure (Value.ref a, Value.ref b)) _ _ s
  refine wpAny_pure ?_
  refine wpAny_bind (wpAny_isInstance (T := "dict") db.typeIs PySem.F.sub_dict_dict ?_)
  simp only [Bool.not_true, Bool.false_eq_true, if_false]
  refine wpAny_bind (wpAny_pure (wpAny_bind (wpAny_pure ?_)))
  refine wpAny_bind (samePairsH hk ha hb da db hits ?_)
  refine wpAny_pure ⟨_, rfl, ?_, ?_⟩
  · exact fun x => nomatch x
  · simpa using h
end
def dhits (ks' vs' : List D) : List D → List D → Bool
  | k :: ks, v :: vs => (match dgetD ks' vs' k with | none => false | some v' => deqv v v') && dhits ks' vs' ks vs
  | _, _ => true
def deqDic (ks vs ks' vs' : List D) : Bool := (ks.length == ks'.length) && dhits ks' vs' ks vs
def rEqDic : RD2
  | .dic true _ ks vs, .dic true _ ks' vs', Q => vs.all okD = true ∧ vs'.all okD = true ∧ Q (.bl (deqDic ks vs ks' vs'))
  | _, _, _ => False
section
variable {X : Cx}
theorem at_ex {κ : Type} [DecidableEq κ] {xs : List (κ × Addr × Value)} {k : κ} {p : Addr × Value} (h : atKey xs k = some p) : ∃ j : Nat, xs[j]? = some (k, p) := by
  unfold atKey at h
  cases q : xs.find? fun x => decide (x.1 = k) with
  | none => rw [q] at h; cases h
  | some y =>
    rw [q] at h
    have e : y.2 = p := Option.some.inj h
    have h1 := List.mem_of_find?_eq_some q
    have h2 : y.1 = k := by simpa using List.find?_some q
    obtain ⟨j, hj⟩ := List.getElem?_of_mem h1
    exact ⟨j, by rw [hj, ← e, ← h2]⟩
theorem hits_of {z : Bz} {M : MS} {H : Hp} {pins : List (Addr × Obj)} {σ : St} {s : Shared} {A : Around} (I : Inv X pins σ H s) (hu : A.in1.units + 64 < cLine) {kb : List (List Key × V)} {yb : List (List Key × Addr × Value)} {vb : List D}
    (tb : KT H kb yb) (nb : (yb.map (·.1)).Nodup) (rb : RpL z M H (kb.map fun p => p.2) vb) (ob : vb.all okD = true) :
    ∀ {ka : List (List Key × V)} {ya : List (List Key × Addr × Value)} {va : List D}, KT H ka ya → RpL z M H (ka.map fun p => p.2) va → va.all okD = true → HitsH X.prog X.w A.in1 s yb ya (dhits (kb.map fun p => tD p.1) vb (ka.map fun p => tD p.1) va) := by
  intro ka
  induction ka with
  | nil => intro ya va t r o; cases t; cases r; exact .nil
  | cons p ka ih =>
    intro ya va t r o
    obtain ⟨k, v⟩ := p
    cases t with
    | @cons _ q _ qs h t =>
      cases r with
      | @cons _ _ d va r rs =>
        obtain ⟨h1, _, h2⟩ := h
        rw [List.all_cons, Bool.and_eq_true] at o
        have hk : k = q.1 := h1
        have hf : ∀ c, kEq (tD c) (tD k) = decide (c = k) := fun c => kEq_tD c k
        have rv := tb.val k
        rw [List.map_cons, dhits]
        cases hg : dgetD (kb.map fun p => tD p.1) vb (tD k) with
        | none =>
          have hn : valV kb k = none := by
            have := dget_is hf rb
            rw [hg] at this
            simpa using this
          rw [hn] at rv
          refine .miss fun j p hj => ?_
          rw [← hk] at hj
          rw [atKey_of_get nb hj] at rv
          exact rv
        | some d' =>
          obtain ⟨v', hv', r'⟩ := dget_some hf rb hg
          rw [hv'] at rv
          cases ha : atKey yb k with
          | none => rw [ha] at rv; exact rv.elim
          | some p0 =>
            rw [ha] at rv
            have rv' : RelV v' p0.2 := rv
            have hd' : okD d' = true := by
              have : d' ∈ vb := by
                have mem : ∀ {ks vs : List D} {k d : D}, dgetD ks vs k = some d → d ∈ vs := by
                  intro ks
                  induction ks with
                  | nil => intro vs k d h; cases vs <;> cases h
                  | cons a ks ih =>
                    intro vs k d h
                    cases vs with
                    | nil => cases h
                    | cons b vs =>
                      unfold dgetD at h
                      split at h
                      · cases h; exact List.mem_cons_self ..
                      · exact List.mem_cons_of_mem _ (ih h)
                exact mem hg
              exact List.all_eq_true.mp ob _ this
            refine .hit (by obtain ⟨j, hj⟩ := at_ex ha; exact ⟨j, p0, by rw [← hk]; exact hj⟩) (fun j p hj => ?_) (ih t rs o.2)
            rw [← hk] at hj
            have : p = p0 := Option.some.inj ((atKey_of_get nb hj).symm.trans ha)
            subst this
            obtain ⟨as, r1⟩ := Dp.reads I _ v q.2.2 (r.dp (K := X.K) (okD.plain o.1)) h2
            obtain ⟨bs, r2⟩ := Dp.reads I _ v' p.2 (r'.dp (K := X.K) (okD.plain hd')) rv'
            exact PySem.W.keq_at r1 r2 (okD.shaped o.1) (okD.shaped hd') hu
/-- both are dicts with tuples as keys -/
def rEqT (K : PySem.W.Frag) : R2 := fun x y H Q => ∃ (z : Bz) (M : MS) (a b : Addr) (ka kb : List (List Key × V)) (va vb : List D), x = .ref a ∧ y = .ref b ∧ Rd H a (.dT ka) ∧ Rd H b (.dT kb) ∧ RpL z M H (ka.map fun p => p.2) va ∧ RpL z M H (kb.map fun p => p.2) vb ∧ va.all okD = true ∧ vb.all okD = true ∧
  Q (.bl (deqDic (ka.map fun p => tD p.1) va (kb.map fun p => tD p.1) vb)) H
theorem op_eqT (hu : X.A.units + 66 < cLine) : OpR X (compareOp .Eq) (rEqT X.K) := by
  intro pins s σ H x y v u Q I rx ry h
  obtain ⟨z, M, a, b, ka, kb, va, vb, rfl, rfl, ha, hb, ra, rb, oa, ob, q⟩ := h
  obtain rfl : v = Value.ref a := rx
  obtain rfl : u = Value.ref b := ry
  obtain ⟨_, sa, xa, ta, da⟩ := dt_rd I.hok ha
  obtain ⟨_, sb, xb, tb, db⟩ := dt_rd I.hok hb
  have l1 : xa.length = ka.length := (Paired.length ta).symm
  have l2 : xb.length = kb.length := (Paired.length tb).symm
  refine rcH_dicts (A := X.A) (tupleKind_room_in1 (by omega)) sa sb da db (by omega) (fun _ => hits_of I (by show X.A.units + 1 + 64 < cLine; omega) tb (by obtain ⟨_, _, _, _, _, _, _, _, hn⟩ := db; exact hn) rb ob ta ra oa) _ _ ⟨.bl _, H, I, rfl, ?_⟩
  have e : (xa.length == xb.length && dhits (kb.map fun p => tD p.1) vb (ka.map fun p => tD p.1) va) = deqDic (ka.map fun p => tD p.1) va (kb.map fun p => tD p.1) vb := by
    unfold deqDic
    rw [List.length_map, List.length_map, l1, l2]
  rw [e]
  exact q
theorem real_eqT {K : PySem.W.Frag} : Real2 (rEqT K) rEqDic := by
  intro g σ H x y d e Qd Q s hx hy w k
  cases d <;> try (exact w.elim)
  rename_i t lk ks vs
  cases t <;> try (exact w.elim)
  cases e <;> try (exact w.elim)
  rename_i t lk' ks' vs'
  cases t <;> try (exact w.elim)
  obtain ⟨a, rfl, ⟨_, h, _⟩ | ⟨ka, _, ha, rfl, ra⟩⟩ := hx.dic
  · cases h
  obtain ⟨b, rfl, ⟨_, h, _⟩ | ⟨kb, _, hb, rfl, rb⟩⟩ := hy.dic
  · cases h
  exact ⟨g.z, g.M, a, b, ka, kb, vs, vs', rfl, rfl, ha.rd, hb.rd, ra, rb, w.1, w.2.1, k.here s w.2.2 (.bl _)⟩
variable {a b : Expr} {ta tb : TDE} {pos : Pos}
theorem de_eqDic (hu : X.A.units + 66 < cLine) (ha : PE X a (lP ta)) (hb : PE X b (lP tb)) : PE X (.Compare a [.Eq] [b] pos) (lE (d2 rEqDic ta tb)) := de_cmp (op_eqT hu) real_eqT ha hb
theorem dt_eqDic (hu : X.A.units + 66 < cLine) (ha : PE X a (lP ta)) (hb : PE X b (lP tb)) : PT X (.Compare a [.Eq] [b] pos) (lT (dTestB (d2 rEqDic ta tb))) := dt_cmp1 (op_eqT hu) real_eqT ha hb
end
end L2.DL


set_option Elab.async false
set_option linter.all false
set_option maxRecDepth 100000
set_option maxHeartbeats 4000000
namespace L2.DL
open PySem PySem.Spec PyProof.Rows
theorem u1 {k : Nat} {A : Around} (hr : Room k A) : A.units + 1 < cLine := by have := hr.un; omega
theorem u66 {k : Nat} {A : Around} (hr : Room k A) : A.units + 66 < cLine := by have := hr.un; omega
section
variable {X : Cx} {e e' : Expr} {i : Nat} {ta : TDA} {pos : Pos}
/-- xs.insert(k, y), xs owned -/
def dsIns (i : Nat) (ta : TDA) : TDS := fun De S => ∃ ds, S[i]? = some (.own (.lst ds)) ∧ ta S fun as => ∃ (k : Int) (y : D), as = [.int k, y] ∧ 0 ≤ k ∧ k < 2 ^ 63 ∧ ds.length < sizeLine ∧ De.nx (S.set i (.own (.lst (ds.take k.toNat ++ [y] ++ ds.drop k.toNat))))
theorem ds_ins {o : Expr} {ap cp : Pos} (ho : PE X o (tVar i)) (ha : PA X [e, e'] (lA ta))
    (hbase : attributeBase o "insert" X.env (eval o X.env) = eval o X.env := by rfl)
    (hfew : ((backTo cp (starEach [e, e'] X.env)).all (fun x => !x.1) && (backToKw cp (keywordEach [] X.env)).all (fun x => x.1.isSome)
      && decide ([e, e'].length + ([] : List Keyword).length + (if ([] : List Keyword).isEmpty then 0 else 1) < 30)) = true := by rfl)
    (hline : (ap.endLine == cp.line) = true := by rfl) (hs : starEach [e, e'] X.env = (false, eval e X.env) :: starEach [e'] X.env := by rfl) (hpl : (backTo cp (starEach [e'] X.env)).any (·.1) = false := by rfl)
    (hsw : swapsWith (.Call (.Attribute o "insert" ap) [e, e'] [] cp) none pos.line X.env = pure false := by rfl) :
    PS X (.Expr (.Call (.Attribute o "insert" ap) [e, e'] [] cp) pos) (lS (dsIns i ta)) :=
  PS.imp (ps_expr (pe_bm PySem.F.plainAttrs_list PySem.F.slot_list_insert PySem.F.type_list_insert mt_insert ho ha hbase hfew hline hs hpl) hsw) fun D σ H ⟨g, De, s, ⟨ds, e1, w⟩, l⟩ => by
    obtain ⟨a, ea, eo, o⟩ := s.own i _ e1
    cases o with
    | lst h1 l1 =>
      refine ⟨.ref a, ea, .inl ⟨rfl, _, .of h1⟩, g, _, s, w, fun as vs H1 w1 x1 s1 r1 => ?_⟩
      obtain ⟨k, y, rfl, k0, k1, hz, q⟩ := w1
      rcases r1 with _ | ⟨r1, r2⟩
      rcases r2 with _ | ⟨r2, r3⟩
      cases r3
      cases r1
      obtain ⟨a', ea', eo', o'⟩ := s1.own i _ e1
      rw [ea] at ea'
      cases ea'
      cases o' with
      | lst h2 l2 =>
        refine ⟨a, _, k, _, rfl, rfl, h2, by rw [l2.length]; exact hz, k0, k1, ?_⟩
        exact l.nx g.ow _ σ _ (s1.mutate e1 ea (.inr rfl) (.lst upd_same ((((l2.take k.toNat).append (.one r2)).append (l2.drop k.toNat)).tr (tr_mut (.inr (.inr ⟨i, eo⟩)) _)))) q
/-- len of a dict -/
def rLenDic : RDC
  | [.dic _ _ ks _], Q => Q (.int ks.length)
  | _, _ => False
end
end L2.DL


set_option Elab.async false
set_option linter.all false
set_option maxRecDepth 100000
set_option maxHeartbeats 4000000
namespace L2.DL
open PySem PySem.Spec PyProof.Rows

/-! ### zip of two things of any kind: texts, lists, tuples -/
inductive Src where
  | txt (x : Str)
  | lst (a : Addr)
  | tup (a : Addr)
def Src.has (K : PySem.W.Frag) : Src → Hp → List V → Prop
  | .txt x, _, xs => xs = x.cps.toList.map fun c => V.str ⟨#[c]⟩
  | .lst a, H, xs => SqL K H a xs
  | .tup a, H, xs => SqT K H a xs
def Src.val : Src → V
  | .txt x => .str x
  | .lst a => .ref a
  | .tup a => .ref a
def Src.it (s : Src) (t : Tok) (it : Addr) (i : Nat) (h : Heap) : Prop := match s with
  | .txt x => h.IsStrIter it (strIterType x) x t i
  | .lst a => h.IsListIter it a i
  | .tup a => h.IsTupleIter it a i
def Src.fp (s : Src) (it : Addr) : List Addr := match s with
  | .txt _ => [it]
  | .lst a => [it, a]
  | .tup a => [it, a]
def Src.below (s : Src) (n : Nat) : Prop := match s with
  | .txt _ => True
  | .lst a => a < n
  | .tup a => a < n
theorem Src.fp_it (s : Src) (it : Addr) : it ∈ s.fp it := by cases s <;> simp [Src.fp]
theorem Src.not_fp {s : Src} {it b n : Addr} (h : s.below n) (hb : n ≤ b) (ne : b ≠ it) : b ∉ s.fp it := by
  have two : ∀ a : Addr, a < n → b ∉ [it, a] := fun a h hm => by
    rcases List.mem_cons.mp hm with q | q
    · exact ne q
    · have := List.mem_singleton.mp q
      subst this
      exact absurd hb (Nat.not_le.mpr h)
  cases s with
  | txt x => exact fun hm => ne (List.mem_singleton.mp hm)
  | lst a => exact two a h
  | tup a => exact two a h
theorem Src.it_obj {s : Src} {t : Tok} {it : Addr} {i : Nat} {h : Heap} (st : s.it t it i h) : ∃ o vs, h.get? it = some o ∧ o.data = .fields vs := by
  cases s <;> obtain ⟨o, e, _, d⟩ := st <;> exact ⟨o, _, e, d⟩
theorem Src.it_at {s : Src} {t : Tok} {it : Addr} {i : Nat} {h h' : Heap} (st : s.it t it i h) (k : ∀ o, h.get? it = some o → h'.get? it = some o) : s.it t it i h' := by
  cases s <;> obtain ⟨o, e, r⟩ := st <;> exact ⟨o, k o e, r⟩
section
variable {X : Cx} {pins : List (Addr × Obj)} {σ : St} {H : Hp} {sh : Shared} {A : Around} {xs : List V}
theorem Src.draws {s : Src} {t : Tok} {it : Addr} {n : Nat} (I : Inv X pins σ H sh) (h : s.has X.K H xs) (hh : A.handled = none) (hb : s.below n) (hi : n ≤ it) :
    ∃ (P : Nat → Value → Prop) (St : Nat → Heap → Prop), Draws X.prog X.w A it (s.fp it) xs.length P St ∧ (∀ i h', St i h' → s.it t it i h') ∧ (∀ i, s.it t it i sh.heap → St i sh.heap) ∧ ∀ i v, P i v → ∃ x, xs[i]? = some x ∧ RelV x v := by
  cases s with
  | txt x =>
    obtain rfl : xs = _ := h
    have D := Draws.text (prog := X.prog) (w := X.w) (A := A) hh it x t
    refine ⟨fun i v => ∃ c u, x.cps[i]? = some c ∧ v = .str ⟨#[c]⟩ u, fun i h => h.IsStrIter it (strIterType x) x t i, ?_, fun i h' st => st, fun i st => st, ?_⟩
    · rw [List.length_map, Array.length_toList]
      exact D
    · rintro i v ⟨c, u, e, rfl⟩
      refine ⟨.str ⟨#[c]⟩, ?_, ⟨_, rfl⟩⟩
      rw [List.getElem?_map, Array.getElem?_toList, e]
      rfl
  | lst a =>
    obtain ⟨its, rv, p, _⟩ := I.list h
    have D := Draws.list (prog := X.prog) (w := X.w) (A := A) hh it a (Nat.ne_of_lt (Nat.lt_of_lt_of_le hb hi)) its.toArray
    refine ⟨fun i v => its.toArray[i]? = some v, fun i h => h.IsListIter it a i ∧ h.IsList a its.toArray, ?_, fun i h' st => st.1, fun i st => ⟨st, p.isList⟩, ?_⟩
    · rw [rv.length]
      exact D
    · intro i v e
      have e' : its[i]? = some v := by simpa using e
      have hl : i < xs.length := by
        rw [rv.length]
        exact (List.getElem?_eq_some_iff.mp e').1
      obtain ⟨u, hu, ru⟩ := rv.get (List.getElem?_eq_getElem hl)
      rw [e'] at hu
      cases hu
      exact ⟨_, List.getElem?_eq_getElem hl, ru⟩
  | tup a =>
    obtain ⟨its, rv, p, _⟩ := I.tuple h
    have D := Draws.tuple (prog := X.prog) (w := X.w) (A := A) hh it a (Nat.ne_of_lt (Nat.lt_of_lt_of_le hb hi)) its.toArray
    refine ⟨fun i v => its.toArray[i]? = some v, fun i h => h.IsTupleIter it a i ∧ h.IsTuple a its.toArray, ?_, fun i h' st => st.1, fun i st => ⟨st, p⟩, ?_⟩
    · rw [rv.length]
      exact D
    · intro i v e
      have e' : its[i]? = some v := by simpa using e
      have hl : i < xs.length := by
        rw [rv.length]
        exact (List.getElem?_eq_some_iff.mp e').1
      obtain ⟨u, hu, ru⟩ := rv.get (List.getElem?_eq_getElem hl)
      rw [e'] at hu
      cases hu
      exact ⟨_, List.getElem?_eq_getElem hl, ru⟩
theorem Src.has_inj {s : Src} {ys : List V} (I : Inv X pins σ H sh) (h : s.has X.K H xs) (h' : s.has X.K H ys) : xs = ys := by
  cases s with
  | txt x => exact Eq.trans h (Eq.symm h')
  | lst a => exact I.list_inj h h'
  | tup a => exact I.tuple_inj h h'
def Src.fits : Src → Value → Tok → Prop
  | .txt x, u, t => u = .str x t
  | .lst a, u, _ => u = .ref a
  | .tup a, u, _ => u = .ref a
theorem Src.begins {s : Src} {u : Value} (I : Inv X pins σ H sh) (h : s.has X.K H xs) (r : RelV s.val u) :
    ∃ (t : Tok) (o : Obj) (Hb : Heap → Prop), Begins u o Hb ∧ Hb sh.heap ∧ s.below sh.heap.objs.size ∧ ∀ (it : Addr) (h' : Heap), h'.get? it = some o → s.it t it 0 h' := by
  cases s with
  | txt x =>
    obtain ⟨t, rfl⟩ : ∃ t, u = Value.str x t := r
    exact ⟨t, _, _, begins_text x t, True.intro, True.intro, fun it h' e => ⟨_, e, rfl, rfl⟩⟩
  | lst a =>
    obtain rfl : u = Value.ref a := r
    obtain ⟨its, rv, p, _⟩ := I.list h
    exact ⟨0, _, _, begins_list a its.toArray, p.isList, p.lt, fun it h' e => ⟨_, e, rfl, rfl⟩⟩
  | tup a =>
    obtain rfl : u = Value.ref a := r
    obtain ⟨its, rv, p, _⟩ := I.tuple h
    obtain ⟨o1, ho1, _⟩ := id p
    exact ⟨0, _, _, begins_tuple a its.toArray, p, Heap.lt_size ho1, fun it h' e => ⟨_, e, rfl, rfl⟩⟩
end
def ItzG (K : PySem.W.Frag) (s1 s2 : Src) : It :=
  ⟨fun i H => ∃ (xs ys : List V) (x y : V), s1.has K H xs ∧ s2.has K H ys ∧ xs[i]? = some x ∧ ys[i]? = some y,
    fun i H v H' => ∃ T x y, v = .ref T ∧ H T = none ∧ H' = upd H T (.tup [x, y]) ∧ (∀ xs, s1.has K H xs → xs[i]? = some x) ∧ ∀ ys, s2.has K H ys → ys[i]? = some y,
    fun i H => ∃ xs ys : List V, s1.has K H xs ∧ s2.has K H ys ∧ (i = xs.length ∨ i = ys.length) ∧ i ≤ xs.length ∧ i ≤ ys.length⟩
theorem turn_zipG {P : Program} {w : World} {K : PySem.W.Frag} {elts : List Expr} {kk : Nat} {tpos : Pos} {n : Nat} {s1 s2 : Src} {t1 t2 : Tok} (b1 : s1.below n) (b2 : s2.below n) :
    Turn P w K (.Tuple elts kk tpos) (ItzG K s1 s2) [n + 4, n + 2, n + 3, n, n + 1] (n + 4) (fun i h => IsZip h (n + 4) (n + 2) (n + 3) .none ∧ IsTupOf2 h (n + 2) (.ref n) (.ref (n + 1)) ∧ (∃ x y, IsTupOf2 h (n + 3) x y) ∧ s1.it t1 n i h ∧ s2.it t2 (n + 1) i h) := by
  have ne : ∀ i j : Nat, i ≠ j → (n + i : Nat) ≠ n + j := fun i j h => by omega
  have le : ∀ i : Nat, n ≤ n + i := fun i => Nat.le_add_right n i
  have D : ZipSep2 (n + 4) (n + 2) (n + 3) n (n + 1) (s1.fp n) (s2.fp (n + 1)) := {
    TIz := ne 2 4 (by decide)
    TOz := ne 3 4 (by decide)
    TITO := ne 2 3 (by decide)
    TIi1 := ne 2 0 (by decide)
    mem1 := s1.fp_it n
    zf1 := Src.not_fp b1 (le 4) (ne 4 0 (by decide))
    Tf1 := Src.not_fp b1 (le 3) (ne 3 0 (by decide))
    TIi2 := ne 2 1 (by decide)
    mem2 := s2.fp_it _
    zf2 := Src.not_fp b2 (le 4) (ne 4 1 (by decide))
    Tf2 := Src.not_fp b2 (le 3) (ne 3 1 (by decide))
    sep1_2 := Src.not_fp b2 (le 0) (ne 0 1 (by decide))
    sep2_1 := Src.not_fp b1 (le 1) (ne 1 0 (by decide)) }
  exact {
    mem := by simp
    obj := fun i h st c hc => by
      obtain ⟨hz, hTI, ⟨x, y, hTO⟩, h1, h2⟩ := st
      obtain ⟨o1, v1, e1, d1⟩ := Src.it_obj h1
      obtain ⟨o2, v2, e2, d2⟩ := Src.it_obj h2
      have e' : c = n + 4 ∨ c = n + 2 ∨ c = n + 3 ∨ c = n ∨ c = n + 1 := by simpa using hc
      rcases e' with q | q | q | q | q
      · rw [q]; exact ⟨_, hz, fun v q => nomatch q⟩
      · rw [q]; exact ⟨_, hTI, fun v q => nomatch q⟩
      · rw [q]; exact ⟨_, hTO, fun v q => nomatch q⟩
      · rw [q]; exact ⟨o1, e1, fun v q => by rw [d1] at q; cases q⟩
      · rw [q]; exact ⟨o2, e2, fun v q => by rw [d2] at q; cases q⟩
    keep := fun i h h' st k => by
      obtain ⟨hz, hTI, ⟨x, y, hTO⟩, h1, h2⟩ := st
      exact ⟨k (n + 4) (by simp) _ hz, k (n + 2) (by simp) _ hTI, ⟨x, y, k (n + 3) (by simp) _ hTO⟩, Src.it_at h1 fun o q => k n (by simp) o q, Src.it_at h2 fun o q => k (n + 1) (by simp) o q⟩
    item := by
      intro X hP hw hK hc i pins s σ H E I hf st hg
      subst hP hw hK
      obtain ⟨hz, hTI, ⟨x0, y0, hTO⟩, h1, h2⟩ := st
      obtain ⟨xs, ys, x, y, hqx, hqy, hx, hy⟩ := hg
      obtain ⟨P1, S1, D1, f1, g1, r1⟩ := Src.draws (t := t1) (it := n) I hqx (show X.A.in1.handled = none from I.ok.hd hc) b1 (le 0)
      obtain ⟨P2, S2, D2, f2, g2, r2⟩ := Src.draws (t := t2) (it := n + 1) I hqy (show X.A.in1.handled = none from I.ok.hd hc) b2 (le 1)
      have hzl : n + 4 < s.heap.objs.size := Heap.lt_size hz
      refine wpAny_pyNext_zipD2_item D D1 D2 hz hTI hTO (g1 i h1) (g2 i h2) (List.getElem?_eq_some_iff.mp hx).1 (List.getElem?_eq_some_iff.mp hy).1 fun u u2 h' tk p1 p2 z' TO' h1' h2' hT hsz hk => ?_
      obtain ⟨x', hx', ru⟩ := r1 i u p1
      obtain ⟨y', hy', ru2⟩ := r2 i u2 p2
      rw [hx] at hx'
      rw [hy] at hy'
      cases hx'
      cases hy'
      refine ⟨_, rfl, wpAny_letOwnedTupleGo_zip (s := { s with heap := h', toks := tk }) z' fun h'' z'' sb => ?_⟩
      have hT2 : h''.get? s.heap.objs.size = some { cls := .type "tuple", data := .seq #[u, u2] } := (sb.2 _ (Nat.ne_of_gt hzl)).trans hT
      have new : ObjOk X.prog X.w (upd H s.heap.objs.size (.tup [x, y])) h'' s.heap.objs.size (.tup [x, y]) :=
        ⟨by show 2 ≤ sizeLine; decide, [u, u2], .cons ru (.cons ru2 .nil), ⟨_, hT2, rfl, _, rfl⟩⟩
      have I1 : Inv X pins σ (upd H s.heap.objs.size (.tup [x, y])) { s with heap := h'', toks := tk } :=
        I.turnedNew (t' := tk) (ch := [n + 4, n + 2, n + 3, n, n + 1]) (fun c o hb q => (sb.2 c (fun q' => hb (by simp [q']))).trans (hk c o (fun q' => hb (by simp [q'])) (fun q' => hb (by simp [q'])) (fun q' => hb (by simp [q'])) (fun q' => hb (by simp [q'])) q)) hf (Nat.le_refl _) new
      refine ⟨.ref s.heap.objs.size, _, I1, rfl, ⟨_, x, y, rfl, I.hok.fresh (Nat.le_refl _), rfl, fun l hl => by rw [Src.has_inj I hl hqx]; exact hx, fun l hl => by rw [Src.has_inj I hl hqy]; exact hy⟩, ⟨z'', ?_, ⟨u, u2, ?_⟩, ?_, ?_⟩, fun c hcm => ?_⟩
      · exact (sb.2 _ (ne 2 4 (by decide))).trans (hk _ _ (ne 2 4 (by decide)) (ne 2 3 (by decide)) (ne 2 0 (by decide)) (ne 2 1 (by decide)) hTI)
      · exact (sb.2 _ (ne 3 4 (by decide))).trans TO'
      · exact Src.it_at (f1 _ _ h1') fun o q => (sb.2 _ (ne 0 4 (by decide))).trans q
      · exact Src.it_at (f2 _ _ h2') fun o q => (sb.2 _ (ne 1 4 (by decide))).trans q
      · have hlt : c < s.heap.objs.size := by
          have e' : c = n + 4 ∨ c = n + 2 ∨ c = n + 3 ∨ c = n ∨ c = n + 1 := by simpa using hcm
          have up : ∀ i : Nat, i ≤ 4 → (n + i : Nat) < s.heap.objs.size := fun i hi => Nat.lt_of_le_of_lt (Nat.add_le_add_left hi n) hzl
          rcases e' with q | q | q | q | q
          · rw [q]; exact up 4 (by decide)
          · rw [q]; exact up 2 (by decide)
          · rw [q]; exact up 3 (by decide)
          · rw [q]; exact up 0 (by decide)
          · rw [q]; exact up 1 (by decide)
        rw [upd_ne (Nat.ne_of_lt hlt)]
        exact (hf c hcm).1
    done := by
      intro X hP hw hK hc i pins s σ H E I hf st hg
      subst hP hw hK
      obtain ⟨hz, hTI, ⟨x0, y0, hTO⟩, h1, h2⟩ := st
      obtain ⟨xs, ys, hqx, hqy, hend, le1, le2⟩ := hg
      obtain ⟨P1, S1, D1, f1, g1, r1⟩ := Src.draws (t := t1) (it := n) I hqx (show X.A.in1.handled = none from I.ok.hd hc) b1 (le 0)
      obtain ⟨P2, S2, D2, f2, g2, r2⟩ := Src.draws (t := t2) (it := n + 1) I hqy (show X.A.in1.handled = none from I.ok.hd hc) b2 (le 1)
      exact wpAny_pyNext_zipD2_end D D1 D2 hz hTI hTO (g1 i h1) (g2 i h2) le1 le2 hend fun h' tk hk => ⟨rfl, I.turnedL (t' := tk) (ch := [n + 4, n + 2, n + 3, n, n + 1]) (fun c o hb q =>
        hk c o (fun q' => hb (by simp [q'])) (fun q' => hb (by simp [q'])) (fun q' => hb (by simp [q'])) (fun q' => hb (by simp [q'])) q) hf⟩
    self := fun A i s Q E st h => wpAny_pyIter_zip st.1 h }
def iZipG (K : PySem.W.Frag) (ta : TA) : TI := fun σ H R => ta σ H fun vs H1 => ∃ (s1 s2 : Src) (xs ys : List V), vs = [s1.val, s2.val] ∧ s1.has K H1 xs ∧ s2.has K H1 ys ∧ R (ItzG K s1 s2) H1
theorem pi_zipG {X : Cx} {e e2 : Expr} {ta : TA} {p pos tpos : Pos} {elts : List Expr} {kk : Nat} (hg : Gl X "zip") (hm : X.mg "zip" = none) (ha : PA X [e, e2] ta)
    (hs : starEach [e, e2] X.env = (false, eval e X.env) :: starEach [e2] X.env := by rfl) (hpl : (backTo pos (starEach [e2] X.env)).any (·.1) = false := by rfl) :
    PI X (.Tuple elts kk tpos) (.Call (.Name "zip" p) [e, e2] [] pos) (iZipG X.K ta) := by
  refine ⟨fun pins s σ H R I h => ?_⟩
  refine Call_ (ld_blt I hg hm PyProof.Rows.boot_zip (PyProof.Rows.callWith_type1 (thn (ha.run pos pins s σ H _ I h) fun us s1 ⟨vs, H1, I1, r1, q1⟩ => ?_) hs hpl))
  obtain ⟨c1, c2, xs, ys, ex, hq1, hq2, q⟩ := q1
  subst ex
  cases r1 with
  | cons r rr =>
    cases rr with
    | cons r' rr =>
      cases rr
      obtain ⟨t1, o1, B1, z1, y1, w1, i1⟩ := Src.begins I1 hq1 r
      obtain ⟨t2, o2, B2, z2, y2, w2, i2⟩ := Src.begins I1 hq2 r'
      have fresh5 : ∀ c, c ∈ [s1.heap.objs.size + 4, s1.heap.objs.size + 2, s1.heap.objs.size + 3, s1.heap.objs.size, s1.heap.objs.size + 1] → FpOk X pins H1 c := fun c hcm => by
        have e' : c = s1.heap.objs.size + 4 ∨ c = s1.heap.objs.size + 2 ∨ c = s1.heap.objs.size + 3 ∨ c = s1.heap.objs.size ∨ c = s1.heap.objs.size + 1 := by simpa using hcm
        have hle : s1.heap.objs.size ≤ c := by omega
        exact I1.fpOk hle (I1.hok.fresh hle)
      refine zip_begins2 z1 z2 y1 y2 fun h' hz hTI hTO h1 h2 hsz hk => wpAny_pyIter_zip hz ?_
      have I2 : Inv X pins σ H1 { s1 with heap := h' } := I1.kept (t' := s1.toks) hk
      exact ⟨s1.heap.objs.size + 4, _, _, _, H1, rfl, I2, turn_zipG (t1 := t1) (t2 := t2) w1 w2, ⟨hz, hTI, ⟨_, _, hTO⟩, i1 _ _ h1, i2 _ _ h2⟩, fresh5, q⟩

/-! ### over data -/
inductive SrcR (g : Gh) (H1 : Hp) : Src → List V → List D → Prop
  | txt (l : List Nat) : SrcR g H1 (.txt (S2 l)) (l.map fun c => .str ⟨#[c]⟩) (l.map fun c => .str [c])
  | lst {a : Addr} {xs : List V} {ds : List D} : H1 a = some (.lst xs) → ¬ g.M a → RpL g.z g.M H1 xs ds → SrcR g H1 (.lst a) xs ds
  | tup {a : Addr} {xs : List V} {ds : List D} : H1 a = some (.tup xs) → ¬ g.M a → RpL g.z g.M H1 xs ds → SrcR g H1 (.tup a) xs ds
theorem rpL_chars {z : Bz} {M : MS} {H : Hp} : ∀ l : List Nat, RpL z M H (l.map fun c => .str ⟨#[c]⟩) (l.map fun c => .str [c])
  | [] => .nil
  | c :: l => .cons (.str [c]) (rpL_chars l)
theorem SrcR.rp {g : Gh} {H1 : Hp} {s : Src} {xs : List V} {ds : List D} (r : SrcR g H1 s xs ds) : RpL g.z g.M H1 xs ds := by
  cases r with
  | txt l => exact rpL_chars l
  | lst e n l => exact l
  | tup e n l => exact l
theorem SrcR.has {g : Gh} {H1 H' : Hp} {K : PySem.W.Frag} {s : Src} {xs : List V} {ds : List D} (r : SrcR g H1 s xs ds) (h : Lat g H1 H') : s.has K H' xs := by
  cases r with
  | txt l => rfl
  | lst e n l => exact (.of (h _ _ n e))
  | tup e n l => exact (.of (h _ _ n e))
theorem Wk.zipG {g : Gh} {H1 : Hp} {K : PySem.W.Frag} {s1 s2 : Src} {xs ys : List V} {ds es : List D} (r1 : SrcR g H1 s1 xs ds) (r2 : SrcR g H1 s2 ys es) : Wk g H1 (ItzG K s1 s2) (zipD ds es) where
  go := fun i H' h hi => by
    rw [zipD_length] at hi
    obtain ⟨v, hv, _⟩ := r1.rp.get (List.getElem?_eq_getElem (show i < ds.length by omega))
    obtain ⟨v', hv', _⟩ := r2.rp.get (List.getElem?_eq_getElem (show i < es.length by omega))
    exact ⟨xs, ys, v, v', r1.has h, r2.has h, hv, hv'⟩
  stop := fun H' h => ⟨xs, ys, r1.has h, r2.has h, by rw [r1.rp.length, r2.rp.length, zipD_length]; omega⟩
  yld := fun i H' x H'' d h y hd => by
    obtain ⟨T, v, v', rfl, hT, rfl, y, y'⟩ := y
    obtain ⟨x, y0, e1, e2, rfl⟩ := zipD_get i _ _ hd
    obtain ⟨w, hv, r⟩ := r1.rp.get e1
    obtain ⟨w', hv', r'⟩ := r2.rp.get e2
    have := (y xs (r1.has h)).symm.trans hv
    cases this
    have := (y' ys (r2.has h)).symm.trans hv'
    cases this
    exact ⟨fun b o e => by rw [upd_ne (ne_of_none e hT)]; exact e, fun M' t fr => Rp.pair (.cons (r.tr t) (.cons (r'.tr t) .nil)) hT (fun h => (fr T h).ne hT)⟩
theorem rp_src {g : Gh} {H1 : Hp} {v : V} {d : D} {ds : List D} (r : Rp g.z g.M H1 v d) (e : itemsD d = some ds) : ∃ s xs, v = Src.val s ∧ SrcR g H1 s xs ds := by
  cases r <;> simp only [itemsD, reduceCtorEq, Option.some.injEq] at e <;> subst e
  · exact ⟨.txt _, _, rfl, .txt _⟩
  · rename_i h n l
    exact ⟨.lst _, _, rfl, .lst h n l⟩
  · rename_i h n l
    exact ⟨.tup _, _, rfl, .tup h n l⟩
section
variable {X : Cx} {e e2 : Expr} {ts : TDA} {p pos tpos : Pos} {elts : List Expr} {kk : Nat}
def diZipG (ts : TDA) : TDI := fun S Q => ts S fun ds => ∃ a b xs ys, ds = [a, b] ∧ itemsD a = some xs ∧ itemsD b = some ys ∧ Q (zipD xs ys)
theorem di_zipG (hm : X.mg "zip" = none) (ha : PA X [e, e2] (lA ts)) (hg : Gl X "zip" := by rfl) (hs : starEach [e, e2] X.env = (false, eval e X.env) :: starEach [e2] X.env := by rfl) (hpl : (backTo pos (starEach [e2] X.env)).any (·.1) = false := by rfl) :
    DI X (.Tuple elts kk tpos) (.Call (.Name "zip" p) [e, e2] [] pos) (diZipG ts) :=
  ⟨_, pi_zipG hg hm ha hs hpl, fun g σ H Qd R s w k => ⟨g, _, s, w, fun ds vs H1 w1 x1 s1 r1 => by
    obtain ⟨a, b, xs, ys, rfl, h1, h2, q⟩ := w1
    rcases r1 with _ | ⟨r1, r2⟩
    rcases r2 with _ | ⟨r2, r3⟩
    cases r3
    obtain ⟨c1, us, rfl, q1⟩ := rp_src r1 h1
    obtain ⟨c2, ws, rfl, q2⟩ := rp_src r2 h2
    exact ⟨c1, c2, us, ws, rfl, q1.has (fun _ _ _ e => e), q2.has (fun _ _ _ e => e), k _ _ H1 q x1 s1 (Wk.zipG q1 q2)⟩⟩⟩
end
end L2.DL


set_option Elab.async false
set_option linter.all false
set_option maxRecDepth 100000
set_option maxHeartbeats 4000000
namespace L2.DL
open PySem PySem.Spec PyProof.Rows
/-! ### a classmethod read off its class; a class held by a local name, called -/
section
variable {X : Cx} {C p g f : Addr} {mc : Value} {fd : FuncData} {ps ks : List Str} {k n m i : Nat} {tf : TDF} {dvs : List V} {dds : List D} {o e : Expr} {es : List Expr} {kws : List Keyword} {x mt : Str} {pp pos apos : Pos} {to : TDE} {ts tk : TDA} {pl : Sem Bool} {perm : List Nat}
def dCMeth (C : Addr) (tf : TDF) (dds : List D) (to : TDE) (ts : TDA) : TDE := fun S Q => to S fun d => d = .raw (.ref C) ∧ ts S fun ds => tf (.raw (.ref C) :: (ds ++ dds)) Q
theorem df_cmeth (he : PE X o (lE to)) (r : ClX.CRead X.K C mc) (c : ∃ p, ClX.CMet X.K C mc mt p g) (F : FnOk X.prog X.w X.K X.mg X.base CX0 k g fd ps (spF n tf)) (hr : Room k X.A) (hb : ∃ dsv, Vals dvs dsv ∧ Binds X.K fd ps dsv) (hdd : ∀ z M H, RpL z M H dvs dds) (ha : PA X (e :: es) (lA ts)) (hn : ∀ ds Q, tf ds Q → ds.length = n)
    (hst : starEach (e :: es) X.env = (false, eval e X.env) :: starEach es X.env := by rfl) (hpl : (backTo pos (starEach es X.env)).any (·.1) = false := by rfl)
    (ht : eval (.Call (.Attribute o mt apos) (e :: es) [] pos) X.env = (do
      let ov ← eval o X.env
      standAt apos.atName
      let (f, first) ← holding [ov] (getMethod ov mt pl)
      callWith pos f first (backTo pos (starEach (e :: es) X.env)) (backToKw pos (keywordEach [] X.env))) := by rfl) :
    PE X (.Call (.Attribute o mt apos) (e :: es) [] pos) (lF (dCMeth C tf dds to ts)) := by
  obtain ⟨dsv, hd, hb⟩ := hb
  obtain ⟨pm, c⟩ := c
  exact PE.imp (ClX.pe_cmeth (pl := pl) he r c (F.raw hb hd) hr pass0 ha hst hpl ht) fun σ H Q ⟨g', Qd, s, w, kk⟩ =>
    ⟨g', _, s, w, fun d v H1 w1 x1 s1 r1 => by
      obtain ⟨rfl, w1⟩ := w1
      cases r1
      refine ⟨rfl, g', _, s1, w1, fun ds vs H2 w2 x2 s2 r2 => ?_⟩
      have r3 : RpL g'.z g'.M H2 (V.ref C :: (vs ++ dvs)) (.raw (.ref C) :: (ds ++ dds)) := .cons (.raw _) (r2.append (hdd g'.z g'.M H2))
      exact ⟨by rw [show (V.ref C :: vs ++ dvs).length = (V.ref C :: (vs ++ dvs)).length from rfl, r3.length]; exact hn _ _ w2, g'.z, g'.M, _, Qd, s2.amb, r3, w2, fun d a H' q x b hn nm ow => kk d a H' q ((x1.trans x2).trans x) (s2.ext x b) ((x1.trans x2).none_of hn fun h => nm (res_M h.res)) nm ow⟩⟩
end
section
variable {X : Cx} {CX : CXT} {k n i : Nat} {f C : Addr} {fd : FuncData} {ps ks : List Str} {sp : Sp} {E : XK} {x : Str} {p pos : Pos} {e : Expr} {es : List Expr} {kws : List Keyword} {t tk : TA} {g : List Value → List Value → List Value} {gV : List V → List V → List V}
def tMakeKL (i : Nat) (C : Addr) (n m : Nat) (sp : Sp) (gV : List V → List V → List V) (E : XK) (t tk : TA) : TE := fun σ H Q => σ[i]? = some (some (.ref C)) ∧ tMakeK C n m sp gV E t tk σ H Q
theorem pe_makeKL (M : Mk X.K C f) (F : FnOk X.prog X.w X.K X.mg X.base CX k f fd ps sp) (hr : Room (k + 1) X.A) (hN : X.N[i]? = some x) (hv : Vis X.env.scope x) (hb : KBn X.K fd ps (n + 1) ks g gV) (hx : Passes CX X E) (ha : PA X (e :: es) t) (hkw : PK X kws tk)
    (hall : (backToKw pos (keywordEach kws X.env)).all (·.1.isSome) = true := by rfl) (hks : (backToKw pos (keywordEach kws X.env)).filterMap (·.1) = ks := by rfl) (hdb : (x == ("__debug__" : Str)) = false := by decide) (hcd : (x == ("__classdict__" : Str)) = false := by decide)
    (he : starEach (e :: es) X.env = (false, eval e X.env) :: starEach es X.env := by rfl) (hpl : ((backTo pos (starEach (e :: es) X.env)).any (·.1) || (backToKw pos (keywordEach kws X.env)).any (·.1.isNone)) = false := by rfl) :
    PE X (.Call (.Name x p) (e :: es) kws pos) (tMakeKL i C n ks.length sp gV E t tk) := by
  refine ⟨fun pins s σ H Q I h => ?_⟩
  obtain ⟨hs, ht⟩ := h
  refine wpAny_Call_Name_kw (thn ((pe_var (pos := p) hN hv hdb hcd).run pins s σ H (fun v H1 => v = .ref C ∧ H1 = H) I ⟨.ref C, hs, rfl, rfl⟩) fun u s1 ⟨v, H1, I1, r1, q1⟩ => ?_)
  obtain ⟨rfl, rfl⟩ := q1
  cases r1
  refine PySem.W.callWith_KW (h₀ := X.base) I.ok.mod.kin M.kp hall (thn (ha.run pos pins s1 σ _ _ I1 ht) fun us s1 ⟨vs, H1, I1, r, q⟩ => ?_) hpl he
  refine thn (hkw.run pos pins s1 σ H1 _ I1 q) fun ws s2 ⟨zs, H2, I2, rz, l1, l2, q2⟩ => ⟨I2.kIn, ?_⟩
  rw [hks]
  exact run_makeK M F hr hb hx I2 r rz l1 l2 q2
end
section
variable {X : Cx} {k n m i : Nat} {f C : Addr} {fd : FuncData} {ps ks : List Str} {x : Str} {p pos : Pos} {e : Expr} {es : List Expr} {kws : List Keyword} {ts tk : TDA} {tf : TDF} {perm : List Nat}
def dMakeKL (i : Nat) (C : Addr) (n m : Nat) (perm : List Nat) (tf : TDF) (ts tk : TDA) : TDE := fun S Q => S[i]? = some (.val (.raw (.ref C))) ∧ dFnK n m perm tf ts tk S Q
theorem df_makeKL (M : Mk X.K C f) (F : FnOk X.prog X.w X.K X.mg X.base CX0 k f fd ps (spI C n tf)) (hr : Room (k + 1) X.A) (hN : X.N[i]? = some x) (hv : Vis X.env.scope x) (hb : KBp X.K fd ps (m + 1) ks (0 :: perm.map (· + 1))) (ha : PA X (e :: es) (lA ts)) (hkw : PK X kws (lA tk)) (hn : ∀ ds Q, tf ds Q → ds.length = n)
    (hall : (backToKw pos (keywordEach kws X.env)).all (·.1.isSome) = true := by rfl) (hks : (backToKw pos (keywordEach kws X.env)).filterMap (·.1) = ks := by rfl) (hdb : (x == ("__debug__" : Str)) = false := by decide) (hcd : (x == ("__classdict__" : Str)) = false := by decide) (he : starEach (e :: es) X.env = (false, eval e X.env) :: starEach es X.env := by rfl) (hpl : ((backTo pos (starEach (e :: es) X.env)).any (·.1) || (backToKw pos (keywordEach kws X.env)).any (·.1.isNone)) = false := by rfl) :
    PE X (.Call (.Name x p) (e :: es) kws pos) (lF (dMakeKL i C m ks.length perm tf ts tk)) := PE.imp (pe_makeKL (i := i) M F hr hN hv hb pass0 ha hkw hall hks hdb hcd he hpl) fun σ H Q ⟨g, Qd, s, w, kk⟩ => by
  obtain ⟨w0, w⟩ := w
  obtain ⟨v, hv', rv⟩ := s.val i _ w0
  cases rv
  refine ⟨hv', g, _, s, w, fun ds vs H1 w1 x1 s1 r1 => ⟨g, _, s1, w1, fun es zs H2 w2 x2 s2 rz => ?_⟩⟩
  obtain ⟨l1, l2, w2⟩ := w2
  have r1' := r1.ext x2
  have r2 := permL_rpl (r1'.append rz) perm
  refine ⟨by rw [r1'.length]; exact l1, by rw [rz.length]; exact l2, fun y dx hy hdx ne => ?_⟩
  have e1 : permL (0 :: perm.map (· + 1)) ((V.ref y :: vs) ++ zs) = V.ref y :: permL perm (vs ++ zs) := by
    rw [permL_cons, List.cons_append, permL_shift]; rfl
  refine ⟨H2, y, dx, permL perm (vs ++ zs), _, g.z, g.M, Qd, e1, by rw [r2.length]; exact hn _ _ w2, rfl, hy, hdx, ne, s2.amb, r2, w2, fun ns us H' q x b o => ⟨rfl, kk (.ins C ns us) y H' q ((x1.trans x2).trans x) (s2.ext x b) ((x1.trans x2).none_of hy fun h => s2.fresh hy (res_M h.res)) (s2.fresh hy) o⟩⟩
end
end L2.DL


set_option Elab.async false
set_option linter.all false
set_option maxRecDepth 100000
set_option maxHeartbeats 4000000
namespace L2.DL
open PySem PySem.Spec PyProof.Rows
/-! ### list(range(n)) -/
theorem rpL_ints {z : Bz} {M : MS} {H : Hp} {α : Type} (f : α → Int) : ∀ L : List α, RpL z M H (L.map fun i => V.int (f i)) (L.map fun i => D.int (f i))
  | [] => .nil
  | _ :: L => .cons (.int _) (rpL_ints f L)
section
variable {X : Cx} {a : Expr} {ta : TDE} {p p2 pos pos2 : Pos}
def dLRg (ta : TDE) : TDE := fun S Q => ta S fun d => ∃ n : Int, d = .int n ∧ n ≤ 16777216 ∧ -(2 ^ 62) ≤ n ∧ Q (.lst ((List.range n.toNat).map fun i : Nat => .int (0 + (i : Int))))
theorem df_listRange (hm : X.mg "list" = none) (hm2 : X.mg "range" = none) (ha : PE X a (lP ta)) (hc : X.calm = true := by rfl) (hg : Gl X "list" := by rfl) (hg2 : Gl X "range" := by rfl) (na : starEach [a] X.env = (false, eval a X.env) :: starEach [] X.env := by rfl)
    (nb : starEach [(.Call (.Name "range" p2) [a] [] pos2 : Expr)] X.env = (false, eval (.Call (.Name "range" p2) [a] [] pos2) X.env) :: starEach [] X.env := by rfl) :
    PE X (.Call (.Name "list" p) [.Call (.Name "range" p2) [a] [] pos2] [] pos) (lF (dLRg ta)) :=
  PE.imp (pe_listRg hc hg hm (prg_1 hg2 hm2 ha na) nb) fun σ H Q ⟨g, Qd, s, w, kk⟩ => ⟨g, _, s, w, fun d v H1 w1 x1 s1 r1 => by
    obtain ⟨n, rfl, b1, b2, q⟩ := w1
    have := r1.int
    subst this
    refine ⟨n, rfl, ⟨by decide, by decide, by omega, by omega, by omega⟩, fun y hy => kk _ y _ q (x1.trans (.new hy)) (s1.alloc hy) (x1.none_of hy fun h => s1.fresh hy (res_M h.res)) (s1.fresh hy) (.lst upd_same ?_)⟩
    unfold rgV
    rw [Int.sub_zero]
    exact rpL_ints (fun i : Nat => (0 : Int) + i) _⟩
end
end L2.DL


set_option Elab.async false
set_option linter.all false
set_option maxRecDepth 100000
set_option maxHeartbeats 4000000
namespace L2.DL
open PySem PySem.Spec PyProof.Rows
/-! ### defs that may raise: their contracts over data -/
abbrev TDX := List D → (D → Prop) → (XD → Prop) → Prop
def spX (n : Nat) (tf : TDX) : Sp := fun vs H Q E => vs.length = n ∧ ∃ (z : Bz) (M : MS) (ds : List D) (Qd : D → Prop) (Ed : XD → Prop), Amb z M H ∧ RpL z M H vs ds ∧ tf ds Qd Ed ∧ (∀ d v H', Qd d → Ext z H H' → BagOk z H' → Rp z M H' v d → Q v H') ∧ XLink z M H E Ed
def spXF (n : Nat) (tf : TDX) : Sp := fun vs H Q E => vs.length = n ∧ ∃ (z : Bz) (M : MS) (ds : List D) (Qd : D → Prop) (Ed : XD → Prop), Amb z M H ∧ RpL z M H vs ds ∧ tf ds Qd Ed ∧ (∀ d a H', Qd d → Ext z H H' → BagOk z H' → H a = none → ¬ M a → OwF z M H' a d → Q (.ref a) H') ∧ XLink z M H E Ed
def spXI (C : Addr) (n : Nat) (tf : TDX) : Sp := fun vs H Q E => ∃ (H1 : Hp) (x dx : Addr) (us : List V) (ds : List D) (z : Bz) (M : MS) (Qd : D → Prop) (Ed : XD → Prop), vs = .ref x :: us ∧ us.length = n ∧ H = upd (upd H1 dx (.own x)) x (.ins C dx []) ∧ H1 x = none ∧ H1 dx = none ∧ dx ≠ x ∧ Amb z M H1 ∧ RpL z M H1 us ds ∧ tf ds Qd Ed ∧
  (∀ ns vs H', Qd (.ins C ns vs) → Ext z H1 H' → BagOk z H' → OwF z M H' x (.ins C ns vs) → Q .non H') ∧ XLink z M H1 E Ed
def noRaise : XD → Prop := fun _ => False
theorem XLink.no {z : Bz} {M : MS} {H : Hp} : XLink z M H (fun _ _ _ => False) noRaise := fun _ _ _ h => h.elim
section
variable {P : Program} {w : World} {K : PySem.W.Frag} {mg : Str → Option Value} {base : Heap} {k n : Nat} {f C : Addr} {fd : FuncData} {ps : List Str} {tf : TDX}
/-- where nothing is raised -/
theorem FnOk.calmX {sp spc : Sp} (F : FnOk P w K mg base (L2.CX P w) k f fd ps sp) (h : ∀ vs H Q E, spc vs H Q E → sp vs H Q (fun _ _ _ => False)) : FnOk P w K mg base CX0 k f fd ps spc :=
  ⟨fun vs H Q E q => F.len _ _ _ _ (h vs H Q E q), fun A outer s H args us vs Q E hr he hb hv hs => codeAny_mono (F.run A outer s H args us vs Q _ hr he hb hv (h vs H Q E hs)) fun r s' q => by
    cases r with
    | ok fl => cases fl <;> exact q
    | error e =>
      obtain ⟨_, _, _, _, _, _, _, _, _, _, _, _, z⟩ := (show L2.CX P w outer H s _ e s' from q)
      exact z.elim⟩
theorem FnOk.noX (F : FnOk P w K mg base (L2.CX P w) k f fd ps (spX n tf)) : FnOk P w K mg base CX0 k f fd ps (spE n fun ds Q => tf ds Q noRaise) :=
  FnOk.calmX F fun vs H Q E ⟨hl, z, M, ds, Qd, Am, r, t, q⟩ => ⟨hl, z, M, ds, Qd, _, Am, r, t, q, XLink.no⟩
theorem FnOk.noXF (F : FnOk P w K mg base (L2.CX P w) k f fd ps (spXF n tf)) : FnOk P w K mg base CX0 k f fd ps (spF n fun ds Q => tf ds Q noRaise) :=
  FnOk.calmX F fun vs H Q E ⟨hl, z, M, ds, Qd, Am, r, t, q⟩ => ⟨hl, z, M, ds, Qd, _, Am, r, t, q, XLink.no⟩
theorem FnOk.noXI (F : FnOk P w K mg base (L2.CX P w) k f fd ps (spXI C n tf)) : FnOk P w K mg base CX0 k f fd ps (spI C n fun ds Q => tf ds Q noRaise) :=
  FnOk.calmX F fun vs H Q E ⟨H1, x, dx, us, ds, z, M, Qd, e, hl, eH, hx, hdx, ne, Am, r, t, q⟩ => ⟨H1, x, dx, us, ds, z, M, Qd, _, e, hl, eH, hx, hdx, ne, Am, r, t, q, XLink.no⟩
end
/-! ### the body of such a def -/
theorem Stt.setEx {g : Gh} {σ : St} {H : Hp} {i : Nat} {E : XK} {Ed : XD → Prop} (s : Stt g σ H) (l : XLink g.z g.XM g.X0 E Ed) : Stt { g with S := g.S.set i (.ex E Ed) } σ H where
  len := by simpa using s.len
  val := fun j d e => by
    have e' : (g.S.set i (.ex E Ed))[j]? = some (.val d) := e
    rw [List.getElem?_set] at e'
    by_cases hij : i = j
    · subst hij
      rw [if_pos rfl] at e'
      split at e' <;> cases e'
    · rw [if_neg hij] at e'
      exact s.val j d e'
  own := fun j d e => by
    have e' : (g.S.set i (.ex E Ed))[j]? = some (.own d) := e
    rw [List.getElem?_set] at e'
    by_cases hij : i = j
    · subst hij
      rw [if_pos rfl] at e'
      split at e' <;> cases e'
    · rw [if_neg hij] at e'
      exact s.own j d e'
  inj := s.inj
  new := s.new
  alive := s.alive
  keep := s.keep
  bag := s.bag
  ex := ⟨s.ex.e0, s.ex.em, s.ex.ea, fun j E' Ed' e => by
    have e' : (g.S.set i (.ex E Ed))[j]? = some (.ex E' Ed') := e
    rw [List.getElem?_set] at e'
    by_cases hij : i = j
    · subst hij
      rw [if_pos rfl] at e'
      split at e' <;> cases e'
      exact l
    · rw [if_neg hij] at e'
      exact s.ex.el j E' Ed' e', fun j p e => s.ex.ez j p (zz_set e fun _ q => by cases q), s.ex.en⟩
theorem set_last {n m : Nat} {ds : List D} {x : Sl} (h : ds.length = n) : (ds.map Sl.val ++ List.replicate (m + 1) Sl.no).set (n + m) x = ds.map Sl.val ++ (List.replicate m Sl.no ++ [x]) := by
  subst h
  rw [List.set_append_right _ _ (by simp)]
  simp only [List.length_map, Nat.add_sub_cancel_left, List.append_cancel_left_eq]
  induction m with
  | zero => rfl
  | succ m ih => rw [List.replicate_succ, List.set_cons_succ, ih, List.replicate_succ]; rfl
theorem ok_X {P : Program} {w : World} {K : PySem.W.Frag} {mg : Str → Option Value} {base : Heap} {x qual : Str} {st : Stmt} {f : Addr} {fd : FuncData} {N ps : List Str} {k n m : Nat} {tf : TDX} {dfv : List V} {kwv : List (Str × V)} (F : FunD K x qual (defArgs st) (defBody st) (defScope st) dfv kwv f fd) (S : FnScope N ps (defScope st)) (hn : ps.length = n := by rfl) (hN : N.length = n + (m + 1) := by rfl)
    (hb : ∀ (cdv : Value) (A : Around) (outer : List Env) (s : Shared) (H : Hp) (E : XK), Room k (A.deeper (envOfC qual (defScope st) s.heap.objs.size f cdv)) → ∃ t : TDS, PSs (cxOf (L2.CX P w) P w K mg base N qual (defScope st) f cdv A outer s H E) (defBody st) (lS t) ∧
      ∀ ds Qd Ed, ds.length = n → tf ds Qd Ed → t { nx := fun _ => Qd .non, rt := Qd, rf := Qd } (ds.map .val ++ (List.replicate m Sl.no ++ [.ex E Ed]))) : FnOk P w K mg base (L2.CX P w) (k + 1) f fd ps (spX n tf) := by
  refine F.ok S (fun vs H Q E h => ?_) (fun cdv A outer s H vs Q E hr h => ?_)
  · rw [hn]; exact h.1
  · obtain ⟨hl, z, M, ds, Qd, Ed, Am, r, t, k, lk⟩ := h
    obtain ⟨tt, hp, hw⟩ := hb cdv A outer s H E hr
    have hM : Mo M z (fun _ => none) = M := mo_none Am.res
    have hd : ds.length = n := by rw [← r.length]; exact hl
    have s0 := (stt0 (N := N) Am r).setEx (i := n + m) (E := E) (Ed := Ed) lk
    refine ⟨_, hp, _, { nx := fun _ => Qd .non, rt := Qd, rf := Qd }, s0, ?_, ?_⟩
    · have := hw ds Qd Ed hd t
      show tt _ ((ds.map Sl.val ++ List.replicate (N.length - ds.length) Sl.no).set (n + m) (.ex E Ed))
      rw [hN, hd, Nat.add_sub_cancel_left, set_last hd]
      exact this
    · refine ⟨fun ow S σ H' s' q => k .non .non H' q s'.keep s'.bag .non, fun _ _ _ _ _ q => q.elim, fun _ _ _ _ _ q => q.elim, fun d v H' q x b rp => k d v H' q x b ?_, fun d a H' q x b hn nm o => k d (.ref a) H' q x b ?_⟩
      · have rp' : Rp z (Mo M z fun _ => none) H' v d := rp
        rw [hM] at rp'; exact rp'
      · have o' : OwF z (Mo M z fun _ => none) H' a d := o
        have nm' : ¬ Mo M z (fun _ => none) a := nm
        rw [hM] at o' nm'
        exact o'.rp (Tr.of fun b u nb e => ⟨e, fun q => nb (.inl q)⟩) nm'
theorem ok_XF {P : Program} {w : World} {K : PySem.W.Frag} {mg : Str → Option Value} {base : Heap} {x qual : Str} {st : Stmt} {f : Addr} {fd : FuncData} {N ps : List Str} {k n m : Nat} {tf : TDX} {dfv : List V} {kwv : List (Str × V)} (F : FunD K x qual (defArgs st) (defBody st) (defScope st) dfv kwv f fd) (S : FnScope N ps (defScope st)) (hn : ps.length = n := by rfl) (hN : N.length = n + (m + 1) := by rfl)
    (hb : ∀ (cdv : Value) (A : Around) (outer : List Env) (s : Shared) (H : Hp) (E : XK), Room k (A.deeper (envOfC qual (defScope st) s.heap.objs.size f cdv)) → ∃ t : TDS, PSs (cxOf (L2.CX P w) P w K mg base N qual (defScope st) f cdv A outer s H E) (defBody st) (lS t) ∧
      ∀ ds Qd Ed, ds.length = n → tf ds Qd Ed → t { nx := fun _ => False, rt := fun _ => False, rf := Qd } (ds.map .val ++ (List.replicate m Sl.no ++ [.ex E Ed]))) : FnOk P w K mg base (L2.CX P w) (k + 1) f fd ps (spXF n tf) := by
  refine F.ok S (fun vs H Q E h => ?_) (fun cdv A outer s H vs Q E hr h => ?_)
  · rw [hn]; exact h.1
  · obtain ⟨hl, z, M, ds, Qd, Ed, Am, r, t, k, lk⟩ := h
    obtain ⟨tt, hp, hw⟩ := hb cdv A outer s H E hr
    have hM : Mo M z (fun _ => none) = M := mo_none Am.res
    have hd : ds.length = n := by rw [← r.length]; exact hl
    have s0 := (stt0 (N := N) Am r).setEx (i := n + m) (E := E) (Ed := Ed) lk
    refine ⟨_, hp, _, { nx := fun _ => False, rt := fun _ => False, rf := Qd }, s0, ?_, ?_⟩
    · have := hw ds Qd Ed hd t
      show tt _ ((ds.map Sl.val ++ List.replicate (N.length - ds.length) Sl.no).set (n + m) (.ex E Ed))
      rw [hN, hd, Nat.add_sub_cancel_left, set_last hd]
      exact this
    · refine ⟨fun ow S σ H' s' q => q.elim, fun _ _ _ _ _ q => q.elim, fun _ _ _ _ _ q => q.elim, fun d v H' q => q.elim, fun d a H' q x b hn nm o => k d a H' q x b hn ?_ ?_⟩
      · have nm' : ¬ Mo M z (fun _ => none) a := nm
        rw [hM] at nm'; exact nm'
      · have o' : OwF z (Mo M z fun _ => none) H' a d := o
        rw [hM] at o'; exact o'
/-! ### what is raised by a callee goes on -/
theorem Stt.raised {g : Gh} {σ : St} {H H' : Hp} {j : Nat} {E : XK} {Ed : XD → Prop} {x : XD} {d : Addr} (s : Stt g σ H) (e : g.S[j]? = some (.ex E Ed)) (q : Ed x) (xt : Ext g.z H H') (b : BagOk g.z H') (r : XRp g.z g.M H' d x) : E (.ref x.C) (some d) H' := by
  obtain ⟨fs, e1, e2, l⟩ := r
  refine s.ex.el j E Ed e x d H' q ((s.ex.e0.trans s.keep).trans xt) b ⟨fs, e1, e2, l.tr (Tr.of fun a o n h => ⟨h, fun m => n ?_⟩)⟩
  rcases m with m | m | ⟨i, m⟩
  · exact .inl (s.ex.em a m)
  · exact .inr (.inl m)
  · cases m
theorem Stt.link {g : Gh} {σ : St} {H : Hp} {j : Nat} {E : XK} {Ed : XD → Prop} (s : Stt g σ H) (e : g.S[j]? = some (.ex E Ed)) : XLink g.z g.M H E Ed := fun x d H' q xt b r => s.raised e q xt b (by
  have h : Mo g.M g.z (fun _ => none) = g.M := mo_none fun _ h => res_M h
  rwa [h] at r)
section
variable {X : Cx} {e o : Expr} {es : List Expr} {x m : Str} {p pos apos : Pos} {ts : TDA} {to : TDE} {k n j : Nat} {f C : Addr} {fd : FuncData} {ps : List Str} {dvs : List V} {dds : List D} {tf : TDX} {E : XK}
def dFnX (j : Nat) (E : XK) (tf : TDX) (dds : List D) (ts : TDA) : TDE := fun S Q => ts S fun ds => ∃ Ed, S[j]? = some (.ex E Ed) ∧ tf (ds ++ dds) Q Ed
theorem de_fnX (F : FnOk X.prog X.w X.K X.mg X.base (L2.CX X.prog X.w) k f fd ps (spX n tf)) (hr : Room k X.A) (hm : X.mg x = some (.ref f)) (hk : PySem.W.keepIn X.K (.ref f) = true) (hb : ∃ dsv, Vals dvs dsv ∧ Binds X.K fd ps dsv) (hdd : ∀ z M H, RpL z M H dvs dds) (hx : Passes (L2.CX X.prog X.w) X E) (ha : PA X (e :: es) (lA ts)) (hn : ∀ ds Q Ed, tf ds Q Ed → ds.length = n) (hg : Gl X x := by rfl)
    (hdb : (x == ("__debug__" : Str)) = false := by decide) (he : starEach (e :: es) X.env = (false, eval e X.env) :: starEach es X.env := by rfl) (hpl : (backTo pos (starEach es X.env)).any (·.1) = false := by rfl) : PE X (.Call (.Name x p) (e :: es) [] pos) (lE (dFnX j E tf dds ts)) := by
  obtain ⟨dsv, hd, hb⟩ := hb
  exact PE.imp (pe_call F hr hg hm hk hb hd hx ha hdb he hpl) fun σ H Q ⟨g, Qd, s, w, kk⟩ =>
    ⟨g, _, s, w, fun ds vs H1 w1 x1 s1 r1 => by
      obtain ⟨Ed, ej, w1⟩ := w1
      have r2 := r1.append (hdd g.z g.M H1)
      exact ⟨by rw [r2.length]; exact hn _ _ _ w1, g.z, g.M, _, Qd, Ed, s1.amb, r2, w1, fun d v H' q x b rp => kk d v H' q (x1.trans x) (s1.ext x b) rp, s1.link ej⟩⟩
theorem df_fnX (F : FnOk X.prog X.w X.K X.mg X.base (L2.CX X.prog X.w) k f fd ps (spXF n tf)) (hr : Room k X.A) (hm : X.mg x = some (.ref f)) (hk : PySem.W.keepIn X.K (.ref f) = true) (hb : ∃ dsv, Vals dvs dsv ∧ Binds X.K fd ps dsv) (hdd : ∀ z M H, RpL z M H dvs dds) (hx : Passes (L2.CX X.prog X.w) X E) (ha : PA X (e :: es) (lA ts)) (hn : ∀ ds Q Ed, tf ds Q Ed → ds.length = n) (hg : Gl X x := by rfl)
    (hdb : (x == ("__debug__" : Str)) = false := by decide) (he : starEach (e :: es) X.env = (false, eval e X.env) :: starEach es X.env := by rfl) (hpl : (backTo pos (starEach es X.env)).any (·.1) = false := by rfl) : PE X (.Call (.Name x p) (e :: es) [] pos) (lF (dFnX j E tf dds ts)) := by
  obtain ⟨dsv, hd, hb⟩ := hb
  exact PE.imp (pe_call F hr hg hm hk hb hd hx ha hdb he hpl) fun σ H Q ⟨g, Qd, s, w, kk⟩ =>
    ⟨g, _, s, w, fun ds vs H1 w1 x1 s1 r1 => by
      obtain ⟨Ed, ej, w1⟩ := w1
      have r2 := r1.append (hdd g.z g.M H1)
      exact ⟨by rw [r2.length]; exact hn _ _ _ w1, g.z, g.M, _, Qd, Ed, s1.amb, r2, w1, fun d a H' q x b hn nm ow => kk d a H' q (x1.trans x) (s1.ext x b) (x1.none_of hn fun h => nm (res_M h.res)) nm ow, s1.link ej⟩⟩
def dMethX (j : Nat) (E : XK) (C : Addr) (m : Str) (tf : TDX) (dds : List D) (to : TDE) (ts : TDA) : TDE := fun S Q => to S fun d => ∃ ns vs, d = .ins C ns vs ∧ m ∉ ns ∧ ts S fun ds => ∃ Ed, S[j]? = some (.ex E Ed) ∧ tf (d :: (ds ++ dds)) Q Ed
theorem de_methX (ho : PE X o (lE to)) (hc : Cls X.K C) (hm : Meth X.K C m f) (F : FnOk X.prog X.w X.K X.mg X.base (L2.CX X.prog X.w) k f fd ps (spX n tf)) (hr : Room k X.A) (hb : ∃ dsv, Vals dvs dsv ∧ Binds X.K fd ps dsv) (hdd : ∀ z M H, RpL z M H dvs dds) (hx : Passes (L2.CX X.prog X.w) X E) (ha : PA X (e :: es) (lA ts)) (hn : ∀ ds Q Ed, tf ds Q Ed → ds.length = n) {pl : Sem Bool}
    (he : starEach (e :: es) X.env = (false, eval e X.env) :: starEach es X.env := by rfl) (hpl : (backTo pos (starEach es X.env)).any (·.1) = false := by rfl)
    (hev : eval (.Call (.Attribute o m apos) (e :: es) [] pos) X.env = (do let ov ← eval o X.env; standAt apos.atName; let fs ← holding [ov] (getMethod ov m pl); callWith pos fs.1 fs.2 (backTo pos (starEach (e :: es) X.env)) (backToKw pos (keywordEach [] X.env))) := by rfl) :
    PE X (.Call (.Attribute o m apos) (e :: es) [] pos) (lE (dMethX j E C m tf dds to ts)) := by
  obtain ⟨dsv, hd, hb⟩ := hb
  exact PE.imp (pe_meth ho hc hm F hr hb hd hx ha he hpl hev) fun σ H Q ⟨g, Qd, s, w, kk⟩ =>
    ⟨g, _, s, w, fun d v H1 w1 x1 s1 r1 => by
      obtain ⟨ns, vs, rfl, hmn, w1⟩ := w1
      obtain ⟨a, dx, fs, rfl, h, _, hno⟩ := Pk.ins (.inl r1)
      refine ⟨a, dx, fs, rfl, h, hno m hmn, g, _, s1, w1, fun ds us H2 w2 x2 s2 r2 => ?_⟩
      obtain ⟨Ed, ej, w2⟩ := w2
      have r3 : RpL g.z g.M H2 (.ref a :: (us ++ dvs)) (.ins C ns vs :: (ds ++ dds)) := .cons (r1.ext x2) (r2.append (hdd g.z g.M H2))
      exact ⟨by rw [r3.length]; exact hn _ _ _ w2, g.z, g.M, _, Qd, Ed, s2.amb, r3, w2, fun d v H' q x b rp => kk d v H' q ((x1.trans x2).trans x) (s2.ext x b) rp, s2.link ej⟩⟩
end
end L2.DL


set_option Elab.async false
set_option linter.all false
set_option maxRecDepth 100000
set_option maxHeartbeats 4000000
namespace L2.DL
open PySem PySem.Spec PyProof.Rows
/-! ### B.m(..), B a class and m a plain def of it -/
section
variable {X : Cx} {CX : CXT} {pins : List (Addr × Obj)} {σ : St} {H : Hp} {s : Shared} {A : Around} {C g : Addr} {mc : Value} {m : Str} {k : Nat} {fd : FuncData} {ps : List Str} {sp : Sp} {dvs : List V} {ds : List Value} {E : XK} {o e : Expr} {es : List Expr} {ta : TE} {t : TA} {pos apos : Pos} {pl : Sem Bool}
theorem getmethu_ok {Q : Value × List Value → Shared → Prop} (I : Inv X pins σ H s) (r : ClX.CRead X.K C mc) (c : ClX.CVal X.K C mc m (.ref g) (.ref g)) {E : Value → Shared → Prop}
    (h : ∀ s', Inv X pins σ H s' → Q (.ref g, []) s') : wpAny (model X.prog X.w) A (getMethod (.ref C) m pl) Q E s :=
  PySem.W.method_cls I.kIn r.ga (ClX.getcval_ok I r c h)
theorem pe_umeth (he : PE X o ta) (r : ClX.CRead X.K C mc) (c : ClX.CVal X.K C mc m (.ref g) (.ref g)) (F : FnOk X.prog X.w X.K X.mg X.base CX k g fd ps sp) (hr : Room k X.A) (hk : PySem.W.keepIn X.K (.ref g) = true) (hb : Binds X.K fd ps ds) (hd : Vals dvs ds) (hx : Passes CX X E) (ha : PA X (e :: es) t)
    (hst : starEach (e :: es) X.env = (false, eval e X.env) :: starEach es X.env := by rfl) (hpl : (backTo pos (starEach es X.env)).any (·.1) = false := by rfl)
    (ht : eval (.Call (.Attribute o m apos) (e :: es) [] pos) X.env = (do
      let ov ← eval o X.env
      standAt apos.atName
      let (f, first) ← holding [ov] (getMethod ov m pl)
      callWith pos f first (backTo pos (starEach (e :: es) X.env)) (backToKw pos (keywordEach [] X.env))) := by rfl) :
    PE X (.Call (.Attribute o m apos) (e :: es) [] pos) (fun σ H Q => ta σ H fun x H1 => x = .ref C ∧ t σ H1 fun vs H2 => sp (vs ++ dvs) H2 Q E) := by
  refine ⟨fun pins s σ H Q I h => ?_⟩
  refine PySem.W.methodCall_KW (pl := pl) (thn (he.run pins s σ H _ I h) fun u s1 ⟨x, H1, I1, rx, ex, q⟩ => ?_) ht
  subst ex
  obtain rfl : u = Value.ref C := rx
  refine getmethu_ok I1 r c fun s2 I2 => ?_
  refine PySem.W.callWith_K (h₀ := X.base) I2.ok.mod.kin hk (thn (ha.run pos pins s2 σ H1 _ I2 q) fun us s3 ⟨vs, H2, I3, rv, q2⟩ => ⟨I3.kIn, ?_⟩) hst hpl
  exact run_fn F hr hb hd hx I3 rv q2
end
/-! ### exceptions made by own classes over ValueError -/
theorem upd_swap {H : Hp} {d a : Addr} {o1 o2 o3 : HO} (h : d ≠ a) : upd (upd (upd H d o1) a o2) d o3 = upd (upd H d o3) a o2 := by
  funext b
  by_cases h1 : b = d
  · subst h1
    rw [upd_same, upd_ne h, upd_same]
  · rw [upd_ne h1]
    by_cases h2 : b = a
    · subst h2
      rw [upd_same, upd_same]
    · rw [upd_ne h2, upd_ne h1, upd_ne h2, upd_ne h1]
def ErrN (K : PySem.W.Frag) (C : Addr) (names : List Str) : Prop := OexC K C ∧ PySem.W.findIn K (.ref C) "code" = some none ∧ ∀ f ∈ names, PySem.W.findIn K (.ref C) f = some none
/-- what an exception's __init__ leaves: its fields, the last one first -/
def flE (names : List Str) (code : V) (us : List V) : List (Str × V) := (names.zip us).reverse ++ [(("code" : Str), code)]
def spEI (K : PySem.W.Frag) (names : List Str) (code : V) : Sp := fun vs H Q _ => ∃ (a C : Addr) (us : List V), vs = .ref a :: us ∧ us.length = names.length ∧ names.length ≤ 800 ∧ ErrN K C names ∧ H a = some (exo a C none) ∧
  ∀ dx, H dx = none → dx ≠ a → Q .non (upd (upd H dx (exd dx (flE names code us))) a (exo a C (some dx)))
/-- the base's: self, code -/
def spE0 (K : PySem.W.Frag) : Sp := fun vs H Q _ => ∃ (a C : Addr) (v : V), vs = [.ref a, v] ∧ OexC K C ∧ PySem.W.findIn K (.ref C) "code" = some none ∧ H a = some (exo a C none) ∧
  ∀ dx, H dx = none → dx ≠ a → Q .non (upd (upd H dx (exd dx [("code", v)])) a (exo a C (some dx)))
theorem e0_read {K : PySem.W.Frag} {a C : Addr} {v : V} {H : Hp} {D : Ends} {st : St} (h0 : st[0]? = some (some (.ref a))) (h1 : st[1]? = some (some v)) (T : OexC K C) (hno : PySem.W.findIn K (.ref C) "code" = some none) (ea : H a = some (exo a C none))
    (q : ∀ dx, H dx = none → dx ≠ a → D.nx st (upd (upd H dx (exd dx [("code", v)])) a (exo a C (some dx)))) :
    tSeq (tDrop (tVeI K (tCons (tVar 0) (tCons (tVar 1) tNil)))) (tSeq (tOst K "code" (tVar 0) (tVar 1)) tNext) D st H :=
  ⟨_, h0, _, h1, a, C, [v], rfl, by show 1 ≤ 1000; decide, T, ea, _, h1, _, h0, a, C, rfl, T, hno, .inl ⟨ea, q⟩⟩
/-- self.f = .., one by one -/
def tOstL (K : PySem.W.Frag) : List (Str × Nat) → TS
  | [] => tNext
  | (f, i) :: r => tSeq (tOst K f (tVar 0) (tVar i)) (tOstL K r)
theorem ost_list {K : PySem.W.Frag} {a C dx : Addr} {H : Hp} {D : Ends} {st : St} (h0 : st[0]? = some (some (.ref a))) (T : OexC K C) (ne : dx ≠ a) : ∀ (fs : List (Str × Nat)) (vs : List V) (acc : List (Str × V)), vs.length = fs.length → acc.length + fs.length ≤ 900 →
    (∀ (j : Nat) (f : Str) (i : Nat) (v : V), fs[j]? = some (f, i) → vs[j]? = some v → st[i]? = some (some v)) → (∀ p ∈ fs, PySem.W.findIn K (.ref C) p.1 = some none) →
    D.nx st (upd (upd H dx (exd dx (((fs.map (·.1)).zip vs).reverse ++ acc))) a (exo a C (some dx))) → tOstL K fs D st (upd (upd H dx (exd dx acc)) a (exo a C (some dx)))
  | [], [], acc, _, _, _, _, q => by simpa [tOstL, tNext] using q
  | [], _ :: _, _, h, _, _, _, _ => by simp at h
  | _ :: _, [], _, h, _, _, _, _ => by simp at h
  | (f, i) :: fs, v :: vs, acc, h, hl, hv, hno, q => by
    have h1 := hv 0 f i v rfl rfl
    refine ⟨_, h1, _, h0, a, C, rfl, T, hno (f, i) (by simp), .inr ⟨dx, acc, upd_same, by rw [upd_ne ne, upd_same], by simp at hl; omega, ?_⟩⟩
    rw [upd_swap ne]
    refine ost_list h0 T ne fs vs ((f, v) :: acc) (by simpa using h) (by simp at hl ⊢; omega) (fun j f' i' v' e1 e2 => hv (j + 1) f' i' v' (by simpa using e1) (by simpa using e2)) (fun p hp => hno p (by simp [hp])) ?_
    simpa using q
theorem e_read {K : PySem.W.Frag} {a B C : Addr} {code : Str} {H : Hp} {D : Ends} {st : St} {fs : List (Str × Nat)} {vs : List V} (h0 : st[0]? = some (some (.ref a))) (T : ErrN K C (fs.map (·.1))) (ea : H a = some (exo a C none)) (hl : vs.length = fs.length) (hz : fs.length ≤ 800)
    (hv : ∀ (j : Nat) (f : Str) (i : Nat) (v : V), fs[j]? = some (f, i) → vs[j]? = some v → st[i]? = some (some v))
    (q : ∀ dx, H dx = none → dx ≠ a → D.nx st (upd (upd H dx (exd dx (flE (fs.map (·.1)) (.str code) vs))) a (exo a C (some dx)))) :
    tSeq (tDrop (fun σ H Q => tC (.ref B) σ H fun x H1 => x = .ref B ∧ tCons (tVar 0) (tCons (tC (.str code)) tNil) σ H1 fun vs H2 => spE0 K (vs ++ []) H2 Q E0)) (tOstL K fs) D st H := by
  refine ⟨rfl, _, h0, a, C, .str code, rfl, T.1, T.2.1, ea, fun dx n ne => ?_⟩
  exact ost_list h0 T.1 ne fs vs [("code", .str code)] hl (by simp; omega) hv (fun p hp => T.2.2 p.1 (List.mem_map_of_mem hp)) (q dx n ne)
/-! ### raise C(..) -/
section
variable {X : Cx} {e : Expr} {es : List Expr} {x : Str} {p pos pos' : Pos} {ts : TDA} {k j : Nat} {fI C : Addr} {fd : FuncData} {ps : List Str} {E : XK} {names : List Str} {code : List Nat}
def xdE (C : Addr) (names : List Str) (code : List Nat) (ds : List D) : XD := ⟨C, names.reverse ++ [("code" : Str)], ds.reverse ++ [.str code]⟩
def dsRaise (j : Nat) (E : XK) (C : Addr) (names : List Str) (code : List Nat) (ts : TDA) : TDS := fun De S => ts S fun ds => ds.length = names.length ∧ ∃ Ed, S[j]? = some (.ex E Ed) ∧ Ed (xdE C names code ds)
theorem zip_map1 {α β : Type} : ∀ {as : List α} {bs : List β}, bs.length = as.length → (as.zip bs).map (·.1) = as
  | [], [], _ => rfl
  | [], _ :: _, h => by simp at h
  | _ :: _, [], h => by simp at h
  | a :: as, b :: bs, h => by rw [List.zip_cons_cons, List.map_cons, zip_map1 (by simpa using h)]
theorem zip_map2 {α β : Type} : ∀ {as : List α} {bs : List β}, bs.length = as.length → (as.zip bs).map (·.2) = bs
  | [], [], _ => rfl
  | [], _ :: _, h => by simp at h
  | _ :: _, [], h => by simp at h
  | a :: as, b :: bs, h => by rw [List.zip_cons_cons, List.map_cons, zip_map2 (by simpa using h)]
/-- an exception with its dict at d -/
theorem xrp_new {z : Bz} {M : MS} {H : Hp} {d : Addr} {vs : List V} {ds : List D} {C : Addr} (hl : vs.length = names.length) (r : RpL z M H vs ds) (hd : H d = none) : XRp z M (upd H d (.xd (flE names (.str (S2 code)) vs))) d (xdE C names code ds) := by
  refine ⟨_, upd_same, ?_, ?_⟩
  · unfold flE xdE
    rw [List.map_append, List.map_reverse, zip_map1 hl]
    rfl
  · unfold flE xdE
    rw [List.map_append, List.map_reverse, zip_map2 hl]
    have r2 : RpL z M (upd H d (.xd ((names.zip vs).reverse ++ [(("code" : Str), V.str (S2 code))]))) vs ds := r.tr (Tr.of fun a o n e => ⟨by rw [upd_ne (ne_of_none e hd)]; exact e, n⟩)
    exact r2.reverse.append (.one (.str code))
theorem ds_raise (T : OexC X.K C) (iC : PySem.W.findIn X.K (.ref C) "__init__" = some (some (.ref fI))) (tI : PySem.W.typeIn X.K (.ref fI) = some (.type "function")) (F1 : FnOk X.prog X.w X.K X.mg X.base CX0 k fI fd ps (spEI X.K names (.str (S2 code)))) (hE : ErrN X.K C names) (hz : names.length ≤ 800)
    (hr : Room (k + 1) X.A) (hb : Binds X.K fd ps []) (hm : X.mg x = some (.ref C)) (tk : Takes X fun cls d _ H => E cls d H) (ha : PA X (e :: es) (lA ts)) (hc : X.calm = true := by rfl) (hg : Gl X x := by rfl)
    (hdb : (x == ("__debug__" : Str)) = false := by decide) (he : starEach (e :: es) X.env = (false, eval e X.env) :: starEach es X.env := by rfl) (hpl : (backTo pos (starEach es X.env)).any (·.1) = false := by rfl) :
    PS X (.Raise (some (.Call (.Name x p) (e :: es) [] pos)) none pos') (lS (dsRaise j E C names code ts)) :=
  PS.imp (ps_raise hc tk (pmk_oex T iC tI F1 hr hb .nil (fun _ _ _ _ _ _ _ z => z.elim) hg hm ha hdb he hpl)) fun D σ H ⟨g, De, s, w, l⟩ => by
    refine ⟨g, _, s, w, fun ds vs H1 w1 x1 s1 r1 => ?_⟩
    obtain ⟨hl, Ed, ej, q⟩ := w1
    have hlv : vs.length = names.length := by rw [r1.length]; exact hl
    refine ⟨by omega, fun a ha => ⟨a, C, vs, by rw [List.append_nil], hlv, hz, hE, upd_same, fun dx hdx nex => ⟨rfl, dx, _, upd_same, by rw [upd_ne nex, upd_same], ?_, ?_⟩⟩⟩
    · rw [upd_ne nex] at hdx
      exact hdx
    · rw [upd_ne nex] at hdx
      have eH : upd (del (upd (upd (upd H1 a (exo a C none)) dx (exd dx (flE names (.str (S2 code)) vs))) a (exo a C (some dx))) a) dx (.xd (flE names (.str (S2 code)) vs)) = upd H1 dx (.xd (flE names (.str (S2 code)) vs)) := by
        funext b
        by_cases h1 : b = dx
        · subst h1
          rw [upd_same, upd_same]
        · rw [upd_ne h1, upd_ne h1]
          by_cases h2 : b = a
          · subst h2
            rw [del_same, ha]
          · rw [del_ne h2, upd_ne h2, upd_ne h1, upd_ne h2]
      rw [eH]
      exact s1.raised (x := xdE C names code ds) ej q (.new hdx) (s1.bag.new hdx) (xrp_new hlv r1 hdx)
end
end L2.DL


set_option Elab.async false
set_option linter.all false
set_option maxRecDepth 100000
set_option maxHeartbeats 4000000
namespace L2.DL
open PySem PySem.Spec PyProof.Rows
/-! ### an __init__ that may raise -/
theorem ok_XI {P : Program} {w : World} {K : PySem.W.Frag} {mg : Str → Option Value} {base : Heap} {x qual : Str} {st : Stmt} {f C : Addr} {fd : FuncData} {N ps : List Str} {k n m : Nat} {tf : TDX} {dfv : List V} {kwv : List (Str × V)} (F : FunD K x qual (defArgs st) (defBody st) (defScope st) dfv kwv f fd) (S : FnScope N ps (defScope st)) (hn : ps.length = n + 1 := by rfl) (hN : N.length = (n + 1) + (m + 1) := by rfl)
    (hb : ∀ (cdv : Value) (A : Around) (outer : List Env) (s : Shared) (H : Hp) (E : XK), Room k (A.deeper (envOfC qual (defScope st) s.heap.objs.size f cdv)) → ∃ t : TDS, PSs (cxOf (L2.CX P w) P w K mg base N qual (defScope st) f cdv A outer s H E) (defBody st) (lS t) ∧
      ∀ ds Qd Ed y, ds.length = n → tf ds Qd Ed → t { nx := fun S => ∃ ns vs, S[0]? = some (.own (.ins C ("" :: ns) (.raw (.ref y) :: vs))) ∧ ("" : Str) ∉ ns ∧ Qd (.ins C ns vs), rt := fun _ => False, rf := fun _ => False } (.own (.ins C [""] [.raw (.ref y)]) :: (ds.map .val ++ (List.replicate m Sl.no ++ [.ex E Ed])))) : FnOk P w K mg base (L2.CX P w) (k + 1) f fd ps (spXI C n tf) := by
  refine F.ok S (fun vs H Q E h => ?_) (fun cdv A outer s H vs Q E hr h => ?_)
  · obtain ⟨H1, x, dx, us, ds, z, M, Qd, Ed, rfl, hl, _⟩ := h
    rw [hn]; simp [hl]
  · obtain ⟨H1, y, dx, us, ds, z, M, Qd, Ed, rfl, hl, rfl, hy, hdx, ne, Am, r, t, k, lk⟩ := h
    obtain ⟨tt, hp, hw⟩ := hb cdv A outer s _ E hr
    have hM : Mo M z (fun _ => none) = M := mo_none Am.res
    have hd : ds.length = n := by rw [← r.length]; exact hl
    subst hd
    have s0 : Stt (gh0 z M H1 N (.non :: ds)) (start N (.non :: us)) H1 := stt0 Am (.cons .non r)
    have s0' := s0.setEx (i := (ds.length + 1) + m) (E := E) (Ed := Ed) lk
    have hgM : (gh0 z M H1 N (.non :: ds)).M = M := hM
    have nM : ¬ M y := fun h => (Am.alive y h).ne hy
    have x1 : Ext z H1 (upd (upd H1 dx (.own y)) y (.ins C dx [])) := fun b o e _ => by rw [upd_ne (ne_of_none e hy), upd_ne (ne_of_none e hdx)]; exact e
    have b1 : BagOk z (upd (upd H1 dx (.own y)) y (.ins C dx [])) := Am.bag.grow fun b o e => by rw [upd_ne (ne_of_none e hy), upd_ne (ne_of_none e hdx)]; exact e
    have s1 := s0'.setOwn (i := 0) (d := .ins C [""] [.raw (.ref y)]) (a := y) x1 b1 hy (by
      show ¬ (gh0 z M H1 N (.non :: ds)).M y
      rw [hgM]; exact nM) (.slf upd_same .nil)
    refine ⟨_, hp, _, { nx := fun S => ∃ ns vs, S[0]? = some (.own (.ins C ("" :: ns) (.raw (.ref y) :: vs))) ∧ ("" : Str) ∉ ns ∧ Qd (.ins C ns vs), rt := fun _ => False, rf := fun _ => False }, s1, ?_, ?_⟩
    rotate_left
    · refine ⟨fun ow S σ H' s' q => ?_, fun _ _ _ _ _ q => q.elim, fun _ _ _ _ _ q => q.elim, fun d v H' q => q.elim, fun d a H' q => q.elim⟩
      obtain ⟨ns, vs, e1, nn, q⟩ := q
      obtain ⟨a, ea, eo, o1⟩ := s'.own 0 _ e1
      obtain ⟨dx', fs, rfl, h1, rfl, l1⟩ := ow_slf o1
      refine k _ _ H' q s'.keep s'.bag (.ins h1 nn (l1.tr (Tr.of fun b u nb e => ⟨e, fun h => ?_⟩)))
      rcases h with h | h
      · exact nb (.inl h)
      · exact nb (.inr (.inr ⟨0, by rw [h]; exact eo⟩))
    · have := hw ds Qd Ed y rfl t
      show tt _ ((((D.non :: ds).map Sl.val ++ List.replicate (N.length - (D.non :: ds).length) Sl.no).set ((ds.length + 1) + m) (.ex E Ed)).set 0 (.own (.ins C [""] [.raw (.ref y)])))
      rw [hN, List.length_cons, Nat.add_sub_cancel_left, set_last (List.length_cons ..)]
      exact this
section
variable {X : Cx} {e : Expr} {es : List Expr} {x : Str} {p pos : Pos} {ts tk : TDA} {k n m j i : Nat} {f C : Addr} {fd : FuncData} {ps ks : List Str} {dvs : List V} {dds : List D} {tf : TDX} {E : XK} {kws : List Keyword} {perm : List Nat}
theorem df_makeX (M : Mk X.K C f) (F : FnOk X.prog X.w X.K X.mg X.base (L2.CX X.prog X.w) k f fd ps (spXI C n tf)) (hr : Room (k + 1) X.A) (hm : X.mg x = some (.ref C)) (hb : ∃ dsv, Vals dvs dsv ∧ Binds X.K fd ps dsv) (hdd : ∀ z M H, RpL z M H dvs dds) (hx : Passes (L2.CX X.prog X.w) X E) (ha : PA X (e :: es) (lA ts)) (hn : ∀ ds Q Ed, tf ds Q Ed → ds.length = n) (hg : Gl X x := by rfl)
    (hdb : (x == ("__debug__" : Str)) = false := by decide) (he : starEach (e :: es) X.env = (false, eval e X.env) :: starEach es X.env := by rfl) (hpl : (backTo pos (starEach es X.env)).any (·.1) = false := by rfl) : PE X (.Call (.Name x p) (e :: es) [] pos) (lF (dFnX j E tf dds ts)) := by
  obtain ⟨dsv, hd, hb⟩ := hb
  exact PE.imp (pe_make M F hr hg hm hb hd hx ha hdb he hpl) fun σ H Q ⟨g, Qd, s, w, kk⟩ =>
    ⟨g, _, s, w, fun ds vs H1 w1 x1 s1 r1 y dx hy hdx ne => by
      obtain ⟨Ed, ej, w1⟩ := w1
      have r2 := r1.append (hdd g.z g.M H1)
      exact ⟨H1, y, dx, vs ++ dvs, _, g.z, g.M, Qd, Ed, rfl, by rw [r2.length]; exact hn _ _ _ w1, rfl, hy, hdx, ne, s1.amb, r2, w1, fun ns us H' q x b o => ⟨rfl, kk (.ins C ns us) y H' q (x1.trans x) (s1.ext x b) (x1.none_of hy fun h => s1.fresh hy (res_M h.res)) (s1.fresh hy) o⟩, s1.link ej⟩⟩
def dFnKX (j : Nat) (E : XK) (n m : Nat) (perm : List Nat) (tf : TDX) (ts tk : TDA) : TDE := fun S Q => ts S fun ds => tk S fun es => ds.length = n ∧ es.length = m ∧ ∃ Ed, S[j]? = some (.ex E Ed) ∧ tf (permL perm (ds ++ es)) Q Ed
theorem df_makeKX (M : Mk X.K C f) (F : FnOk X.prog X.w X.K X.mg X.base (L2.CX X.prog X.w) k f fd ps (spXI C n tf)) (hr : Room (k + 1) X.A) (hm : X.mg x = some (.ref C)) (hb : KBp X.K fd ps (m + 1) ks (0 :: perm.map (· + 1))) (hx : Passes (L2.CX X.prog X.w) X E) (ha : PA X (e :: es) (lA ts)) (hkw : PK X kws (lA tk)) (hn : ∀ ds Q Ed, tf ds Q Ed → ds.length = n) (hg : Gl X x := by rfl)
    (hall : (backToKw pos (keywordEach kws X.env)).all (·.1.isSome) = true := by rfl) (hks : (backToKw pos (keywordEach kws X.env)).filterMap (·.1) = ks := by rfl) (hdb : (x == ("__debug__" : Str)) = false := by decide) (he : starEach (e :: es) X.env = (false, eval e X.env) :: starEach es X.env := by rfl) (hpl : ((backTo pos (starEach (e :: es) X.env)).any (·.1) || (backToKw pos (keywordEach kws X.env)).any (·.1.isNone)) = false := by rfl) :
    PE X (.Call (.Name x p) (e :: es) kws pos) (lF (dFnKX j E m ks.length perm tf ts tk)) := PE.imp (pe_makeK M F hr hg hm hb hx ha hkw hall hks hdb he hpl) fun σ H Q ⟨g, Qd, s, w, kk⟩ =>
  ⟨g, _, s, w, fun ds vs H1 w1 x1 s1 r1 => ⟨g, _, s1, w1, fun es zs H2 w2 x2 s2 rz => by
    obtain ⟨l1, l2, Ed, ej, w2⟩ := w2
    have r1' := r1.ext x2
    have r2 := permL_rpl (r1'.append rz) perm
    refine ⟨by rw [r1'.length]; exact l1, by rw [rz.length]; exact l2, fun y dx hy hdx ne => ?_⟩
    have e1 : permL (0 :: perm.map (· + 1)) ((V.ref y :: vs) ++ zs) = V.ref y :: permL perm (vs ++ zs) := by
      rw [permL_cons, List.cons_append, permL_shift]; rfl
    refine ⟨H2, y, dx, permL perm (vs ++ zs), _, g.z, g.M, Qd, Ed, e1, by rw [r2.length]; exact hn _ _ _ w2, rfl, hy, hdx, ne, s2.amb, r2, w2, fun ns us H' q x b o => ⟨rfl, kk (.ins C ns us) y H' q ((x1.trans x2).trans x) (s2.ext x b) ((x1.trans x2).none_of hy fun h => s2.fresh hy (res_M h.res)) (s2.fresh hy) o⟩, s2.link ej⟩⟩⟩
def dMakeKLX (i j : Nat) (E : XK) (C : Addr) (n m : Nat) (perm : List Nat) (tf : TDX) (ts tk : TDA) : TDE := fun S Q => S[i]? = some (.val (.raw (.ref C))) ∧ dFnKX j E n m perm tf ts tk S Q
theorem df_makeKLX (M : Mk X.K C f) (F : FnOk X.prog X.w X.K X.mg X.base (L2.CX X.prog X.w) k f fd ps (spXI C n tf)) (hr : Room (k + 1) X.A) (hN : X.N[i]? = some x) (hv : Vis X.env.scope x) (hb : KBp X.K fd ps (m + 1) ks (0 :: perm.map (· + 1))) (hx : Passes (L2.CX X.prog X.w) X E) (ha : PA X (e :: es) (lA ts)) (hkw : PK X kws (lA tk)) (hn : ∀ ds Q Ed, tf ds Q Ed → ds.length = n)
    (hall : (backToKw pos (keywordEach kws X.env)).all (·.1.isSome) = true := by rfl) (hks : (backToKw pos (keywordEach kws X.env)).filterMap (·.1) = ks := by rfl) (hdb : (x == ("__debug__" : Str)) = false := by decide) (hcd : (x == ("__classdict__" : Str)) = false := by decide) (he : starEach (e :: es) X.env = (false, eval e X.env) :: starEach es X.env := by rfl) (hpl : ((backTo pos (starEach (e :: es) X.env)).any (·.1) || (backToKw pos (keywordEach kws X.env)).any (·.1.isNone)) = false := by rfl) :
    PE X (.Call (.Name x p) (e :: es) kws pos) (lF (dMakeKLX i j E C m ks.length perm tf ts tk)) := PE.imp (pe_makeKL (i := i) M F hr hN hv hb hx ha hkw hall hks hdb hcd he hpl) fun σ H Q ⟨g, Qd, s, w, kk⟩ => by
  obtain ⟨w0, w⟩ := w
  obtain ⟨v, hv', rv⟩ := s.val i _ w0
  cases rv
  refine ⟨hv', g, _, s, w, fun ds vs H1 w1 x1 s1 r1 => ⟨g, _, s1, w1, fun es zs H2 w2 x2 s2 rz => ?_⟩⟩
  obtain ⟨l1, l2, Ed, ej, w2⟩ := w2
  have r1' := r1.ext x2
  have r2 := permL_rpl (r1'.append rz) perm
  refine ⟨by rw [r1'.length]; exact l1, by rw [rz.length]; exact l2, fun y dx hy hdx ne => ?_⟩
  have e1 : permL (0 :: perm.map (· + 1)) ((V.ref y :: vs) ++ zs) = V.ref y :: permL perm (vs ++ zs) := by
    rw [permL_cons, List.cons_append, permL_shift]; rfl
  refine ⟨H2, y, dx, permL perm (vs ++ zs), _, g.z, g.M, Qd, Ed, e1, by rw [r2.length]; exact hn _ _ _ w2, rfl, hy, hdx, ne, s2.amb, r2, w2, fun ns us H' q x b o => ⟨rfl, kk (.ins C ns us) y H' q ((x1.trans x2).trans x) (s2.ext x b) ((x1.trans x2).none_of hy fun h => s2.fresh hy (res_M h.res)) (s2.fresh hy) o⟩, s2.link ej⟩
end
end L2.DL


set_option Elab.async false
set_option linter.all false
set_option maxRecDepth 100000
set_option maxHeartbeats 4000000
namespace L2.DL
open PySem PySem.Spec PyProof.Rows
/-! ### lambdas: their making -/
section
variable {X : Cx} {pins : List (Addr × Obj)} {σ : St} {H : Hp} {s : Shared} {c P : Addr} {params : Arguments} {body : Expr} {scope : Scope} {pos : Pos} {dV : Value} {Q E : Value → Shared → Prop}
/-- the lambda's function is laid: its code object is new, or found in the table -/
theorem lam_tail (I : Inv X pins σ H s) (TB : LamX.TabB X.base X.mg c P) (hcode : X.env.code = .ref c) (hT : TabS H P (X.env.qual ++ "<lambda>")) (hfree : ∀ y ∈ scope.names, y.2 = .free → ∃ c, X.env.cells.lookup y.1 = some c)
    (h : ∀ (f c' : Addr) (doc pm ctv : Value) (H1 : Hp) (s' : Shared), Inv X pins σ H1 s' → (∀ b o, H b = some o → b ≠ P → H1 b = some o) → TabS H1 P (X.env.qual ++ "<lambda>") → H f = none → (H c' = none ∨ H c' = some (CodeO c' (X.env.qual ++ "<lambda>"))) →
      H1 f = some (.ext fun h => h.get? f = some (PySem.W.kdv_obj "<lambda>" (X.env.qual ++ "<lambda>") params (.expr body) scope (cloFrom X.env.cells scope.names []) dV doc pm c' ctv)) → H1 c' = some (CodeO c' (X.env.qual ++ "<lambda>")) → Q (.ref f) s') :
    wpAny (model X.prog X.w) X.A (makeTail "<lambda>" (X.env.qual ++ "<lambda>") params (.expr body) scope X.env dV .none none pos pos.line) Q E s := by
  obtain ⟨ps, hP, ht, ha⟩ := hT
  have bP : s.heap.BuiltinsAt X.mg P := TB.bm.keeps I.bk
  have hP' : s.heap.get? P = some { cls := .none, data := .fields ps } := I.hok P _ hP
  have fin : ∀ {H1 : Hp} {h' : Heap} {tk : Nat} {c' : Addr} {doc pm ctv : Value}, Inv X pins σ H1 { s with heap := h', toks := tk } → (∀ b o, H b = some o → b ≠ P → H1 b = some o) → TabS H1 P (X.env.qual ++ "<lambda>") → H h'.objs.size = none → (H c' = none ∨ H c' = some (CodeO c' (X.env.qual ++ "<lambda>"))) → H1 c' = some (CodeO c' (X.env.qual ++ "<lambda>")) →
      Q (.ref h'.objs.size) { s with heap := h'.push (PySem.W.kdv_obj "<lambda>" (X.env.qual ++ "<lambda>") params (.expr body) scope (cloFrom X.env.cells scope.names []) dV doc pm c' ctv), toks := tk } := by
    intro H1 h' tk c' doc pm ctv I1 hx T1 nf hc hc1
    have n1 : H1 h'.objs.size = none := I1.hok.fresh (Nat.le_refl _)
    have I2 : Inv X pins σ (upd H1 h'.objs.size (.ext fun h => h.get? h'.objs.size = some (PySem.W.kdv_obj "<lambda>" (X.env.qual ++ "<lambda>") params (.expr body) scope (cloFrom X.env.cells scope.names []) dV doc pm c' ctv))) { s with heap := h'.push (PySem.W.kdv_obj "<lambda>" (X.env.qual ++ "<lambda>") params (.expr body) scope (cloFrom X.env.cells scope.names []) dV doc pm c' ctv), toks := tk } :=
      I1.laid (t' := tk) (h' := h'.push (PySem.W.kdv_obj "<lambda>" (X.env.qual ++ "<lambda>") params (.expr body) scope (cloFrom X.env.cells scope.names []) dV doc pm c' ctv)) (fun b u e => Heap.get?_push_of_some _ e) (Nat.le_refl _) ⟨Heap.get?_push_size _ rfl, ⟨_, Heap.get?_push_size _ rfl⟩, fun h1 h2 e st => st _ e⟩
    have k1 : ∀ b o, H1 b = some o → upd H1 h'.objs.size (.ext fun h => h.get? h'.objs.size = some (PySem.W.kdv_obj "<lambda>" (X.env.qual ++ "<lambda>") params (.expr body) scope (cloFrom X.env.cells scope.names []) dV doc pm c' ctv)) b = some o := fun b o e => by
      rw [upd_ne (ne_of_none e n1)]; exact e
    exact h h'.objs.size c' doc pm ctv _ _ I2 (fun b o e nb => k1 b o (hx b o e nb)) (T1.keeps k1) nf hc upd_same (k1 _ _ hc1)
  cases hc : codeAmong pos ps.toList with
  | none =>
    refine PySem.W.kdv_makeTail (mg := X.mg) (c := c) (P := P) (ps := ps) (closure_ok hfree) I.ok.glob (I.mod.glob.keeps I.bk) hcode (TB.code.keeps I.bk) hP' ht hc TB.gP bP fun c' ctv doc h' tk hx hge hlt hrec htb => ?_
    obtain ⟨c2, oc, vs, t, e2, hoc, hd, hv⟩ := hrec
    cases e2
    have hsz : s.heap.objs.size ≤ h'.objs.size := Nat.le_trans hge (Nat.le_of_lt hlt)
    have nC : H c' = none := I.hok.fresh hge
    have I1 : Inv X pins σ (upd (upd H P (.tbl (ps ++ #[rawInt pos.line, rawInt pos.col, .ref c']))) c' (CodeO c' (X.env.qual ++ "<lambda>"))) { s with heap := h', toks := tk } :=
      LamX.inv_table (t' := tk) (more := #[rawInt pos.line, rawInt pos.col, .ref c']) (h' := h') I hP (fun b o hb e => hx b o hb e) htb hge ⟨oc, vs, t, hoc, hd, hv⟩
    have hE : ∀ b o, H b = some o → b ≠ P → upd (upd H P (.tbl (ps ++ #[rawInt pos.line, rawInt pos.col, .ref c']))) c' (CodeO c' (X.env.qual ++ "<lambda>")) b = some o := fun b o e n => by
      rw [upd_ne (ne_of_none e nC), upd_ne n]; exact e
    have eL : (ps ++ #[rawInt pos.line, rawInt pos.col, .ref c']).toList = ps.toList ++ [rawInt pos.line, rawInt pos.col, .ref c'] := by simp
    refine fin I1 hE ⟨_, by rw [upd_ne (ne_of_none hP nC), upd_same], by rw [eL]; exact PySem.TriplesOk_snoc _ _ _ _ ht, fun p' cv hcv => ?_⟩ (I.hok.fresh hsz) (.inl nC) upd_same
    rw [eL] at hcv
    rcases LamX.among_app _ ht hcv with z | z
    · obtain ⟨c0, e1, e2⟩ := ha p' cv z
      refine ⟨c0, e1, hE _ _ e2 fun q => ?_⟩
      rw [q, hP] at e2
      exact codeO_tbl (Option.some.inj e2).symm
    · exact ⟨c', z, upd_same⟩
  | some cv =>
    obtain ⟨c', e, hco⟩ := ha pos cv hc
    subst e
    refine PySem.W.kdv_makeTailHit (mg := X.mg) (c := c) (P := P) (ps := ps) (closure_ok hfree) I.ok.glob (I.mod.glob.keeps I.bk) hcode (TB.code.keeps I.bk) hP' ht hc bP fun ctv doc h' tk hx hsz => ?_
    have I1 : Inv X pins σ H { s with heap := h', toks := tk } := I.kept fun b o e => hx b o e
    exact fin I1 (fun b o e _ => e) ⟨ps, hP, ht, ha⟩ (I.hok.fresh hsz) (.inr hco) hco
end
/-! ### as data -/
/-- what the making of lambdas asks of z -/
def LZ (lam : List LamN) (P : Addr) (cl : List (Str × Addr)) (q : Str) : Bz → MS → Hp → Prop := fun z _ _ => z.lam = lam ∧ z.tab = some P ∧ z.cl = cl ∧ z.q = q
theorem BagOk.tabbed {z : Bz} {H H1 : Hp} {P : Addr} (b : BagOk z H) (e : z.tab = some P) (x : ∀ b o, H b = some o → b ≠ P → H1 b = some o) (t : TabS H1 P (z.q ++ "<lambda>")) : BagOk z H1 where
  bg := fun a l q => by
    obtain ⟨n1, n2⟩ := b.ap a l P q e
    obtain ⟨ne, ns, at_, big, seed, cnt, e1, e2, r⟩ := b.bg a l q
    exact ⟨ne, ns, at_, big, seed, cnt, x _ _ e1 n1, x _ _ e2 n2, r⟩
  tb := fun P' e' => by
    rw [e] at e'
    cases e'
    exact t
  ap := b.ap
theorem Stt.nocode {g : Gh} {σ : St} {H : Hp} {c' : Addr} {q : Str} (s : Stt g σ H) (e : H c' = none ∨ H c' = some (CodeO c' q)) : ¬ g.M c' := fun h => by
  have n := s.alive c' h
  rcases e with e | e
  · exact n.ne e
  · exact n.code e
section
variable {X : Cx} {c P : Addr} {params : Arguments} {body : Expr} {scope : Scope} {pos : Pos} {j i : Nat} {lam : List LamN}
def dLam (j : Nat) (lam : List LamN) (P : Addr) (cl : List (Str × Addr)) (q : Str) (i : Nat) : TDE := fun S Q => S[j]? = some (.zz (LZ lam P cl q)) ∧ Q (.clo i)
theorem lam_data {g : Gh} {σ : St} {H H1 : Hp} {f c' : Addr} {dV doc pm ctv : Value} (s : Stt g σ H) (ej : g.S[j]? = some (.zz (LZ lam P X.env.cells X.env.qual))) (hl : lam[i]? = some ⟨params, body, scope⟩) (hx : ∀ b o, H b = some o → b ≠ P → H1 b = some o) (T1 : TabS H1 P (X.env.qual ++ "<lambda>")) (nf : H f = none)
    (hc : H c' = none ∨ H c' = some (CodeO c' (X.env.qual ++ "<lambda>"))) (hf : H1 f = some (.ext fun h => h.get? f = some (PySem.W.kdv_obj "<lambda>" (X.env.qual ++ "<lambda>") params (.expr body) scope (cloFrom X.env.cells scope.names []) dV doc pm c' ctv))) (hc1 : H1 c' = some (CodeO c' (X.env.qual ++ "<lambda>"))) (hd : DefV g.M H1 dV) (hdn : dV = .none ↔ params.defaults = []) :
    Ext g.z H H1 ∧ Stt g σ H1 ∧ Rp g.z g.M H1 (.ref f) (.clo i) := by
  obtain ⟨z1, z2, z3, z4⟩ := s.ex.ez j _ ej
  have x : Ext g.z H H1 := fun b o e n => hx b o e fun q => n (.inr (by rw [z2, q]))
  have bg : BagOk g.z H1 := s.bag.tabbed z2 hx (by rw [z4]; exact T1)
  refine ⟨x, s.ext x bg, .clo ⟨⟨_, c', dV, doc, pm, ctv, by rw [z1]; exact hl, hdn, ?_, by rw [z4]; exact hc1, hd, fun h => (s.alive f h).ne nf, s.nocode hc⟩⟩⟩
  rw [z3, z4]
  exact hf
/-- a lambda with no default -/
theorem de_lam0 (TB : LamX.TabB X.base X.mg c P) (hcode : X.env.code = .ref c) (hfree : ∀ y ∈ scope.names, y.2 = .free → ∃ c, X.env.cells.lookup y.1 = some c) (hl : lam[i]? = some ⟨params, body, scope⟩) (hdef : defaultsOf params X.env = ([], []) := by rfl) (hd0 : params.defaults = [] := by rfl) :
    PE X (.Lambda params body scope pos) (lE (dLam j lam P X.env.cells X.env.qual i)) := ⟨fun pins s σ H Q I ⟨g, Qd, st, ⟨ej, w⟩, k⟩ => by
  refine PySem.W.kla_eval hdef ?_
  rw [makeFunction_eq]
  simp only [List.zip_nil_right, List.filterMap_nil, List.isEmpty_nil, if_true, pure_bind]
  obtain ⟨z1, z2, z3, z4⟩ := st.ex.ez j _ ej
  refine lam_tail I TB hcode (by have := st.bag.tb P z2; rw [z4] at this; exact this) hfree fun f c' doc pm ctv H1 s' I1 hx T1 nf hc hf hc1 => ?_
  obtain ⟨x, s1, r⟩ := lam_data st ej hl hx T1 nf hc hf hc1 (.inl rfl) ⟨fun _ => hd0, fun _ => rfl⟩
  exact ⟨.ref f, H1, I1, (show RelV (.ref f) (.ref f) from rfl), k (.clo i) (.ref f) H1 w x s1 r⟩⟩
/-- a lambda with one number for a default -/
theorem de_lam1 {e : Expr} {n : Int} (TB : LamX.TabB X.base X.mg c P) (hcode : X.env.code = .ref c) (hfree : ∀ y ∈ scope.names, y.2 = .free → ∃ c, X.env.cells.lookup y.1 = some c) (hl : lam[i]? = some ⟨params, body, scope⟩) (he : PE X e (tC (.int n))) (hd : params.defaults = [e] := by rfl) (hk0 : params.kw_defaults = [] := by rfl) :
    PE X (.Lambda params body scope pos) (lE (dLam j lam P X.env.cells X.env.qual i)) := ⟨fun pins s σ H Q I ⟨g, Qd, st, ⟨ej, w⟩, k⟩ => by
  refine PySem.W.kdv_lam (by rw [hd]; rfl) hk0 ?_
  rw [hd]
  refine PySem.W.kdv_all1 (thn (he.run pins s σ H (fun v H1 => v = .int n ∧ H1 = H) I ⟨rfl, rfl⟩) fun u s1 ⟨v, H1, I1, ru, ev, eH⟩ => PySem.W.kdv_all0 ?_)
  subst ev
  rw [eH] at I1
  rw [makeFunction_eq]
  simp only [List.zip_nil_right, List.filterMap_nil, List.isEmpty_nil, if_true, pure_bind, List.isEmpty_cons, Bool.false_eq_true, if_false]
  refine wpAny_bind (wpAny_newTextTuple ?_)
  have nt : H s1.heap.objs.size = none := I1.hok.fresh (Nat.le_refl _)
  have I2 : Inv X pins σ (upd H s1.heap.objs.size (.tup [.int n])) { s1 with heap := s1.heap.push { cls := .type "tuple", data := .seq [u].toArray } } :=
    I1.laid (t' := s1.toks) (h' := s1.heap.push { cls := .type "tuple", data := .seq [u].toArray }) (fun b u e => Heap.get?_push_of_some _ e) (Nat.le_refl _) ⟨by show 1 ≤ sizeLine; rw [sizeLine_eq]; omega, [u], .cons ru .nil, ⟨_, Heap.get?_push_size _ rfl, rfl, _, rfl⟩⟩
  have st2 := st.alloc (o := .tup [.int n]) nt
  have x2 : Ext g.z H (upd H s1.heap.objs.size (.tup [.int n])) := .new nt
  obtain ⟨z1, z2, z3, z4⟩ := st.ex.ez j _ ej
  refine lam_tail I2 TB hcode (by have := st2.bag.tb P z2; rw [z4] at this; exact this) hfree fun f c' doc pm ctv H1 s' I3 hx T1 nf hc hf hc1 => ?_
  have nP : s1.heap.objs.size ≠ P := fun q => by
    obtain ⟨ps, e1, _⟩ := st.bag.tb P z2
    rw [q, e1] at nt
    cases nt
  obtain ⟨x, s3, r⟩ := lam_data st2 ej hl hx T1 nf hc hf hc1 (.inr ⟨_, n, rfl, hx _ _ upd_same nP, fun h => (st.alive _ h).ne nt⟩) ⟨fun q => (by cases q), fun q => (by rw [hd] at q; cases q)⟩
  exact ⟨.ref f, H1, I3, (show RelV (.ref f) (.ref f) from rfl), k (.clo i) (.ref f) H1 w (x2.trans x) s3 r⟩⟩
end
end L2.DL


set_option Elab.async false
set_option linter.all false
set_option maxRecDepth 100000
set_option maxHeartbeats 4000000
namespace L2.DL
open PySem PySem.Spec PyProof.Rows
/-! ### what a lambda's function does when it is called -/
abbrev TCl := Nat → (D → Prop) → (XD → Prop) → Prop
/-- from H on: calls of the lambdas' functions (the cells that they read are told by H) -/
def PowD (P : Program) (w : World) (K : PySem.W.Frag) (mg : Str → Option Value) (base : Heap) (k : Nat) (z : Bz) (M : MS) (H : Hp) (T : TCl) : Prop :=
  ∀ (i : Nat) (f : Addr) (A : Around) (outer : List Env) (s1 : Shared) (HZ : Hp) (MZ : MS) (Q : VK) (E : XK) (Qd : D → Prop) (Ed : XD → Prop), Room k A → Env0 P w K mg base A outer s1 HZ → Ext z H HZ → Amb z MZ HZ → (∀ a, M a → MZ a) → (∀ a, MZ a → M a ∨ resB z a ∨ H a = none) →
    CloAt z MZ HZ f i → T i Qd Ed → (∀ d v H', Qd d → Ext z HZ H' → BagOk z H' → Rp z MZ H' v d → Q v H') → XLink z MZ HZ E Ed → codeAny (model P w) A (.call (.ref f) ⟨[], []⟩) (CR (L2.CX P w) outer P w HZ s1 Q E) s1
theorem PowD.later {P : Program} {w : World} {K : PySem.W.Frag} {mg : Str → Option Value} {base : Heap} {k : Nat} {z : Bz} {M M1 : MS} {H H1 : Hp} {T : TCl} (p : PowD P w K mg base k z M H T) (x : Ext z H H1) (h1 : ∀ a, M a → M1 a) (h2 : ∀ a, M1 a → M a ∨ resB z a ∨ H a = none)
    (hn : ∀ a, H1 a = none → resB z a ∨ H a = none) : PowD P w K mg base k z M1 H1 T := fun i f A outer s2 HZ MZ Q E Qd Ed hr e0 x2 am g1 g2 c t kq ke =>
  p i f A outer s2 HZ MZ Q E Qd Ed hr e0 (x.trans x2) am (fun a h => g1 a (h1 a h)) (fun a h => by
    rcases g2 a h with h | h | h
    · exact h2 a h
    · exact .inr (.inl h)
    · exact .inr (hn a h)) c t kq ke
/-! ### the state of a lambda's body -/
def wipeO : Sl → Sl
  | .val d => .val d
  | _ => .no
/-- what a lambda sees of the slots; jx: the wish about exceptions -/
def lamS (S : SS) (jx : Nat) (E : XK) (Ed : XD → Prop) : SS := (S.map wipeO).set jx (.ex E Ed)
theorem lamS_val {S : SS} {jx i : Nat} {E : XK} {Ed : XD → Prop} {d : D} (e : (lamS S jx E Ed)[i]? = some (.val d)) : S[i]? = some (.val d) := by
  unfold lamS at e
  rw [List.getElem?_set] at e
  split at e
  · split at e <;> cases e
  · rw [List.getElem?_map] at e
    cases q : S[i]? with
    | none => rw [q] at e; cases e
    | some x => rw [q] at e; cases x <;> cases e; rfl
theorem lamS_own {S : SS} {jx i : Nat} {E : XK} {Ed : XD → Prop} {d : D} (e : (lamS S jx E Ed)[i]? = some (.own d)) : False := by
  unfold lamS at e
  rw [List.getElem?_set] at e
  split at e
  · split at e <;> cases e
  · rw [List.getElem?_map] at e
    cases q : S[i]? with
    | none => rw [q] at e; cases e
    | some x => rw [q] at e; cases x <;> cases e
theorem lamS_zz {S : SS} {jx i : Nat} {E : XK} {Ed : XD → Prop} {p : Bz → MS → Hp → Prop} (e : (lamS S jx E Ed)[i]? = some (.zz p)) : False := by
  unfold lamS at e
  rw [List.getElem?_set] at e
  split at e
  · split at e <;> cases e
  · rw [List.getElem?_map] at e
    cases q : S[i]? with
    | none => rw [q] at e; cases e
    | some x => rw [q] at e; cases x <;> cases e
theorem lamS_ex {S : SS} {jx i : Nat} {E E' : XK} {Ed Ed' : XD → Prop} (e : (lamS S jx E Ed)[i]? = some (.ex E' Ed')) : E' = E ∧ Ed' = Ed := by
  unfold lamS at e
  rw [List.getElem?_set] at e
  split at e
  · split at e
    · cases e; exact ⟨rfl, rfl⟩
    · cases e
  · rw [List.getElem?_map] at e
    cases q : S[i]? with
    | none => rw [q] at e; cases e
    | some x => rw [q] at e; cases x <;> cases e
def lamG (g : Gh) (MZ : MS) (HZ : Hp) (jx : Nat) (E : XK) (Ed : XD → Prop) : Gh := ⟨g.z, MZ, HZ, HZ, MZ, fun _ => none, lamS g.S jx E Ed⟩
theorem lam_stt {g : Gh} {σ : St} {H HZ : Hp} {MZ : MS} {jx : Nat} {E : XK} {Ed : XD → Prop} (s : Stt g σ H) (x : Ext g.z H HZ) (am : Amb g.z MZ HZ) (h2 : ∀ a, MZ a → g.M a ∨ resB g.z a ∨ H a = none) (l : XLink g.z MZ HZ E Ed) : Stt (lamG g MZ HZ jx E Ed) σ HZ := by
  have hM : (lamG g MZ HZ jx E Ed).M = MZ := mo_none am.res
  refine ⟨?_, fun i d e => ?_, fun i d e => (lamS_own e).elim, (fun i j a e => nomatch e), (fun i a e => nomatch e), fun a h => ?_, Ext.refl, am.bag, Ext.refl, fun _ h => h, fun a h => (am.alive a h).ne, fun i E' Ed' e => ?_, fun i p e => (lamS_zz e).elim, fun _ h => .inl h⟩
  · show (lamS g.S jx E Ed).length = σ.length
    unfold lamS
    rw [List.length_set, List.length_map]
    exact s.len
  · obtain ⟨v, e1, r⟩ := s.val i d (lamS_val e)
    refine ⟨v, e1, ?_⟩
    rw [hM]
    exact r.tr (Tr.of fun b o n e => ⟨x b o e fun q => n (res_M q.res), fun h => by
      rcases h2 b h with h | h | h
      · exact n h
      · exact n (res_M h)
      · rw [h] at e; cases e⟩)
  · rw [hM] at h
    exact am.alive a h
  · obtain ⟨rfl, rfl⟩ := lamS_ex e
    exact l
end L2.DL


set_option Elab.async false
set_option linter.all false
set_option maxRecDepth 100000
set_option maxHeartbeats 4000000
namespace L2.DL
open PySem PySem.Spec PyProof.Rows
/-! ### the body of a lambda -/
/-- its names: own ones that the maker has not, captured ones, globals -/
structure LamS3 (N : List Str) (sc scope : Scope) : Prop where
  kind : scope.kind = .function
  co : scope.isCoroutine = false
  gen : scope.isGenerator = false
  own : ∀ y ∈ scope.names, y.2 ≠ .cell
  loc : ∀ y ∈ scope.names, y.2 = .local → y.1 ∉ N
  free : ∀ y ∈ scope.names, y.2 = .free → sc.names.lookup y.1 = some .cell ∨ sc.names.lookup y.1 = some .free
def lamS3B (N : List Str) (sc scope : Scope) : Bool :=
  decide (scope.kind = .function) && !scope.isCoroutine && !scope.isGenerator && scope.names.all fun y => !decide (y.2 = .cell) && (!decide (y.2 = .local) || !decide (y.1 ∈ N)) && (!decide (y.2 = .free) || decide (sc.names.lookup y.1 = some .cell) || decide (sc.names.lookup y.1 = some .free))
theorem lamS3_by {N : List Str} {sc scope : Scope} (h : lamS3B N sc scope = true) : LamS3 N sc scope := by
  unfold lamS3B at h
  simp only [Bool.and_eq_true, Bool.or_eq_true, Bool.not_eq_true', decide_eq_true_eq, decide_eq_false_iff_not, List.all_eq_true] at h
  obtain ⟨⟨⟨h1, h2⟩, h3⟩, h4⟩ := h
  refine ⟨h1, h2, h3, fun y hy => (h4 y hy).1.1, fun y hy e => ?_, fun y hy e => ?_⟩
  · rcases (h4 y hy).1.2 with z | z
    · exact absurd e z
    · exact z
  · rcases (h4 y hy).2 with (z | z) | z
    · exact absurd e z
    · exact .inl z
    · exact .inr z
theorem LamS3.has {X : Cx} {scope : Scope} (L : LamS3 X.N X.env.scope scope) (ok : X.Ok) : ∀ y ∈ scope.names, y.2 = .free → ∃ c, X.env.cells.lookup y.1 = some c := fun y hy e => by
  rcases L.free y hy e with k | k
  · exact ok.has _ (.inl k)
  · exact ok.has _ (.inr k)
section
variable {X : Cx} {pins : List (Addr × Obj)} {σ : St} {H HZ : Hp} {s s1 : Shared}
theorem lam_start3 {A : Around} {outer : List Env} {E : XK} {scope : Scope} {f c' : Addr} {h₁ : Heap} {tk : Nat} {fs : List Addr} {m1 : Str → Option Value} (I : Inv X pins σ H s) (L : LamS3 X.N X.env.scope scope) (e0 : Env0 X.prog X.w X.K X.mg X.base A outer s1 HZ) (hd : A.handled = none)
    (un : Un fs [] H HZ s.heap s1.heap) (hns : h₁.Ns s1.heap.objs.size m1) (kp : ∀ b o, s1.heap.get? b = some o → h₁.get? b = some o) :
    Inv (LamX.lamCx X A outer s1 HZ E scope f c') [] σ HZ { s1 with heap := h₁, toks := tk } := by
  have hfree := L.has I.ok
  have cm : ∀ {y c}, (cloFrom X.env.cells scope.names []).lookup y = some c → X.env.cells.lookup y = some c := fun {y c} e => by
    rcases cloFrom_mem (PySem.mem_of_lookup e) with hm | ⟨h1, h2⟩
    · cases hm
    · obtain ⟨c1, hc⟩ := hfree _ h1 rfl
      have hc : X.env.cells.lookup y = some c1 := hc
      have e2 : c = c1 := by
        rw [h2, hc] <;> rfl
      rw [e2]
      exact hc
  have look : ∀ {y}, scope.names.lookup y = some .free → ∃ c, (cloFrom X.env.cells scope.names []).lookup y = some c := fun {y} hl => by
    have hy : (y, NameKind.free) ∈ scope.names := PySem.mem_of_lookup hl
    exact mem_lookup (cloFrom_has (cells := X.env.cells) (acc := []) hy)
  have cellK : ∀ {c : Addr} {v : Option Value}, H c = none → s.heap.IsCell c v → h₁.IsCell c v := fun {c v} n ⟨o, ho, hd⟩ => by
    obtain ⟨sl, q⟩ := un.any ho n (by simp)
    exact ⟨_, kp _ _ q, hd⟩
  have noA : ∀ b : Addr, b ∉ (LamX.lamCx X A outer s1 HZ E scope f c').ex := fun b z => absurd (show b ∈ ([] : List Addr) from z) (by simp)
  refine ⟨⟨e0.mod, L.kind, rfl, rfl, Nat.le_refl _, fun y z c e1 e2 => I.ok.inj y z c (cm e1) (cm e2), fun y hy => ?_, fun y c z _ => ?_, fun _ => hd, Around.frames_deeper e0.frames, .inr ⟨rfl, rfl⟩, fun b z => absurd z (noA b), e0.bs, e0.bsz, fun b _ _ => noA b,
      fun b z => absurd z (noA b), e0.funs, e0.frf⟩,
    rfl, e0.bare, Un.kept kp, ⟨_, hns, fun i y v e1 e2 e3 => ?_⟩, fun y c e => ?_, e0.hok.fresh (Nat.le_refl _), fun y c e => ?_, fun q hq => absurd (show q ∈ ([] : List (Addr × Obj)) ++ [] from hq) (by simp), e0.hok.kept kp, I.len⟩
  · have hy : scope.names.lookup y = some .cell ∨ scope.names.lookup y = some .free := hy
    rcases hy with hy | hy
    · exact absurd rfl (L.own _ (PySem.mem_of_lookup hy))
    · exact look hy
  · have z : false = true := z
    cases z
  · have e3 : Vis scope y := e3
    rcases e3 with k | k | k
    · exact absurd (List.mem_of_getElem? e1) (L.loc _ (PySem.mem_of_lookup k) rfl)
    · exact absurd rfl (L.own _ (PySem.mem_of_lookup k))
    · obtain ⟨m, hn, hl⟩ := I.loc
      have hvis : Vis X.env.scope y := (L.free _ (PySem.mem_of_lookup k) rfl).elim (fun k => .inr (.inl k)) (fun k => .inr (.inr k))
      obtain ⟨w', r, q⟩ := hl i y v e1 e2 hvis
      obtain ⟨c2, h2⟩ := look k
      refine ⟨w', r, .inr ⟨.inr k, c2, h2, ?_⟩⟩
      have c1 := cm h2
      rcases q with ⟨k', _⟩ | ⟨_, c3, e', z⟩
      · have k' : X.env.scope.names.lookup y = some .local := k'
        rcases L.free _ (PySem.mem_of_lookup k) rfl with k2 | k2 <;> rw [show X.env.scope.names.lookup y = _ from k2] at k' <;> cases k'
      · rw [c1] at e'
        cases e'
        exact cellK (I.freeC y _ c1) z
  · obtain ⟨w', z⟩ := I.cell y c (cm e)
    exact ⟨w', cellK (I.freeC y c (cm e)) z⟩
  · obtain ⟨v, o, ho, hd⟩ := I.cell y c (cm e)
    exact un.free c o ho (I.freeC y c (cm e)) (by simp)
/-- what a lambda takes for its parameters: none, or the one default -/
def LamB (nd : LamN) : Prop := ∀ (q : Str) (cl : List (Str × Addr)) (dv doc pm cdv ct : Value) (s : Shared), (dv = .none ∧ nd.params.defaults = [] ∨ ∃ (T : Addr) (u : Value) (o : Obj) (n : Nat), dv = .ref T ∧ s.heap.get? T = some o ∧ o.data = .seq #[u] n ∧ nd.params.defaults ≠ []) →
  ∃ binds : List (Str × Value), BindsTo s (PySem.W.kdv_fn "<lambda>" q nd.params (.expr nd.body) nd.scope cl dv doc pm cdv ct) ⟨[], []⟩ binds ∧ ∀ x ∈ binds, nd.scope.names.lookup x.1 = some .local
end
end L2.DL


set_option Elab.async false
set_option linter.all false
set_option maxRecDepth 100000
set_option maxHeartbeats 4000000
namespace L2.DL
open PySem PySem.Spec PyProof.Rows
/-! ### try: body, except (x1, x2) as n: suite -/
theorem fly_push {B h : Heap} {l : List Env} {a : Addr} {Z : Obj → Prop} (x : HandSPX.FlyingZ B l a Z h) (o : Obj) : HandSPX.FlyingZ B l a Z (h.push o) := by
  have k : ∀ b u, h.get? b = some u → (h.push o).get? b = some u := fun b u e => Heap.get?_push_of_some _ e
  obtain ⟨k1, k2, k3, oe, vs, T, oT, ts', he, hz, hd, h1, h2, h3, h4, h5, h6⟩ := x
  exact ⟨fun b u e => k _ _ (k1 b u e), k2, Heap.FunFrames.of_keeps (fun b u e _ => ⟨u, k _ _ e, rfl⟩) k3, oe, vs, T, oT, ts', k _ _ he, hz, hd, h1, h2, h3, k _ _ h4, h5, h6⟩
def wAsT (K : PySem.W.Frag) (c1 c2 : Value) (i : Nat) (ts : Addr → Value → Option Addr → TS) (Wout : WX) (D : Ends) : WX := fun cls d σ H =>
  ∃ b, PySem.W.exmAny K cls [c1, c2] = some b ∧ (b = true → ∀ a, H a = none → ts a cls d { nx := fun σ' H' => D.nx (σ'.set i none) H', rt := D.rt, bk := fun σ' H' => D.bk (σ'.set i none) H', ct := fun σ' H' => D.ct (σ'.set i none) H' } (σ.set i (some (.ref a))) H) ∧
    (b = false → Wout cls d σ H)
section
variable {X : Cx} {x1 x2 n : Str} {c1 c2 : Value} {i kk : Nat} {body suite : List Stmt} {b₀ : Stmt} {np1 np2 tpos pos pos' : Pos} {tb : WX → TS} {ts : Addr → Value → Option Addr → TS} {Wout : WX}
theorem ps_try_tup (hs : X.stack = X.env :: X.outer) (hf : X.env.frame = some X.env.locals) (hN : X.N.Nodup) (hi : X.N[i]? = some n) (hln : X.env.kindOf n = some .local) (hc1 : Names X x1 c1) (hc2 : Names X x2 c2) (tk : Takes X Wout)
    (hb : ∀ (W : WX) (pn : List (Addr × Obj)) (xe : Value → Shared → Prop), Takes (X.tr pn xe) W → PassesOwn (model X.prog X.w) X.A X.env xe → PSs (X.tr pn xe) body (tb W))
    (hsu : ∀ (a : Addr) (oe : Obj) (cls : Value) (d : Option Addr) (pn : List (Addr × Obj)), Zc cls d oe → (∃ vs, oe.data = .fields vs) → PSs (X.suite a ((a, oe) :: pn)) (b₀ :: suite) (ts a cls d)) :
    PS X (.Try body [.ExceptHandler (some (.Tuple [.Name x1 np1, .Name x2 np2] kk tpos)) (some n) (b₀ :: suite) pos'] [] [] pos) (fun D σ H => tb (wAsT X.K c1 c2 i ts Wout D) D σ H) := by
  refine ⟨fun pins s σ H D I h => ?_⟩
  have ok := I.ok
  have hfr : X.A.frames = some (X.env :: X.outer) := by rw [ok.frames, hs]
  have hloc : Loc X.env.scope n := .inl hln
  refine wpAny_Try_except ?_
  refine wpAny_mono ((hb (wAsT X.K c1 c2 i ts Wout D) (X.pn ++ pins) (fun e s₁ => wpAny (model X.prog X.w) X.A (noteFrame e X.env) (fun _ s₂ => wpAny (model X.prog X.w) X.A (setFlight e none) (fun _ s₃ =>
    wpAny (model X.prog X.w) X.A (handleBy e X.env [.ExceptHandler (some (.Tuple [.Name x1 np1, .Name x2 np2] kk tpos)) (some n) (b₀ :: suite) pos']) (SP X pins D) X.xe s₃) X.xe s₂) X.xe s₁) (fun u s' xx => ?_) PassesOwn.looking).run [] s σ H D (I.toTry _) h) (fun f s1 hsp => ?_) (fun e s1 he => he)
  · -- the catch
    obtain ⟨a, B, sI, pins', σ', H', cls, d, rfl, J', nb, up, sky, na, os, ag, b, hb1, hyes, hno⟩ := xx
    have J : Inv X pins σ' H' sI := J'.ofTry ok
    have sky' : Sky B (X.env :: X.outer) a (Zc cls d) X.env.locals s'.heap := by rw [← hs]; exact sky
    show wpAny (model X.prog X.w) X.A (noteFrame (.ref a) X.env) _ _ _
    refine Sky.land Zc.steady hfr hf sky' fun h3 fl3 up3 => ?_
    have J3 : Inv X pins σ' H' { s' with heap := h3 } := J.landed nb fl3.1 (up.trans up3) os ag
    obtain ⟨oe3, vs3, he3, hz3, hd3⟩ := fl3.there
    have notFr : ∀ {h : Heap} {o : Obj} {vs : Array Value}, h.FunFrames B (X.env :: X.outer) → h.get? a = some o → o.data = .fields vs → a ∉ frs (X.env :: X.outer) := fun {h o vs} ff e dd hm => by
      obtain ⟨_, o', e', hnf⟩ := ff.mem hm
      rw [e] at e'; cases e'
      exact hnf _ dd
    have nfr := notFr fl3.2.2.1 he3 hd3
    have nL : a ≠ X.env.locals := fun z => nfr (List.mem_filterMap.mpr ⟨X.env, List.mem_cons_self, by rw [hf, z]⟩)
    have nF : a ∉ X.fs := fun hm => by
      obtain ⟨e, he, q⟩ := List.mem_filterMap.mp hm
      exact nfr (List.mem_filterMap.mpr ⟨e, List.mem_cons_of_mem _ he, q⟩)
    have S3 := J3.suite he3 hd3 na nL nF
    refine wpAny_handleBy_cons (codeAny_handlers_test ?_) (by intro q; cases q)
    have test : ∀ {x : Str} {c : Value} {np : Pos}, Names X x c → ∀ {Q : Value → Shared → Prop} {E : Value → Shared → Prop}, Q c { s' with heap := h3 } → wpAny (model X.prog X.w) (X.A.mark (some (.ref a))) (eval (.Name x np) X.env) Q E { s' with heap := h3 } := fun {x c np} hc {Q E} q => by
      obtain ⟨hg, hdbg, hm | ⟨hm, hv, hnn⟩⟩ := hc
      · exact ld_glob (X := X.suite a ((a, oe3) :: (X.pn ++ pins))) S3 hg hm q hdbg
      · exact ld_blt (X := X.suite a ((a, oe3) :: (X.pn ++ pins))) S3 hg hm hv q hnn hdbg
    refine Tuple_ ?_
    show wpAny _ _ (spliced ((false, eval (.Name x1 np1) X.env) :: (false, eval (.Name x2 np2) X.env) :: [])) _ _ _
    refine Calls.spliced_cons (test hc1 (Calls.spliced_cons (test hc2 (Calls.spliced_nil ?_))))
    refine wpAny_newTuple ?_ (by show 2 ≤ sizeLine; rw [sizeLine_eq]; omega)
    obtain ⟨tp, htp⟩ : ∃ tp : Obj, tp = { cls := .type "tuple", data := .seq [c1, c2].toArray } := ⟨_, rfl⟩
    have kp : ∀ b u, h3.get? b = some u → (h3.push tp).get? b = some u := fun b u e => Heap.get?_push_of_some _ e
    have fl3' := fly_push fl3 tp
    have up3' : s'.heap.UpToSlots (h3.push tp) := up3.trans (.of_keeps kp)
    have LT : PySem.W.Looks (model X.prog X.w) (h3.push tp) (typeOf (.ref a)) cls := fun A Q E s k q => wpAny_typeOf_ref (k _ _ (kp _ _ he3)) (by rw [hz3.1]; exact q)
    have LM := PySem.W.exm_tup2 (M := model X.prog X.w) (tp := h3.objs.size) (J3.kIn.keeps kp) LT (by rw [htp]; exact Heap.get?_push_size _ rfl) hb1
    show wpAny _ _ (excMatches (.ref a) (.ref h3.objs.size)) _ _ { s' with heap := h3.push { cls := .type "tuple", data := .seq [c1, c2].toArray } }
    rw [← htp]
    refine LM.here ?_
    cases b with
    | true =>
      refine codeAny_handlers_suite_as ?_
      refine HandSPX.lands_againZ fl3' fun h4 fl4 up4 => ?_
      have J4 : Inv X pins σ' H' { s' with heap := h4 } := J.landed nb fl4.1 ((up.trans up3').trans up4) os ag
      obtain ⟨oe4, vs4, he4, hz4, hd4⟩ := fl4.there
      have S4 := J4.suite he4 hd4 na nL nF
      refine store_ok (X := X.suite a ((a, oe4) :: (X.pn ++ pins))) (v := .ref a) S4 hN hi hloc rfl (fun s5 S5 => ?_) (.inr hln)
      refine wpAny_mono ((hsu a oe4 cls d (X.pn ++ pins) hz4 ⟨_, hd4⟩).run [] s5 _ H' _ S5 (hyes rfl a na)) (fun f s6 hsp => ?_) (fun _ _ z => False.elim z)
      have end_ : ∀ {σ6 : St} {H6 : Hp} {Q : Shared → Prop}, Inv (X.suite a ((a, oe4) :: (X.pn ++ pins))) [] σ6 H6 s6 → (∀ s7, Inv X pins (σ6.set i none) H6 s7 → Q s7) →
          wpAny (model X.prog X.w) X.A (do bindName X.env n .none; unbindBehindTheSuite X.env n pos') (fun _ s7 => Q s7) X.xe s6 := fun {σ6 H6 Q} S6 hq => gone_ok (S6.unsuite ok) hN hi hln hq
      cases f with
      | next =>
        obtain ⟨σ6, H6, S6, q6⟩ := hsp
        exact end_ S6 fun s7 J7 => ⟨_, _, J7, q6⟩
      | brk =>
        obtain ⟨σ6, H6, S6, q6⟩ := hsp
        exact end_ S6 fun s7 J7 => ⟨_, _, J7, q6⟩
      | cont =>
        obtain ⟨σ6, H6, S6, q6⟩ := hsp
        exact end_ S6 fun s7 J7 => ⟨_, _, J7, q6⟩
      | ret u =>
        obtain ⟨v6, σ6, H6, S6, r6, q6⟩ := hsp
        exact end_ S6 fun s7 J7 => ⟨_, _, _, J7, r6, q6⟩
    | false =>
      show wpAny _ X.A (handleBy (.ref a) X.env []) _ _ _
      refine wpAny_handleBy_nil ?_
      obtain ⟨k1, k2, k3, oe, vs, T, oT, ts', he, hz, hd, h1, hr⟩ := id fl3'
      unfold PySem.passOn
      refine wpAny_bind (wpAny_field he hd h1 ?_)
      rw [if_neg (show ¬ ((Value.ref T == Value.none) = true) from by simp)]
      have fin : wpAny (model X.prog X.w) X.A (setFlight (.ref a) X.env.frame) (fun _ s4 => wpAny (model X.prog X.w) X.A (throw (.ref a) : Sem Flow) (SP X pins D) X.xe s4) X.xe { s' with heap := h3.push tp } := by
        rw [hf]
        refine HandSPX.setFlight_upZ fl3' fun h4 hh4 up4 => wpAny_throw (tk _ _ ?_)
        exact ⟨a, B, sI, pins, σ', H', cls, d, rfl, J, nb, (up.trans up3').trans up4, .inr (.inr (by rw [hs]; exact hh4)), na, os, ag, hno rfl⟩
      first
        | exact wpAny_bind (wpAny_pure (wpAny_bind fin))
        | exact wpAny_bind fin
  · cases f with
    | next =>
      obtain ⟨σ', H', J', q⟩ := hsp
      exact wpAny_execs_nil ⟨σ', H', J'.ofTry ok, q⟩
    | brk =>
      obtain ⟨σ', H', J', q⟩ := hsp
      exact ⟨σ', H', J'.ofTry ok, q⟩
    | cont =>
      obtain ⟨σ', H', J', q⟩ := hsp
      exact ⟨σ', H', J'.ofTry ok, q⟩
    | ret u =>
      obtain ⟨v, σ', H', J', r, q⟩ := hsp
      exact ⟨v, σ', H', J'.ofTry ok, r, q⟩
end
end L2.DL


set_option Elab.async false
set_option linter.all false
set_option maxRecDepth 100000
set_option maxHeartbeats 4000000
namespace L2.DL
open PySem PySem.Spec PyProof.Rows
/-! ### what is known at a def's start, told at a later state -/
theorem Stt.trX {g : Gh} {σ : St} {H : Hp} (s : Stt g σ H) (hr : ∀ a, resB g.z a → g.XM a) : Tr g.XM g.X0 g.M H := Tr.of fun b o n e => by
  have nb : ¬ isB g.z b := fun q => n (hr b q.res)
  have e1 := s.ex.e0 b o e nb
  refine ⟨s.keep b o e1 nb, fun h => ?_⟩
  rcases h with h | h | ⟨i, h⟩
  · rcases s.ex.en b h with h | h
    · exact n h
    · rw [h] at e; cases e
  · exact n (hr b h)
  · rw [(s.new i b h).1] at e1; cases e1
theorem Stt.mX {g : Gh} {σ : St} {H : Hp} (s : Stt g σ H) {a : Addr} (h : g.M a) : g.XM a ∨ resB g.z a ∨ g.X0 a = none := by
  rcases h with h | h | ⟨i, h⟩
  · rcases s.ex.en a h with h | h
    · exact .inl h
    · exact .inr (.inr h)
  · exact .inr (.inl h)
  · by_cases hb : resB g.z a
    · exact .inr (.inl hb)
    · refine .inr (.inr ?_)
      cases e : g.X0 a with
      | none => rfl
      | some o =>
        have e1 := s.ex.e0 a o e fun q => hb q.res
        rw [(s.new i a h).1] at e1
        cases e1
/-! ### a caught exception's fields -/
/-- the class's fields are told by its instances alone -/
def FldC (K : PySem.W.Frag) (names : List Str) (C : Addr) : Prop := XfC K C ∧ ∀ n ∈ names, PySem.W.findIn K (.ref C) n = some none
def XZ (K : PySem.W.Frag) (names : List Str) (cls : Value) (d : Option Addr) (x : XD) : Bz → MS → Hp → Prop := fun z M H => (∀ b, resB z b → M b) ∧ cls = .ref x.C ∧ (∃ dd, d = some dd ∧ ¬ isB z dd ∧ XRp z M H dd x) ∧ FldC K names x.C
theorem BagOk.xd {z : Bz} {H : Hp} {dd : Addr} {fs : List (Str × V)} (b : BagOk z H) (e : H dd = some (.xd fs)) : ¬ isB z dd := fun q => by
  rcases q with ⟨l, q⟩ | q
  · obtain ⟨_, _, _, _, _, _, e1, _⟩ := b.bg dd l q
    rw [e] at e1
    cases e1
  · obtain ⟨ps, e1, _⟩ := b.tb dd q
    rw [e] at e1
    cases e1
def dXf (K : PySem.W.Frag) (names : List Str) (i j : Nat) (a : Addr) (cls : Value) (d : Option Addr) (n : Str) : TDE := fun S Q => S[i]? = some (.val (.raw (.ref a))) ∧ ∃ x v, S[j]? = some (.zz (XZ K names cls d x)) ∧ (x.ns.zip x.vs).lookup n = some v ∧ Q v
theorem zip_look {z : Bz} {M : MS} {H : Hp} {n : Str} {d : D} : ∀ {fs : List (Str × V)} {ns : List Str} {ds : List D}, (fs.map fun p => p.1) = ns → RpL z M H (fs.map fun p => p.2) ds → (ns.zip ds).lookup n = some d → ∃ v, fs.lookup n = some v ∧ Rp z M H v d
  | [], ns, ds, h, r, e => by
    subst h
    simp at e
  | (m, v) :: fs, ns, ds, h, r, e => by
    subst h
    cases r with
    | @cons v' vs' d' ds' r1 r2 =>
      rw [List.map_cons, List.zip_cons_cons, List.lookup_cons] at e
      rw [List.lookup_cons]
      dsimp only at e
      cases hb : n == m with
      | true =>
        rw [hb] at e
        cases e
        exact ⟨v, rfl, r1⟩
      | false =>
        rw [hb] at e
        exact zip_look rfl r2 e
theorem de_xf {X : Cx} {a : Addr} {oe : Obj} {cls : Value} {d : Option Addr} {e : Expr} {i j : Nat} {names : List Str} {pos : Pos} {n : Str} (hp : (a, oe) ∈ X.pn) (hz : Zc cls d oe) (hf : ∃ vs, oe.data = .fields vs) (he : PE X e (tVar i)) (hn : n ∈ names) (hb : attributeBase e n X.env (eval e X.env) = eval e X.env := by rfl) :
    PE X (.Attribute e n pos) (lE (dXf X.K names i j a cls d n)) := by
  refine ⟨fun pins s σ H Q I ⟨g, Qd, st, w, k⟩ => ?_⟩
  obtain ⟨w1, x, v, w2, w3, w4⟩ := w
  obtain ⟨u0, hu0, r0⟩ := st.val i _ w1
  cases r0
  refine attr_of hb (thn (he.run pins s σ H (fun v H1 => v = .ref a ∧ H1 = H) I ⟨_, hu0, rfl, rfl⟩) fun u s1 ⟨v1, H1, I1, rx, ev, eH⟩ => ?_)
  subst ev
  rw [eH] at I1
  obtain rfl : u = Value.ref a := rx
  obtain ⟨hr, ec, ⟨dd, ed, nb, fs, x1, x2, x3⟩, T, hno⟩ := st.ex.ez j _ w2
  have ea : H dd = some (.xd fs) := st.keep dd _ (st.ex.e0 dd _ x1 nb) nb
  obtain ⟨v2, hl, rv⟩ := zip_look x2 (x3.tr (st.trX hr)) w3
  subst ec
  subst ed
  obtain ⟨ha, _⟩ := I1.pin (a, oe) (List.mem_append_left _ hp)
  obtain ⟨vs, hd⟩ := hf
  have hx : ObjOk X.prog X.w H s1.heap dd (.xd fs) := I1.hok dd _ ea
  obtain ⟨mA, hns, hrl⟩ := hx
  obtain ⟨od, ho, hl2⟩ := lookIn_ns hns
  obtain ⟨u, hu, ru⟩ := RelO.some_of (v := v2) (o := mA n) (by rw [← hl]; exact hrl n)
  have J : PySem.W.InstAt s1.heap a oe x.C (some od) := ⟨ha, hz.1, by unfold PySem.W.notCls; rw [hd] <;> rfl, by rw [hz.2]; exact ho⟩
  exact HandSPX.exc_get I1.kIn J T.ga T.gg T.exC (PySem.W.findObj_own T.hdC (hno n hn) rfl (by rw [hl2, hu])) (handed_of ru) ⟨v2, H, I1.tok _, ru, k v v2 H w4 .refl st rv⟩
/-! ### a def called with a caught exception -/
abbrev SpW := Addr → Value → Option Addr → List V → Hp → VK → XK → Prop
structure FnW (P : Program) (w : World) (K : PySem.W.Frag) (mg : Str → Option Value) (base : Heap) (CX : CXT) (k : Nat) (f : Addr) (fd : FuncData) (ps : List Str) (sp : SpW) : Prop where
  len : ∀ a cls d vs H Q E, sp a cls d vs H Q E → vs.length = ps.length
  run : ∀ (A : Around) (outer : List Env) (s : Shared) (H : Hp) (args : Args) (us : List Value) (vs : List V) (Q : VK) (E : XK) (p : Addr × Obj) (cls : Value) (d : Option Addr), Zc cls d p.2 → (∃ vs, p.2.data = .fields vs) → L2H.RoomH k A → L2H.PinOk outer H s p → Env0 P w K mg base A outer s H → BindsTo s fd args (ps.zip us) → Vals vs us → sp p.1 cls d vs H Q E →
    codeAny (model P w) A (.call (.ref f) args) (CR CX outer P w H s Q E) s
theorem fn_ofW {CX : CXT} {P : Program} {w : World} {K : PySem.W.Frag} {mg : Str → Option Value} {base : Heap} {k : Nat} {f : Addr} {name qual : Str} {params : Arguments} {body : List Stmt} {scope : Scope} {dV kV doc pm cdv ct oc : Value} {an od : Option Addr}
    {osl : Array (Option Value)} {N ps : List Str} {sp : SpW} (lk : K.lookup f = some ⟨oc, od, .func (PySem.W.fnOf name qual params body scope dV kV doc pm an cdv ct), osl⟩) (hcd : PySem.W.codeIn K cdv qual = true) (S : FnScope N ps scope)
    (len : ∀ a cls d vs H Q E, sp a cls d vs H Q E → vs.length = ps.length)
    (hbody : ∀ (A : Around) (outer : List Env) (s : Shared) (H : Hp) (vs : List V) (Q : VK) (E : XK) (p : Addr × Obj) (cls : Value) (d : Option Addr), Zc cls d p.2 → (∃ vs, p.2.data = .fields vs) → L2H.RoomH k (A.deeper (envOfC qual scope s.heap.objs.size f cdv)) → sp p.1 cls d vs H Q E →
      ∃ t, PSs (L2H.cxH CX P w K mg base N qual scope f cdv A outer s H E p) body t ∧ t { nx := fun _ H' => Q .non H', rt := Q } (L2.start N vs) H) :
    FnW P w K mg base CX (k + 1) f (PySem.W.fnOf name qual params body scope dV kV doc pm an cdv ct) ps sp := by
  refine ⟨len, fun A outer s H args us vs Q E p cls d hz hfl hr hpin e0 hb r hsp => ?_⟩
  have hl := len _ _ _ _ _ _ _ hsp
  have KX : K.In s.heap := e0.mod.kin.keeps fun b o e => (e0.bs b o e).1
  have lim : s.heap.NoLimit := e0.mod.nolimit.keeps fun b o e => (e0.bs b o e).1
  have hkind : ∀ y ∈ ps.zip us, scope.names.lookup y.1 = some .local ∨ (scope.names.lookup y.1 = some .cell ∧ ((cellsFrom (s.heap.objs.size + 1) scope.names []).lookup y.1).isSome = true) := fun ⟨n, v⟩ hy => by
    rcases S.par n (List.of_mem_zip hy).1 with q | q
    · exact .inl q
    · exact .inr ⟨q, PySem.W.cellsFrom_some _ _ _ (.inl q)⟩
  refine codeAny_call_function hr.depth (KX _ _ lk) rfl S.co S.gen rfl (PySem.W.codeRec_of KX hcd) (hb _ _ _ _ ?_)
  refine wpAny_newFunctionEnv_cells S.kind hkind fun env he s1 x => ?_
  subst he
  refine ⟨lim.keeps x.toInCall.keep, codeAny_func ?_⟩
  obtain ⟨t, ht, hq⟩ := hbody A outer s H vs Q E p cls d hz hfl (hr.deeper _) hsp
  have I : Inv (L2H.cxH CX P w K mg base N qual scope f cdv A outer s H E p) [] (L2.start N vs) H s1 := L2H.inv_startH S hpin e0 hl r x
  refine wpAny_mono (ht.run [] s1 (L2.start N vs) H _ I hq) (fun fl s' hs => ?_) fun e s' hs => hs
  have fin : ∀ {σ' : St} {H' : Hp} {v : V} {u : Value}, Inv (L2H.cxH CX P w K mg base N qual scope f cdv A outer s H E p) [] σ' H' s' → RelV v u → Q v H' → CE outer P w H s Q u s' :=
    fun {σ' H' v u} J rv q => ⟨v, H', J.os, J.bare, J.base, J.hok, rv, q⟩
  cases fl with
  | ret u =>
    obtain ⟨v, σ', H', J, rv, q⟩ := hs
    exact fin J rv q
  | next =>
    obtain ⟨σ', H', J, q⟩ := hs
    exact fin (v := V.non) (u := Value.none) J rfl q
  | brk =>
    obtain ⟨_, _, _, q⟩ := hs
    exact False.elim q
  | cont =>
    obtain ⟨_, _, _, q⟩ := hs
    exact False.elim q
section
variable {X : Cx} {CX : CXT} {k : Nat} {f : Addr} {fd : FuncData} {ps : List Str} {sp : SpW} {E : XK} {x : Str} {q pos : Pos} {e : Expr} {es : List Expr} {t : TA}
theorem pe_callW {p : Addr × Obj} {cls : Value} {d : Option Addr} (F : FnW X.prog X.w X.K X.mg X.base CX k f fd ps sp) (hr : L2H.RoomH k X.A) (hp : p ∈ X.pn) (hz : Zc cls d p.2) (hfl : ∃ vs, p.2.data = .fields vs) (hg : Gl X x) (hm : X.mg x = some (.ref f)) (hk : PySem.W.keepIn X.K (.ref f) = true) (hb : Binds X.K fd ps []) (hx : Passes CX X E)
    (ha : PA X (e :: es) t) (hdb : (x == ("__debug__" : Str)) = false := by decide) (he : starEach (e :: es) X.env = (false, eval e X.env) :: starEach es X.env := by rfl) (hpl : (backTo pos (starEach es X.env)).any (·.1) = false := by rfl) :
    PE X (.Call (.Name x q) (e :: es) [] pos) (fun σ H Q => t σ H fun vs H1 => sp p.1 cls d vs H1 Q E) := by
  refine ⟨fun pins s σ H Q I h => ?_⟩
  refine wpAny_Call_Name_kw (ld_glob I hg hm ?_ hdb)
  refine PySem.W.callWith_K (h₀ := X.base) I.ok.mod.kin hk (thn (ha.run pos pins s σ H _ I h) fun us s1 ⟨vs, H1, I1, r, q⟩ => ⟨I1.kIn, ?_⟩) he hpl
  have hl : us.length = ps.length := by rw [← r.length]; exact F.len _ _ _ _ _ _ _ q
  have b := hb s1 us I1.kIn (by rw [List.append_nil]; exact hl)
  rw [List.append_nil] at b
  have P1 := I1.pin p (List.mem_append_left _ hp)
  have hpin : L2H.PinOk X.stack H1 s1 p := ⟨P1.1, P1.2.1, fun hm => (List.mem_cons.mp (I1.stkSub p.1 hm)).elim P1.2.2.1 P1.2.2.2.1, P1.2.2.2.2⟩
  refine wpAny_call (codeAny_mono (F.run X.A X.stack s1 H1 ⟨us, []⟩ us vs Q E p cls d hz hfl hr hpin I1.env0 b r q) fun r s' hq => ?_)
  cases r with
  | error e => exact hx pins σ H1 s1 e s' I1 hq
  | ok fl =>
    cases fl with
    | ret u => exact I1.after hq
    | next => exact False.elim hq
    | brk => exact False.elim hq
    | cont => exact False.elim hq
end
/-! ### as data -/
abbrev TDW := XD → (D → Prop) → Prop
def spW (K : PySem.W.Frag) (names : List Str) (tf : TDW) : SpW := fun a cls d vs H Q _ => vs = [.ref a] ∧ ∃ (z : Bz) (M : MS) (x : XD) (Qd : D → Prop), Amb z M H ∧ XZ K names cls d x z M H ∧ tf x Qd ∧ ∀ d v H', Qd d → Ext z H H' → BagOk z H' → Rp z M H' v d → Q v H'
/-- the state at such a def's start -/
def ghW (z : Bz) (M : MS) (H : Hp) (S : SS) : Gh := ⟨z, M, H, H, M, fun _ => none, S⟩
theorem sttW {z : Bz} {M : MS} {H : Hp} {a : Addr} {p : Bz → MS → Hp → Prop} {m : Nat} (A : Amb z M H) (hp : p z M H) : Stt (ghW z M H (.val (.raw (.ref a)) :: (List.replicate m .no ++ [.zz p]))) (some (.ref a) :: List.replicate (m + 1) none) H := by
  have hM : (ghW z M H (.val (.raw (.ref a)) :: (List.replicate m .no ++ [.zz p]))).M = M := mo_none A.res
  have mem : ∀ {i : Nat} {s : Sl}, (List.replicate m Sl.no ++ [.zz p])[i]? = some s → s = .no ∨ s = .zz p := fun {i s} e => by
    have h := List.mem_of_getElem? e
    simp at h
    rcases h with ⟨_, h⟩ | h
    · exact .inl h
    · exact .inr h
  refine ⟨by simp [ghW], fun i d e => ?_, fun i d e => ?_, (fun i j a e => nomatch e), (fun i a e => nomatch e), fun a h => ?_, Ext.refl, A.bag, Ext.refl, fun _ h => h, fun a h => (A.alive a h).ne, fun i E Ed e => ?_, fun i q e => ?_, fun _ h => .inl h⟩
  · match i, e with
    | 0, e => cases e; exact ⟨_, rfl, .raw _⟩
    | i + 1, e => rcases mem (show (List.replicate m Sl.no ++ [.zz p])[i]? = _ from e) with h | h <;> cases h
  · match i, e with
    | 0, e => cases e
    | i + 1, e => rcases mem (show (List.replicate m Sl.no ++ [.zz p])[i]? = _ from e) with h | h <;> cases h
  · rw [hM] at h; exact A.alive a h
  · match i, e with
    | 0, e => cases e
    | i + 1, e => rcases mem (show (List.replicate m Sl.no ++ [.zz p])[i]? = _ from e) with h | h <;> cases h
  · match i, e with
    | 0, e => cases e
    | i + 1, e => rcases mem (show (List.replicate m Sl.no ++ [.zz p])[i]? = _ from e) with h | h <;> cases h; exact hp
end L2.DL


set_option Elab.async false
set_option linter.all false
set_option maxRecDepth 100000
set_option maxHeartbeats 4000000
namespace L2.DL
open PySem PySem.Spec PyProof.Rows
/-! ### a def called with a caught exception, by its body -/
theorem ok_W {P : Program} {w : World} {K : PySem.W.Frag} {mg : Str → Option Value} {base : Heap} {x qual : Str} {st : Stmt} {f : Addr} {fd : FuncData} {N ps names : List Str} {k m : Nat} {tf : TDW} {dfv : List V} {kwv : List (Str × V)} (F : FunD K x qual (defArgs st) (defBody st) (defScope st) dfv kwv f fd) (S : FnScope N ps (defScope st)) (hn : ps.length = 1 := by rfl) (hN : N.length = m + 2 := by rfl)
    (hb : ∀ (cdv : Value) (A : Around) (outer : List Env) (s : Shared) (H : Hp) (E : XK) (p : Addr × Obj) (cls : Value) (d : Option Addr), Zc cls d p.2 → (∃ vs, p.2.data = .fields vs) → L2H.RoomH k (A.deeper (envOfC qual (defScope st) s.heap.objs.size f cdv)) → ∃ t : TDS, PSs (L2H.cxH CX0 P w K mg base N qual (defScope st) f cdv A outer s H E p) (defBody st) (lS t) ∧
      ∀ x Qd, tf x Qd → t { nx := fun _ => Qd .non, rt := Qd, rf := fun _ => False } (.val (.raw (.ref p.1)) :: (List.replicate m .no ++ [.zz (XZ K names cls d x)]))) : FnW P w K mg base CX0 (k + 1) f fd ps (spW K names tf) := by
  obtain ⟨oc, od, dV, kV, doc, pm, an, cdv, ct, osl, rfl, lk, hcd, _, _⟩ := F.ex
  refine fn_ofW lk hcd S (fun a cls d vs H Q E h => ?_) fun A outer s H vs Q E p cls d hz hfl hr h => ?_
  · rw [hn, h.1]; rfl
  · obtain ⟨rfl, z, M, x, Qd, Am, hx, t, kk⟩ := h
    obtain ⟨tt, hp, hw⟩ := hb cdv A outer s H E p cls d hz hfl hr
    have hM : Mo M z (fun _ => none) = M := mo_none Am.res
    refine ⟨_, hp, ghW z M H (.val (.raw (.ref p.1)) :: (List.replicate m .no ++ [.zz (XZ K names cls d x)])), { nx := fun _ => Qd .non, rt := Qd, rf := fun _ => False }, ?_, (show tt _ (ghW z M H (.val (.raw (.ref p.1)) :: (List.replicate m .no ++ [.zz (XZ K names cls d x)]))).S from hw x Qd t), ?_⟩
    · have e : L2.start N [V.ref p.1] = some (.ref p.1) :: List.replicate (m + 1) none := by
        rw [start_eq, hN]; rfl
      rw [e]
      exact sttW Am hx
    · refine ⟨fun ow S σ H' s' q => kk .non .non H' q s'.keep s'.bag .non, fun _ _ _ _ _ q => q.elim, fun _ _ _ _ _ q => q.elim, fun d v H' q x b rp => kk d v H' q x b ?_, fun d a H' q x b hn nm o => q.elim⟩
      have rp' : Rp z (Mo M z fun _ => none) H' v d := rp
      rw [hM] at rp'; exact rp'
theorem XZ.at {g : Gh} {σ : St} {H : Hp} {j : Nat} {K : PySem.W.Frag} {names : List Str} {cls : Value} {d : Option Addr} {x : XD} (s : Stt g σ H) (e : g.S[j]? = some (.zz (XZ K names cls d x))) : XZ K names cls d x g.z g.M H := by
  obtain ⟨hr, ec, ⟨dd, ed, nb, fs, x1, x2, x3⟩, T⟩ := s.ex.ez j _ e
  exact ⟨fun b h => res_M h, ec, ⟨dd, ed, nb, fs, s.keep dd _ (s.ex.e0 dd _ x1 nb) nb, x2, x3.tr (s.trX hr)⟩, T⟩
section
variable {X : Cx} {k i j : Nat} {f : Addr} {fd : FuncData} {ps names : List Str} {x : Str} {q pos : Pos} {e : Expr} {tf : TDW}
def dCallW (K : PySem.W.Frag) (names : List Str) (i j : Nat) (a : Addr) (cls : Value) (d : Option Addr) (tf : TDW) : TDE := fun S Q => S[i]? = some (.val (.raw (.ref a))) ∧ ∃ x, S[j]? = some (.zz (XZ K names cls d x)) ∧ tf x Q
theorem de_callW {a : Addr} {oe : Obj} {cls : Value} {d : Option Addr} (F : FnW X.prog X.w X.K X.mg X.base CX0 k f fd ps (spW X.K names tf)) (hr : L2H.RoomH k X.A) (hp : (a, oe) ∈ X.pn) (hz : Zc cls d oe) (hfl : ∃ vs, oe.data = .fields vs) (hm : X.mg x = some (.ref f)) (hk : PySem.W.keepIn X.K (.ref f) = true) (hb : Binds X.K fd ps [])
    (he : PE X e (tVar i)) (hg : Gl X x := by rfl) (hdb : (x == ("__debug__" : Str)) = false := by decide) (hst : starEach [e] X.env = (false, eval e X.env) :: starEach [] X.env := by rfl) (hpl : (backTo pos (starEach [] X.env)).any (·.1) = false := by rfl) :
    PE X (.Call (.Name x q) [e] [] pos) (lE (dCallW X.K names i j a cls d tf)) :=
  PE.imp (pe_callW (p := (a, oe)) (E := E0) F hr hp hz hfl hg hm hk hb pass0 (pa_cons he pa_nil hst) hdb hst hpl) fun σ H Q ⟨g, Qd, s, ⟨w1, xd, w2, w3⟩, kk⟩ => by
    obtain ⟨u0, hu0, r0⟩ := s.val i _ w1
    cases r0
    exact ⟨_, hu0, rfl, g.z, g.M, xd, Qd, s.amb, XZ.at s w2, w3, fun d v H' q x b rp => kk d v H' q x (s.ext x b) rp⟩
end
/-! ### defs that get lambdas -/
section
variable (P : Program) (w : World) (K : PySem.W.Frag) (mg : Str → Option Value) (base : Heap) (kp : Nat)
def spSE (n : Nat) (tf : TCl → TDF) : Sp := fun vs H Q _ => vs.length = n ∧ ∃ (z : Bz) (M : MS) (ds : List D) (Qd : D → Prop) (T : TCl), Amb z M H ∧ RpL z M H vs ds ∧ PowD P w K mg base kp z M H T ∧ tf T ds Qd ∧ ∀ d v H', Qd d → Ext z H H' → BagOk z H' → Rp z M H' v d → Q v H'
def spSF (n : Nat) (tf : TCl → TDF) : Sp := fun vs H Q _ => vs.length = n ∧ ∃ (z : Bz) (M : MS) (ds : List D) (Qd : D → Prop) (T : TCl), Amb z M H ∧ RpL z M H vs ds ∧ PowD P w K mg base kp z M H T ∧ tf T ds Qd ∧ ∀ d a H', Qd d → Ext z H H' → BagOk z H' → H a = none → ¬ M a → OwF z M H' a d → Q (.ref a) H'
/-- the fact of the slot that tells of the lambdas' calls -/
def PZ (T : TCl) : Bz → MS → Hp → Prop := fun z M0 H0 => (∀ a, resB z a → M0 a) ∧ PowD P w K mg base kp z M0 H0 T
end
theorem Stt.setZz {g : Gh} {σ : St} {H : Hp} {i : Nat} {p : Bz → MS → Hp → Prop} (s : Stt g σ H) (hp : p g.z g.XM g.X0) : Stt { g with S := g.S.set i (.zz p) } σ H where
  len := by simpa using s.len
  val := fun j d e => by
    have e' : (g.S.set i (.zz p))[j]? = some (.val d) := e
    rw [List.getElem?_set] at e'
    by_cases hij : i = j
    · subst hij
      rw [if_pos rfl] at e'
      split at e' <;> cases e'
    · rw [if_neg hij] at e'
      exact s.val j d e'
  own := fun j d e => by
    have e' : (g.S.set i (.zz p))[j]? = some (.own d) := e
    rw [List.getElem?_set] at e'
    by_cases hij : i = j
    · subst hij
      rw [if_pos rfl] at e'
      split at e' <;> cases e'
    · rw [if_neg hij] at e'
      exact s.own j d e'
  inj := s.inj
  new := s.new
  alive := s.alive
  keep := s.keep
  bag := s.bag
  ex := ⟨s.ex.e0, s.ex.em, s.ex.ea, fun j E Ed e => s.ex.el j E Ed (ex_set e fun _ _ q => by cases q), fun j p' e => by
    have e' : (g.S.set i (.zz p))[j]? = some (.zz p') := e
    rw [List.getElem?_set] at e'
    by_cases hij : i = j
    · subst hij
      rw [if_pos rfl] at e'
      split at e' <;> cases e'
      exact hp
    · rw [if_neg hij] at e'
      exact s.ex.ez j p' e', s.ex.en⟩
/-- the power at a later state of the def that got it -/
theorem PZ.at {g : Gh} {σ : St} {H : Hp} {P : Program} {w : World} {K : PySem.W.Frag} {mg : Str → Option Value} {base : Heap} {kp j : Nat} {T : TCl} (st : Stt g σ H) (e : g.S[j]? = some (.zz (PZ P w K mg base kp T))) : PowD P w K mg base kp g.z g.M H T := by
  obtain ⟨hr, p⟩ := st.ex.ez j _ e
  exact p.later (st.ex.e0.trans st.keep) (fun a h => .inl (st.ex.em a h)) (fun a h => st.mX h) fun a h => .inr (st.x0 h)
section
variable {X : Cx} {k kp n j : Nat} {f : Addr} {fd : FuncData} {ps : List Str} {x : Str} {q pos : Pos} {e : Expr} {es : List Expr} {ts : TDA} {tf : TCl → TDF}
def dCallSP (j : Nat) (pz : TCl → Bz → MS → Hp → Prop) (n : Nat) (tf : TCl → TDF) (ts : TDA) : TDE := fun S Q => ts S fun ds => ds.length = n ∧ ∃ T, S[j]? = some (.zz (pz T)) ∧ tf T ds Q
/-- a def that got lambdas hands them on -/
theorem de_callSP {pz : TCl → Bz → MS → Hp → Prop} (F : FnOk X.prog X.w X.K X.mg X.base CX0 k f fd ps (spSE X.prog X.w X.K X.mg X.base kp n tf)) (hr : Room k X.A) (hm : X.mg x = some (.ref f)) (hk : PySem.W.keepIn X.K (.ref f) = true) (hb : Binds X.K fd ps []) (ha : PA X (e :: es) (lA ts)) (hg : Gl X x := by rfl)
    (hdb : (x == ("__debug__" : Str)) = false := by decide) (he : starEach (e :: es) X.env = (false, eval e X.env) :: starEach es X.env := by rfl) (hpl : (backTo pos (starEach es X.env)).any (·.1) = false := by rfl)
    (hpz : pz = PZ X.prog X.w X.K X.mg X.base kp := by rfl) : PE X (.Call (.Name x q) (e :: es) [] pos) (lE (dCallSP j pz n tf ts)) := hpz ▸
  PE.imp (pe_call F hr hg hm hk hb .nil pass0 ha hdb he hpl) fun σ H Q ⟨g, Qd, s, w, kk⟩ => ⟨g, _, s, w, fun ds vs H1 w1 x1 s1 r1 => by
    obtain ⟨hl, T, ej, w2⟩ := w1
    rw [List.append_nil]
    exact ⟨by rw [r1.length]; exact hl, g.z, g.M, ds, Qd, T, s1.amb, r1, PZ.at s1 ej, w2, fun d v H' q x b rp => kk d v H' q (x1.trans x) (s1.ext x b) rp⟩⟩
end
/-- such a def by its body -/
theorem ok_SF {P : Program} {w : World} {K : PySem.W.Frag} {mg : Str → Option Value} {base : Heap} {x qual : Str} {st : Stmt} {f : Addr} {fd : FuncData} {N ps : List Str} {k kp n m : Nat} {tf : TCl → TDF} {dfv : List V} {kwv : List (Str × V)} (F : FunD K x qual (defArgs st) (defBody st) (defScope st) dfv kwv f fd) (S : FnScope N ps (defScope st)) (hn : ps.length = n := by rfl) (hN : N.length = n + (m + 1) := by rfl)
    (hb : ∀ (cdv : Value) (A : Around) (outer : List Env) (s : Shared) (H : Hp) (E : XK), Room k (A.deeper (envOfC qual (defScope st) s.heap.objs.size f cdv)) → ∃ t : TDS, PSs (cxOf CX0 P w K mg base N qual (defScope st) f cdv A outer s H E).nox (defBody st) (lS t) ∧
      ∀ T ds Qd, ds.length = n → tf T ds Qd → t { nx := fun _ => False, rt := fun _ => False, rf := Qd } (ds.map .val ++ (List.replicate m Sl.no ++ [.zz (PZ P w K mg base kp T)]))) : FnOk P w K mg base CX0 (k + 1) f fd ps (spSF P w K mg base kp n tf) := by
  refine F.ok S (fun vs H Q E h => ?_) (fun cdv A outer s H vs Q E hr h => ?_)
  · rw [hn]; exact h.1
  · obtain ⟨hl, z, M, ds, Qd, T, Am, r, pw, t, k⟩ := h
    obtain ⟨tt, hp, hw⟩ := hb cdv A outer s H E hr
    have hM : Mo M z (fun _ => none) = M := mo_none Am.res
    have hd : ds.length = n := by rw [← r.length]; exact hl
    have s0 := (stt0 (N := N) Am r).setZz (i := n + m) (p := PZ P w K mg base kp T) ⟨Am.res, pw⟩
    refine ⟨_, PSs.nox hp, _, { nx := fun _ => False, rt := fun _ => False, rf := Qd }, s0, ?_, ?_⟩
    · have := hw T ds Qd hd t
      show tt _ ((ds.map Sl.val ++ List.replicate (N.length - ds.length) Sl.no).set (n + m) (.zz (PZ P w K mg base kp T)))
      rw [hN, hd, Nat.add_sub_cancel_left, set_last hd]
      exact this
    · refine ⟨fun ow S σ H' s' q => q.elim, fun _ _ _ _ _ q => q.elim, fun _ _ _ _ _ q => q.elim, fun d v H' q x b rp => q.elim, fun d a H' q x b hn nm o => k d a H' q x b hn ?_ ?_⟩
      · have nm' : ¬ Mo M z (fun _ => none) a := nm
        rw [hM] at nm'; exact nm'
      · have o' : OwF z (Mo M z fun _ => none) H' a d := o
        rw [hM] at o'; exact o'
end L2.DL


set_option Elab.async false
set_option linter.all false
set_option maxRecDepth 100000
set_option maxHeartbeats 4000000
namespace L2.DL
open PySem PySem.Spec PyProof.Rows
/-! ### cells of a frame, tracked while others run -/
/-- an object that stays as it is -/
def StandO (c : Addr) (oc : Obj) : HO := .frz oc (.own c)
open Classical in
noncomputable def plusC (cf : Addr → Option Obj) (H : Hp) : Hp := fun b => match cf b with | some oc => some (StandO b oc) | none => H b
def lessC (cf : Addr → Option Obj) (H : Hp) : Hp := fun b => match cf b with | some _ => none | none => H b
section
variable {cf : Addr → Option Obj} {H HZ : Hp} {b c : Addr} {oc : Obj} {o : HO} {P : Program} {w : World} {h : Heap}
theorem plus_at (e : cf b = some oc) : plusC cf H b = some (StandO b oc) := by unfold plusC; rw [e]
theorem plus_off (e : cf b = none) : plusC cf H b = H b := by unfold plusC; rw [e]
theorem less_at (e : cf b = some oc) : lessC cf H b = none := by unfold lessC; rw [e]
theorem less_off (e : cf b = none) : lessC cf H b = H b := by unfold lessC; rw [e]
theorem less_none (e : H b = none) : lessC cf H b = none := by unfold lessC; split <;> first | rfl | exact e
theorem off_of (n : ∀ c oc, cf c = some oc → H c = none) (e : H b = some o) : cf b = none := by
  cases q : cf b with
  | none => rfl
  | some oc => rw [n b oc q] at e; cases e
theorem plus_some (n : ∀ c oc, cf c = some oc → H c = none) (e : H b = some o) : plusC cf H b = some o := by rw [plus_off (off_of n e)]; exact e
theorem off_st (n : ∀ c oc, cf c = some oc → H c = some (StandO c oc)) (e : H b = some o) (ho : ∀ oc, o ≠ StandO b oc) : cf b = none := by
  cases q : cf b with
  | none => rfl
  | some oc =>
    rw [n b oc q] at e
    exact absurd (Option.some.inj e).symm (ho oc)
theorem less_some (n : ∀ c oc, cf c = some oc → H c = some (StandO c oc)) (e : H b = some o) (ho : ∀ oc, o ≠ StandO b oc) : lessC cf H b = some o := by rw [less_off (off_st n e ho)]; exact e
theorem hok_plus (x : HOk P w H h) (n : ∀ c oc, cf c = some oc → h.get? c = some oc ∧ H c = none) : HOk P w (plusC cf H) h := fun a o e => by
  cases q : cf a with
  | none =>
    rw [plus_off q] at e
    exact (x a o e).stay (fun b u _ q => q) (fun b q => plus_some (fun c oc e => (n c oc e).2) q) fun b xs q => plus_some (fun c oc e => (n c oc e).2) q
  | some oc =>
    rw [plus_at q] at e
    cases e
    exact ⟨(n a oc q).1, _, (n a oc q).1⟩
theorem hok_less (x : HOk P w H h) (n : ∀ c oc, cf c = some oc → H c = some (StandO c oc)) : HOk P w (lessC cf H) h := fun a o e => by
  cases q : cf a with
  | none =>
    rw [less_off q] at e
    exact (x a o e).stay (fun b u _ q => q) (fun b q => less_some n q fun _ z => by cases z) fun b xs q => less_some n q fun _ z => by cases z
  | some oc =>
    rw [less_at q] at e
    cases e
theorem bag_less {z : Bz} (bg : BagOk z H) (n : ∀ c oc, cf c = some oc → H c = some (StandO c oc)) : BagOk z (lessC cf H) where
  bg := fun a l e => by
    obtain ⟨ne, ns, at_, big, seed, cnt, e1, e2, r⟩ := bg.bg a l e
    exact ⟨ne, ns, at_, big, seed, cnt, less_some n e1 (fun _ z => by cases z), less_some n e2 (fun _ z => by cases z), r⟩
  tb := fun P e => by
    obtain ⟨ps, h1, h2, h3⟩ := bg.tb P e
    refine ⟨ps, less_some n h1 (fun _ z => by cases z), h2, fun pos cv hc => ?_⟩
    obtain ⟨c, e1, e2⟩ := h3 pos cv hc
    exact ⟨c, e1, less_some n e2 fun _ z => by unfold CodeO StandO at z; cases z⟩
  ap := bg.ap
/-- what runs with the cells untracked runs with them tracked -/
theorem run_less {K : PySem.W.Frag} {mg : Str → Option Value} {base : Heap} {A : Around} {outer : List Env} {s1 : Shared} {f : Value} {args : Args} {Q : VK} {E : XK} (hcf : ∀ c oc, cf c = some oc → HZ c = some (StandO c oc)) (e0 : Env0 P w K mg base A outer s1 HZ)
    (run : Env0 P w K mg base A outer s1 (lessC cf HZ) → codeAny (model P w) A (.call f args) (CR (L2.CX P w) outer P w (lessC cf HZ) s1 (fun v H' => (∀ c oc, cf c = some oc → H' c = none) → Q v (plusC cf H')) (fun cls d H' => (∀ c oc, cf c = some oc → H' c = none) → E cls d (plusC cf H'))) s1) :
    codeAny (model P w) A (.call f args) (CR (L2.CX P w) outer P w HZ s1 Q E) s1 := by
  have getC : ∀ c oc, cf c = some oc → s1.heap.get? c = some oc := fun c oc e => (e0.hok c _ (hcf c oc e)).1
  have nfr : ∀ c oc, cf c = some oc → c ∉ frs outer := fun c oc e hm => by
    have h1 := e0.frf c hm
    rw [hcf c oc e] at h1
    cases h1
  have e0' : Env0 P w K mg base A outer s1 (lessC cf HZ) := ⟨e0.frames, e0.mod, fun b o e => ⟨(e0.bs b o e).1, less_none (e0.bs b o e).2⟩, e0.bsz, e0.funs, fun b hb => less_none (e0.frf b hb), hok_less e0.hok hcf, e0.bare⟩
  refine codeAny_mono (run e0') fun r s' hq => ?_
  cases r with
  | ok fl =>
    cases fl with
    | ret u =>
      obtain ⟨v, H', os, bare, un, hok, rv, q⟩ := hq
      have nC : ∀ c oc, cf c = some oc → H' c = none := fun c oc e => un.free c oc (getC c oc e) (less_at e) (by simp)
      have gC : ∀ c oc, cf c = some oc → s'.heap.get? c = some oc := fun c oc e => un.keep c oc (getC c oc e) (less_at e) (nfr c oc e) (by simp)
      refine ⟨v, plusC cf H', os, bare, ⟨fun b o e n hb hx => un.keep b o e (less_none n) hb hx, fun b o e n hb hx => un.slot b o e (less_none n) hb hx, fun b o e n hx => ?_, fun b o e hx => un.there b o e hx, fun b xs e => ?_, fun b o u e => ?_, fun b ps e => ?_⟩, hok_plus hok fun c oc e => ⟨gC c oc e, nC c oc e⟩, rv, q nC⟩
      · cases q : cf b with
        | none => rw [plus_off q]; exact un.free b o e (less_none n) hx
        | some oc => rw [hcf b oc q] at n; cases n
      · exact plus_some nC (un.tups b xs (less_some hcf e fun _ z => by cases z))
      · cases q : cf b with
        | none => rw [plus_off q]; exact un.frzs b o u (by rw [less_off q]; exact e)
        | some oc =>
          rw [plus_at q]
          rw [hcf b oc q] at e
          exact e
      · obtain ⟨more, e'⟩ := un.tbls b ps (less_some hcf e fun _ z => by cases z)
        exact ⟨more, plus_some nC e'⟩
    | next => exact False.elim hq
    | brk => exact False.elim hq
    | cont => exact False.elim hq
  | error e =>
    obtain ⟨a, B, H', cls, d, rfl, fl, hok, ub, na, os, ag, hE⟩ := (show L2.CX P w outer (lessC cf HZ) s1 _ e s' from hq)
    have nC : ∀ c oc, cf c = some oc → H' c = none := fun c oc e => ub.free c oc (getC c oc e) (less_at e)
    have gC : ∀ c oc, cf c = some oc → B.get? c = some oc := fun c oc e => ub.keep c oc (getC c oc e) (less_at e) (nfr c oc e)
    refine (show L2.CX P w outer HZ s1 E (.ref a) s' from ⟨a, B, plusC cf H', cls, d, rfl, fl, hok_plus hok fun c oc e => ⟨gC c oc e, nC c oc e⟩, ⟨fun b o e n hb => ub.keep b o e (less_none n) hb, ub.slot, fun b o e n => ?_, ub.there, fun b xs e => ?_, fun b o u e => ?_, fun b ps e => ?_⟩, ?_, os, ag, hE nC⟩)
    · cases q : cf b with
      | none => rw [plus_off q]; exact ub.free b o e (less_none n)
      | some oc => rw [hcf b oc q] at n; cases n
    · exact plus_some nC (ub.tups b xs (less_some hcf e fun _ z => by cases z))
    · cases q : cf b with
      | none => rw [plus_off q]; exact ub.frzs b o u (by rw [less_off q]; exact e)
      | some oc =>
        rw [plus_at q]
        rw [hcf b oc q] at e
        exact e
    · obtain ⟨more, e'⟩ := ub.tbls b ps (less_some hcf e fun _ z => by cases z)
      exact ⟨more, plus_some nC e'⟩
    · cases q : cf a with
      | none => rw [plus_off q]; exact na
      | some oc =>
        have h1 := gC a oc q
        rw [fl.2.1] at h1
        cases h1
end
end L2.DL


set_option Elab.async false
set_option linter.all false
set_option maxRecDepth 100000
set_option maxHeartbeats 4000000
namespace L2.DL
open PySem PySem.Spec PyProof.Rows
/-! ### the lambdas of a def, from a state of it on -/
open Classical in
/-- the cells of the def -/
noncomputable def cellF (X : Cx) (s : Shared) : Addr → Option Obj := fun b => if ∃ x, X.env.cells.lookup x = some b then s.heap.get? b else none
section
variable {X : Cx} {pins : List (Addr × Obj)} {σ : St} {H : Hp} {s : Shared}
theorem cellF_some {b : Addr} {oc : Obj} (e : cellF X s b = some oc) : (∃ x, X.env.cells.lookup x = some b) ∧ s.heap.get? b = some oc := by
  unfold cellF at e
  split at e
  · rename_i h
    exact ⟨h, e⟩
  · cases e
theorem cellF_none (I : Inv X pins σ H s) : ∀ c oc, cellF X s c = some oc → H c = none := fun c oc e => by
  obtain ⟨⟨x, h⟩, _⟩ := cellF_some e
  exact I.freeC x c h
theorem lam_start4 {A : Around} {outer : List Env} {E : XK} {scope : Scope} {f c' : Addr} {h₁ : Heap} {tk : Nat} {m1 : Str → Option Value} {s1 : Shared} {HZ : Hp} (I : Inv X pins σ H s) (L : LamS3 X.N X.env.scope scope) (e0 : Env0 X.prog X.w X.K X.mg X.base A outer s1 HZ) (hd : A.handled = none)
    (hk : ∀ c oc, cellF X s c = some oc → s1.heap.get? c = some oc ∧ HZ c = none) (hns : h₁.Ns s1.heap.objs.size m1) (kp : ∀ b o, s1.heap.get? b = some o → h₁.get? b = some o) :
    Inv (LamX.lamCx X A outer s1 HZ E scope f c') [] σ HZ { s1 with heap := h₁, toks := tk } := by
  have hfree := L.has I.ok
  have cm : ∀ {y c}, (cloFrom X.env.cells scope.names []).lookup y = some c → X.env.cells.lookup y = some c := fun {y c} e => by
    rcases cloFrom_mem (PySem.mem_of_lookup e) with hm | ⟨h1, h2⟩
    · cases hm
    · obtain ⟨c1, hc⟩ := hfree _ h1 rfl
      have hc : X.env.cells.lookup y = some c1 := hc
      have e2 : c = c1 := by
        rw [h2, hc] <;> rfl
      rw [e2]
      exact hc
  have look : ∀ {y}, scope.names.lookup y = some .free → ∃ c, (cloFrom X.env.cells scope.names []).lookup y = some c := fun {y} hl => by
    have hy : (y, NameKind.free) ∈ scope.names := PySem.mem_of_lookup hl
    exact mem_lookup (cloFrom_has (cells := X.env.cells) (acc := []) hy)
  have cellE : ∀ {y : Str} {c : Addr} {o : Obj}, X.env.cells.lookup y = some c → s.heap.get? c = some o → cellF X s c = some o := fun {y c o} e ho => by
    unfold cellF
    rw [if_pos ⟨y, e⟩]
    exact ho
  have cellK : ∀ {y : Str} {c : Addr} {v : Option Value}, X.env.cells.lookup y = some c → s.heap.IsCell c v → h₁.IsCell c v := fun {y c v} e ⟨o, ho, hd⟩ => ⟨o, kp _ _ (hk c o (cellE e ho)).1, hd⟩
  have noA : ∀ b : Addr, b ∉ (LamX.lamCx X A outer s1 HZ E scope f c').ex := fun b z => absurd (show b ∈ ([] : List Addr) from z) (by simp)
  refine ⟨⟨e0.mod, L.kind, rfl, rfl, Nat.le_refl _, fun y z c e1 e2 => I.ok.inj y z c (cm e1) (cm e2), fun y hy => ?_, fun y c z _ => ?_, fun _ => hd, Around.frames_deeper e0.frames, .inr ⟨rfl, rfl⟩, fun b z => absurd z (noA b), e0.bs, e0.bsz, fun b _ _ => noA b,
      fun b z => absurd z (noA b), e0.funs, e0.frf⟩,
    rfl, e0.bare, Un.kept kp, ⟨_, hns, fun i y v e1 e2 e3 => ?_⟩, fun y c e => ?_, e0.hok.fresh (Nat.le_refl _), fun y c e => ?_, fun q hq => absurd (show q ∈ ([] : List (Addr × Obj)) ++ [] from hq) (by simp), e0.hok.kept kp, I.len⟩
  · have hy : scope.names.lookup y = some .cell ∨ scope.names.lookup y = some .free := hy
    rcases hy with hy | hy
    · exact absurd rfl (L.own _ (PySem.mem_of_lookup hy))
    · exact look hy
  · have z : false = true := z
    cases z
  · have e3 : Vis scope y := e3
    rcases e3 with k | k | k
    · exact absurd (List.mem_of_getElem? e1) (L.loc _ (PySem.mem_of_lookup k) rfl)
    · exact absurd rfl (L.own _ (PySem.mem_of_lookup k))
    · obtain ⟨m, hn, hl⟩ := I.loc
      have hvis : Vis X.env.scope y := (L.free _ (PySem.mem_of_lookup k) rfl).elim (fun k => .inr (.inl k)) (fun k => .inr (.inr k))
      obtain ⟨w', r, q⟩ := hl i y v e1 e2 hvis
      obtain ⟨c2, h2⟩ := look k
      refine ⟨w', r, .inr ⟨.inr k, c2, h2, ?_⟩⟩
      have c1 := cm h2
      rcases q with ⟨k', _⟩ | ⟨_, c3, e', z⟩
      · have k' : X.env.scope.names.lookup y = some .local := k'
        rcases L.free _ (PySem.mem_of_lookup k) rfl with k2 | k2 <;> rw [show X.env.scope.names.lookup y = _ from k2] at k' <;> cases k'
      · rw [c1] at e'
        cases e'
        exact cellK c1 z
  · obtain ⟨w', z⟩ := I.cell y c (cm e)
    exact ⟨w', cellK (cm e) z⟩
  · obtain ⟨v, o, ho, hd⟩ := I.cell y c (cm e)
    exact (hk c o (cellE (cm e) ho)).2
variable {lam : List LamN} {P : Addr} {j jx k : Nat} {tb : Nat → XK → TDE}
theorem pow_law {g : Gh} (I : Inv X pins σ H s) (st : Stt g σ H) (ej : g.S[j]? = some (.zz (LZ lam P X.env.cells X.env.qual)))
    (hb : ∀ i nd, lam[i]? = some nd → LamS3 X.N X.env.scope nd.scope ∧ LamB nd ∧ ∀ (A : Around) (outer : List Env) (s : Shared) (H : Hp) (E : XK) (f c' : Addr), Room k (A.deeper (LamX.lamEnv X nd.scope s.heap.objs.size f c')) → PE (LamX.lamCx X A outer s H E nd.scope f c') nd.body (lE (tb i E))) :
    PowD X.prog X.w X.K X.mg X.base (k + 1) g.z (fun a => g.M a ∨ cellF X s a ≠ none) (plusC (cellF X s) H) (fun i Qd Ed => ∀ E, tb i E (lamS g.S jx E Ed) Qd) := by
  intro i f A outer s1 HZ MZ Q E Qd Ed hr e0 x am h1 h2 hc t kq ke
  have cn := cellF_none I
  have hcf : ∀ c oc, cellF X s c = some oc → HZ c = some (StandO c oc) := fun c oc e => x c _ (plus_at e) fun q => by
    have := (st.alive c (res_M q.res)).ne
    exact this (cn c oc e)
  refine run_less hcf e0 fun e0' => ?_
  obtain ⟨nd, c', dv, doc, pm, ctv, e, hdn, hf, hco, hdv, nM, nC⟩ := hc.ex
  obtain ⟨z1, z2, z3, z4⟩ := st.ex.ez j _ ej
  rw [z1] at e
  obtain ⟨L, B, hbody⟩ := hb i nd e
  rw [z3, z4] at hf
  rw [z4] at hco
  have of1 := (e0.hok f _ hf).1
  obtain ⟨⟨oc, vs, tq, hoc, hdc, hvc⟩, _, _⟩ := e0.hok c' _ hco
  have lim : s1.heap.NoLimit := e0.mod.nolimit.keeps fun b o e => (e0.bs b o e).1
  obtain ⟨binds, hbd, hloc⟩ := B (X.env.qual ++ "<lambda>") (cloFrom X.env.cells nd.scope.names []) dv doc pm (.ref c') ctv s1 (by
    rcases hdv with hv | ⟨T, n, hv, hT, nT⟩
    · exact .inl ⟨hv, hdn.mp hv⟩
    · obtain ⟨_, its, hi, o, ho, hcls, sz, hda⟩ := e0.hok T _ hT
      cases hi with
      | cons r0 rn =>
        cases rn
        exact .inr ⟨T, _, o, sz, hv, ho, hda, fun q => by rw [hdn.mpr q] at hv; cases hv⟩)
  refine PySem.W.kla_callFunE hr.depth of1 rfl L.co L.gen rfl ⟨c', oc, vs, tq, rfl, hoc, hdc, hvc⟩ ?_
  refine hbd _ _ _ _ ?_
  refine wpAny_newFunctionEnv (fun y hy => L.own y hy) hloc (fun h₁ hns hsb => ⟨lim.fresh _ hsb, ?_⟩) L.kind
  show codeAny _ _ (.expr nd.body (LamX.lamEnv X nd.scope s1.heap.objs.size f c')) _ _
  have kp : ∀ b o, s1.heap.get? b = some o → h₁.get? b = some o := fun b o e => hsb.extBut b o (Nat.ne_of_lt (Heap.lt_size e)) (Heap.get?_push_of_some _ e)
  obtain ⟨Eh, hEh⟩ : ∃ Eh : XK, Eh = fun cls d H' => (∀ c oc, cellF X s c = some oc → H' c = none) → E cls d (plusC (cellF X s) H') := ⟨_, rfl⟩
  rw [← hEh]
  have J : Inv (LamX.lamCx X A outer s1 (lessC (cellF X s) HZ) Eh nd.scope f c') [] σ (lessC (cellF X s) HZ) { s1 with heap := h₁, toks := s1.toks + binds.length } :=
    lam_start4 I L e0' hr.hd (fun c oc e => ⟨(e0.hok c _ (hcf c oc e)).1, less_at e⟩) hns kp
  -- the abstract state without the cells
  obtain ⟨M', hM'⟩ : ∃ M' : MS, M' = fun a => MZ a ∧ cellF X s a = none := ⟨_, rfl⟩
  have am' : Amb g.z M' (lessC (cellF X s) HZ) := ⟨bag_less am.bag hcf, fun a h => by
    rw [hM'] at h
    obtain ⟨o, e, n⟩ := am.alive a h.1
    exact ⟨o, by rw [less_off h.2]; exact e, n⟩, fun a h => by
    rw [hM']
    refine ⟨am.res a h, ?_⟩
    cases q : cellF X s a with
    | none => rfl
    | some oc => exact absurd (cn a oc q) (st.alive a (res_M h)).ne⟩
  have xH : Ext g.z H (lessC (cellF X s) HZ) := fun b o e n => by
    have q := off_of cn e
    rw [less_off q]
    exact x b o (by rw [plus_off q]; exact e) n
  have back : ∀ {H' : Hp}, (∀ c oc, cellF X s c = some oc → H' c = none) → Ext g.z (lessC (cellF X s) HZ) H' → Ext g.z HZ (plusC (cellF X s) H') := fun {H'} hn xx b o e n => by
    cases q : cellF X s b with
    | none => rw [plus_off q]; exact xx b o (by rw [less_off q]; exact e) n
    | some oc => rw [plus_at q, ← e, hcf b oc q]
  have trB : ∀ {H' : Hp}, (∀ c oc, cellF X s c = some oc → H' c = none) → Tr M' H' MZ (plusC (cellF X s) H') := fun {H'} hn => Tr.of fun b o n e => by
    have q := off_of hn e
    refine ⟨by rw [plus_off q]; exact e, fun h => n ?_⟩
    rw [hM']
    exact ⟨h, q⟩
  have ke' : XLink g.z M' (lessC (cellF X s) HZ) Eh Ed := fun xd d H' q xx b r => by
    rw [hEh]
    intro hn
    refine ke xd d _ q (back hn xx) (b.grow fun b o e => plus_some hn e) ?_
    rw [mo_none am'.res] at r
    rw [mo_none am.res]
    obtain ⟨fs, e1, e2, e3⟩ := r
    exact ⟨fs, plus_some hn e1, e2, e3.tr (trB hn)⟩
  have hM : (lamG g M' (lessC (cellF X s) HZ) jx Eh Ed).M = M' := mo_none am'.res
  have st' : Stt (lamG g M' (lessC (cellF X s) HZ) jx Eh Ed) σ (lessC (cellF X s) HZ) := lam_stt st xH am' (fun a h => by
    rw [hM'] at h
    rcases h2 a h.1 with h3 | h3 | h3
    · rcases h3 with h3 | h3
      · exact .inl h3
      · exact absurd h.2 h3
    · exact .inr (.inl h3)
    · rw [plus_off h.2] at h3
      exact .inr (.inr h3)) ke'
  have nC : ∀ {H' : Hp} {s' : Shared}, Inv (LamX.lamCx X A outer s1 (lessC (cellF X s) HZ) Eh nd.scope f c') [] σ H' s' → ∀ c oc, cellF X s c = some oc → H' c = none := fun {H' s'} J' c oc e => J'.base.free c oc (e0.hok c _ (hcf c oc e)).1 (less_at e) (fun z => absurd (show c ∈ ([] : List Addr) from z) (by simp))
  have t' : lE (tb i Eh) σ (lessC (cellF X s) HZ) (fun v H' => (∀ c oc, cellF X s c = some oc → H' c = none) → Q v (plusC (cellF X s) H')) := ⟨lamG g M' (lessC (cellF X s) HZ) jx Eh Ed, Qd, st', t Eh, fun d v H' q x' s' r hn => kq d v _ q (back hn x') (s'.bag.grow fun b o e => plus_some hn e) (by rw [hM] at r; exact r.tr (trB hn))⟩
  refine PySem.W.kla_codeExpr (wpAny_mono ((hbody A outer s1 (lessC (cellF X s) HZ) Eh f c' (hr.deeper _)).run [] _ σ (lessC (cellF X s) HZ) _ J t') (fun v s' hq => ?_) fun e s' hq => hq)
  obtain ⟨w', H', J', rv, q⟩ := hq
  exact ⟨w', H', J'.os, J'.bare, J'.base, J'.hok, rv, q⟩
end
end L2.DL


set_option Elab.async false
set_option linter.all false
set_option maxRecDepth 100000
set_option maxHeartbeats 4000000
namespace L2.DL
open PySem PySem.Spec PyProof.Rows
/-! ### x() where x holds a lambda's function -/
section
variable {X : Cx} {x : Str} {p1 p2 : Pos} {a j jx k : Nat} {E : XK}
def dClo (a j jx : Nat) (pz : TCl → Bz → MS → Hp → Prop) (E : XK) : TDE := fun S Q => ∃ i T Ed, S[a]? = some (.val (.clo i)) ∧ S[j]? = some (.zz (pz T)) ∧ S[jx]? = some (.ex E Ed) ∧ T i Q Ed
theorem de_clo (hr : Room k X.A) (hN : X.N[a]? = some x) (hv : Vis X.env.scope x) (hx : Passes (L2.CX X.prog X.w) X E) (hd : (x == ("__debug__" : Str)) = false := by decide) (hcd : (x == ("__classdict__" : Str)) = false := by decide) :
    PE X (.Call (.Name x p1) [] [] p2) (lE (dClo a j jx (PZ X.prog X.w X.K X.mg X.base k) E)) := by
  refine ⟨fun pins s σ H Q I ⟨g, Qd, st, ⟨i, T, Ed, w1, w2, w3, w4⟩, kk⟩ => ?_⟩
  obtain ⟨v, hv', r⟩ := st.val a _ w1
  cases r with
  | @clo f _ c =>
    refine wpAny_Call_Name_kw (thn ((pe_var (pos := p1) (i := a) hN hv hd hcd).run pins s σ H (fun v H1 => v = .ref f ∧ H1 = H) I ⟨.ref f, hv', rfl, rfl⟩) fun u s1 ⟨v, H1, I1, r1, ev, eH⟩ => ?_)
    subst ev
    rw [eH] at I1
    obtain rfl : u = Value.ref f := r1
    obtain ⟨nd, c', dv, doc, pm, ctv, e, hdn, hf, hco, hdv, nM, nC⟩ := c.ex
    have of1 := (I1.hok f _ hf).1
    refine PySem.W.callWith_F0 ⟨_, _, _, _, of1⟩ ?_
    have pw := PZ.at st w2
    refine wpAny_call (codeAny_mono (pw i f X.A X.stack s1 H g.M Q E Qd Ed hr I1.env0 .refl st.amb (fun _ h => h) (fun _ h => .inl h) c w4 (fun d v H' q x b r => kk d v H' q x (st.ext x b) r) (st.link w3)) fun r s' hq => ?_)
    cases r with
    | error e => exact hx pins σ H s1 e s' I1 hq
    | ok fl =>
      cases fl with
      | ret u => exact I1.after hq
      | next => exact False.elim hq
      | brk => exact False.elim hq
      | cont => exact False.elim hq
end
theorem Amb.later {z : Bz} {M : MS} {H H' : Hp} (A : Amb z M H) (x : Ext z H H') (b : BagOk z H') : Amb z M H' := ⟨b, fun a h => by
  by_cases hb : resB z a
  · exact b.alive hb
  · obtain ⟨o, e, n⟩ := A.alive a h
    exact ⟨o, x a o e fun q => hb q.res, n⟩, A.res⟩
theorem sttG {z : Bz} {M : MS} {H : Hp} {σ : St} {S : SS} (A : Amb z M H) (hl : S.length = σ.length) (hv : ∀ (i : Nat) (d : D), S[i]? = some (.val d) → ∃ v, σ[i]? = some (some v) ∧ Rp z M H v d) (ho : ∀ (i : Nat) (d : D), S[i]? = some (.own d) → False) (he : ∀ (i : Nat) (E : XK) (Ed : XD → Prop), S[i]? = some (.ex E Ed) → XLink z M H E Ed) (hz : ∀ (i : Nat) (p : Bz → MS → Hp → Prop), S[i]? = some (.zz p) → p z M H) : Stt (ghW z M H S) σ H := by
  have hM : (ghW z M H S).M = M := mo_none A.res
  refine ⟨hl, fun i d e => ?_, fun i d e => (ho i d e).elim, (fun i j a e => nomatch e), (fun i a e => nomatch e), fun a h => ?_, Ext.refl, A.bag, Ext.refl, fun _ h => h, fun a h => (A.alive a h).ne, he, hz, fun _ h => .inl h⟩
  · rw [hM]; exact hv i d e
  · rw [hM] at h; exact A.alive a h
/-! ### try: return ("", ask()) / except (C1, C2) as e: return (e.code,) + field(e) -/
section
variable {P : Program} {w : World} {K : PySem.W.Frag} {mg : Str → Option Value} {base : Heap} {xf qual a n x1 x2 ff zN xN : Str} {st : Stmt} {f fF C1 C2 : Addr} {fd fdF : FuncData} {psF names : List Str} {k : Nat} {tfF : TDW} {dfv : List V} {kwv : List (Str × V)} {j1 kk1 kk2 kk3 : Nat}
  {p1 p2 p3 p4 p5 p6 p7 p8 p9 p10 p11 p12 p13 np1 np2 tpos pos pos' : Pos}
/-- what such a def does with a lambda -/
def tryD (K : PySem.W.Frag) (names : List Str) (C1 C2 : Addr) (tfF : TDW) : TCl → TDF := fun T ds Q => ∃ i, ds = [.clo i] ∧ T i (fun d => ([.str [], d] : List D).length ≤ sizeLine ∧ Q (.tup [.str [], d])) fun x => FldC K names x.C ∧ PySem.W.exmAny K (.ref x.C) [.ref C1, .ref C2] = some true ∧ ∃ c, (x.ns.zip x.vs).lookup ("code" : Str) = some c ∧ tfF x fun r => rAddD (.tup [c]) r Q
theorem try_ok (F : FunD K xf qual (defArgs st) (defBody st) (defScope st) dfv kwv f fd) (S : FnScope [a, n, zN, xN] [a] (defScope st))
    (hB : defBody st = [.Try [.Return (some (.Tuple [.Constant (.str "") j1 p1, .Call (.Name a p2) [] [] p3] kk1 p4)) p5] [.ExceptHandler (some (.Tuple [.Name x1 np1, .Name x2 np2] kk2 tpos)) (some n) [.Return (some (.BinOp (.Tuple [.Attribute (.Name n p6) "code" p7] kk3 p8) .Add (.Call (.Name ff p9) [.Name n p10] [] p11) p12)) p13] pos'] [] [] pos])
    (FF : FnW P w K mg base CX0 k fF fdF psF (spW K names tfF)) (hmF : mg ff = some (.ref fF)) (hkF : PySem.W.keepIn K (.ref fF) = true) (hbF : Binds K fdF psF [])
    (hm1 : mg x1 = some (.ref C1)) (hm2 : mg x2 = some (.ref C2)) (hcode : ("code" : Str) ∈ names)
    (hNd : [a, n, zN, xN].Nodup) (hva : Vis (defScope st) a) (hvn : (defScope st).names.lookup n = some .local) (hg1 : (defScope st).names.lookup x1 = some .globalImplicit) (hg2 : (defScope st).names.lookup x2 = some .globalImplicit) (hgF : (defScope st).names.lookup ff = some .globalImplicit)
    (d1 : (x1 == ("__debug__" : Str)) = false := by decide) (d2' : (x2 == ("__debug__" : Str)) = false := by decide) (d3 : (ff == ("__debug__" : Str)) = false := by decide) (da : (a == ("__debug__" : Str)) = false := by decide) (dca : (a == ("__classdict__" : Str)) = false := by decide) (dn : (n == ("__debug__" : Str)) = false := by decide) (dcn : (n == ("__classdict__" : Str)) = false := by decide)
    (dcode : (("code" : Str) == ("code" : Str)) = true := by rfl) :
    FnOk P w K mg base CX0 (k + 1) f fd [a] (spSE P w K mg base k 1 (tryD K names C1 C2 tfF)) := by
  refine F.ok S (fun vs H Q E h => h.1) fun cdv A outer s H vs Q E hr h => ?_
  rw [hB]
  obtain ⟨hl, z, M, ds, Qd, T, Am, r, pw, ⟨i, rfl, t⟩, kk⟩ := h
  refine ⟨_, pss_one (ps_try_tup (X := cxOf CX0 P w K mg base [a, n, zN, xN] qual (defScope st) f cdv A outer s H E) (i := 1) (c1 := .ref C1) (c2 := .ref C2)
     (ts := fun a' cls d D σ H' => σ.length = 4 → lS (dsRet (d2 rAddD (dTup (daCons (dXf K names 1 2 a' cls d "code") daNil)) (dCallW K names 1 2 a' cls d tfF))) D σ H') (Wout := fun _ _ _ _ => False)
     (tb := fun W D σ H' => ∃ Ech : XK, (∀ cls d σ' H'', Ech cls d H'' → W cls d σ' H'') ∧ lS (dsRet (dTup (daCons (dC (.str [])) (daCons (dClo 0 2 3 (PZ P w K mg base k) Ech) daNil)))) D σ H')
     rfl rfl hNd rfl hvn ⟨hg1, d1, .inl hm1⟩ ⟨hg2, d2', .inl hm2⟩ LamX.takes0 (fun W pn xe tk _ => ?_) (fun a' oe cls d pn hz hfl => ?_)), ?_⟩
  · refine ⟨fun pins s' σ H' D I h' => ?_⟩
    obtain ⟨Ech, hW, h3⟩ := h'
    have hp : PSs ((cxOf CX0 P w K mg base [a, n, zN, xN] qual (defScope st) f cdv A outer s H E).tr pn xe) [.Return (some (.Tuple [.Constant (.str "") j1 p1, .Call (.Name a p2) [] [] p3] kk1 p4)) p5] (lS (dsRet (dTup (daCons (dC (.str [])) (daCons (dClo 0 2 3 (PZ P w K mg base k) Ech) daNil))))) :=
      pss_one (ds_ret (de_tup (da_cons de_str (da_cons (de_clo (X := (cxOf CX0 P w K mg base [a, n, zN, xN] qual (defScope st) f cdv A outer s H E).tr pn xe) (k := k) (a := 0) (j := 2) (jx := 3) hr rfl hva (passes_call tk hW) da dca) da_nil))))
    exact hp.run pins s' σ H' D I h3
  · have hv1 : Vis (defScope st) n := .inl hvn
    have hp : PSs ((cxOf CX0 P w K mg base [a, n, zN, xN] qual (defScope st) f cdv A outer s H E).suite a' ((a', oe) :: pn)) [.Return (some (.BinOp (.Tuple [.Attribute (.Name n p6) "code" p7] kk3 p8) .Add (.Call (.Name ff p9) [.Name n p10] [] p11) p12)) p13] (lS (dsRet (d2 rAddD (dTup (daCons (dXf K names 1 2 a' cls d "code") daNil)) (dCallW K names 1 2 a' cls d tfF)))) :=
      pss_one (ds_ret (de_add (PE.toP (de_tup (da_cons (de_xf (i := 1) (j := 2) (names := names) List.mem_cons_self hz hfl (pe_var rfl hv1 dn dcn) hcode) da_nil))) (PE.toP (de_callW (i := 1) (j := 2) FF ⟨hr.dp, hr.un⟩ List.mem_cons_self hz hfl hmF hkF hbF (pe_var rfl hv1 dn dcn) hgF d3))))
    exact ⟨fun pins s' σ H' D I h' => hp.run pins s' σ H' D I (h' I.len)⟩
  · have hM : Mo M z (fun _ => none) = M := mo_none Am.res
    obtain ⟨Ed, hEd⟩ : ∃ Ed : XD → Prop, Ed = fun x => FldC K names x.C ∧ PySem.W.exmAny K (.ref x.C) [.ref C1, .ref C2] = some true ∧ ∃ c, (x.ns.zip x.vs).lookup ("code" : Str) = some c ∧ tfF x fun r => rAddD (.tup [c]) r Qd := ⟨_, rfl⟩
    obtain ⟨Ech, hEch⟩ : ∃ Ech : XK, Ech = fun cls d H' => ∃ (x : XD) (dd : Addr), cls = .ref x.C ∧ d = some dd ∧ Ed x ∧ Ext z H H' ∧ BagOk z H' ∧ XRp z M H' dd x := ⟨_, rfl⟩
    have lk : XLink z M H Ech Ed := fun x d H' q xt b r => by
      rw [hEch]
      exact ⟨x, d, rfl, rfl, q, xt, b, by rw [hM] at r; exact r⟩
    refine ⟨Ech, fun cls d σ' H' hE => ?_, ?_⟩
    · rw [hEch] at hE
      obtain ⟨x, dd, rfl, rfl, hx, xt, b, xr⟩ := hE
      rw [hEd] at hx
      obtain ⟨fc, ex, c, hc, tF⟩ := hx
      refine ⟨true, ex, fun _ a' na hlen => ?_, fun q => by cases q⟩
      have hl4 : σ'.length = 4 := by rw [List.length_set] at hlen; exact hlen
      have hxz : XZ K names (.ref x.C) (some dd) x z M H' := ⟨Am.res, rfl, ⟨dd, rfl, (by obtain ⟨fs, e1, _⟩ := xr; exact b.xd e1), xr⟩, fc⟩
      refine ⟨ghW z M H' [.no, .val (.raw (.ref a')), .zz (XZ K names (.ref x.C) (some dd) x), .no], { nx := fun _ => False, rt := Qd, rf := fun _ => False }, sttG (Am.later xt b) (by rw [hlen]; rfl) (fun i d e => ?_) (fun i d e => ?_) (fun i E Ed e => ?_) (fun i p e => ?_), ?_, ?_⟩
      · match i, e with
        | 0, e => cases e
        | 1, e =>
          cases e
          exact ⟨.ref a', by rw [List.getElem?_set_self (by omega)], .raw _⟩
        | 2, e => cases e
        | 3, e => cases e
        | i + 4, e => cases e
      · match i, e with
        | 0, e => cases e
        | 1, e => cases e
        | 2, e => cases e
        | 3, e => cases e
        | i + 4, e => cases e
      · match i, e with
        | 0, e => cases e
        | 1, e => cases e
        | 2, e => cases e
        | 3, e => cases e
        | i + 4, e => cases e
      · match i, e with
        | 0, e => cases e
        | 1, e => cases e
        | 2, e => cases e; exact hxz
        | 3, e => cases e
        | i + 4, e => cases e
      · exact ⟨rfl, x, c, rfl, hc, (by show 1 ≤ sizeLine; rw [sizeLine_eq]; omega), rfl, x, rfl, tF⟩
      · refine ⟨fun _ _ _ _ _ q => q.elim, fun _ _ _ _ _ q => q.elim, fun _ _ _ _ _ q => q.elim, fun d v H2 q x2 b2 rp => ?_, fun d a H2 q => q.elim⟩
        have rp' : Rp z (Mo M z fun _ => none) H2 v d := rp
        rw [hM] at rp'
        exact kk d v H2 q (xt.trans x2) b2 rp'
    · refine ⟨_, { nx := fun _ => False, rt := Qd, rf := fun _ => False }, ((stt0 (N := [a, n, zN, xN]) Am r).setZz (i := 2) (p := PZ P w K mg base k T) ⟨Am.res, pw⟩).setEx (i := 3) lk, ?_, ?_⟩
      · refine ⟨i, T, Ed, rfl, rfl, rfl, ?_⟩
        rw [hEd]
        exact t
      · refine ⟨fun _ _ _ _ _ q => q.elim, fun _ _ _ _ _ q => q.elim, fun _ _ _ _ _ q => q.elim, fun d v H2 q x2 b2 rp => ?_, fun d a H2 q => q.elim⟩
        have rp' : Rp z (Mo M z fun _ => none) H2 v d := rp
        rw [hM] at rp'
        exact kk d v H2 q x2 b2 rp'
end
end L2.DL


set_option Elab.async false
set_option linter.all false
set_option maxRecDepth 100000
set_option maxHeartbeats 4000000
namespace L2.DL
open PySem PySem.Spec PyProof.Rows
/-! ### a def that gets lambdas, called by their maker -/
section
variable {X : Cx} {pins : List (Addr × Obj)} {σ : St} {H : Hp} {s : Shared}
theorem env_plus (I : Inv X pins σ H s) (hfn : ∀ x, X.fn x = true) : Env0 X.prog X.w X.K X.mg X.base X.A X.stack s (plusC (cellF X s) H) := by
  have e0 := I.env0
  have cn := cellF_none I
  have lo : ∀ c oc, cellF X s c = some oc → X.s_0.heap.objs.size ≤ c := fun c oc e => by
    obtain ⟨⟨x, h⟩, _⟩ := cellF_some e
    exact I.ok.cab x c (hfn x) h
  refine ⟨e0.frames, e0.mod, fun b o e => ⟨(e0.bs b o e).1, ?_⟩, e0.bsz, e0.funs, fun b hb => ?_, hok_plus e0.hok fun c oc e => ⟨(cellF_some e).2, cn c oc e⟩, e0.bare⟩
  · cases q : cellF X s b with
    | none => rw [plus_off q]; exact (e0.bs b o e).2
    | some oc =>
      have h1 := Nat.lt_of_lt_of_le (Heap.lt_size e) (Nat.le_trans I.ok.bsz (lo b oc q))
      exact absurd h1 (Nat.lt_irrefl _)
  · cases q : cellF X s b with
    | none => rw [plus_off q]; exact e0.frf b hb
    | some oc =>
      exfalso
      rcases List.mem_cons.mp (I.stkSub b hb) with h | h
      · obtain ⟨⟨x, hx⟩, ho⟩ := cellF_some q
        obtain ⟨v, o, e1, e2⟩ := I.cell x b hx
        obtain ⟨m, ⟨o2, es, ep, e3, e4, _⟩, _⟩ := id I.loc
        rw [h, e3] at e1
        cases e1
        rw [e4] at e2
        cases e2
      · obtain ⟨_, o, e, _⟩ := I.ok.funs.mem h
        exact absurd (Nat.lt_of_lt_of_le (Heap.lt_size e) (lo b oc q)) (Nat.lt_irrefl _)
variable {k : Nat} {f : Addr} {fd : FuncData} {ps : List Str} {sp : Sp} {x : Str} {q pos : Pos} {e : Expr} {es : List Expr} {t : TA}
theorem pe_callC (F : FnOk X.prog X.w X.K X.mg X.base CX0 k f fd ps sp) (hr : Room k X.A) (hg : Gl X x) (hm : X.mg x = some (.ref f)) (hk : PySem.W.keepIn X.K (.ref f) = true) (hb : Binds X.K fd ps []) (hfn : ∀ x, X.fn x = true)
    (ha : PA X (e :: es) t) (hdb : (x == ("__debug__" : Str)) = false := by decide) (he : starEach (e :: es) X.env = (false, eval e X.env) :: starEach es X.env := by rfl) (hpl : (backTo pos (starEach es X.env)).any (·.1) = false := by rfl) :
    PE X (.Call (.Name x q) (e :: es) [] pos) (fun σ H Q => t σ H fun vs H1 => ∀ (pins : List (Addr × Obj)) (s1 : Shared), Inv X pins σ H1 s1 → sp vs (plusC (cellF X s1) H1) (fun v H' => (∀ c oc, cellF X s1 c = some oc → H' c = some (StandO c oc)) ∧ Q v (lessC (cellF X s1) H')) E0) := by
  refine ⟨fun pins s σ H Q I h => ?_⟩
  refine wpAny_Call_Name_kw (ld_glob I hg hm ?_ hdb)
  refine PySem.W.callWith_K (h₀ := X.base) I.ok.mod.kin hk (thn (ha.run pos pins s σ H _ I h) fun us s1 ⟨vs, H1, I1, r, q0⟩ => ⟨I1.kIn, ?_⟩) he hpl
  have q := q0 pins s1 I1
  have cn := cellF_none I1
  have hl : us.length = ps.length := by rw [← r.length]; exact F.len _ _ _ _ q
  have b := hb s1 us I1.kIn (by rw [List.append_nil]; exact hl)
  rw [List.append_nil] at b
  refine wpAny_call (codeAny_mono (F.run X.A X.stack s1 _ ⟨us, []⟩ us vs _ E0 hr (env_plus I1 hfn) b r q) fun r s' hq => ?_)
  cases r with
  | error e => exact False.elim hq
  | ok fl =>
    cases fl with
    | ret u =>
      obtain ⟨v, H', os, bare, un, hok, rv, hc, qq⟩ := hq
      refine ⟨v, lessC (cellF X s1) H', I1.call' (ch := []) os ⟨fun b o e n hb hx => ?_, fun b o e n hb hx => ?_, fun b o e n hx => ?_, un.there, fun b xs e => ?_, fun b o u e => ?_, fun b ps e => ?_⟩ (hok_less hok hc) bare (fun b z => absurd z (by simp)), rv, qq⟩
      · cases q : cellF X s1 b with
        | none => exact un.keep b o e (by rw [plus_off q]; exact n) hb hx
        | some oc =>
          have e1 := (cellF_some q).2
          rw [e] at e1
          cases e1
          exact (hok b _ (hc b o q)).1
      · cases q : cellF X s1 b with
        | none => exact un.slot b o e (by rw [plus_off q]; exact n) hb hx
        | some oc =>
          have e1 := (cellF_some q).2
          rw [e] at e1
          cases e1
          exact ⟨o.slots, (hok b _ (hc b o q)).1⟩
      · cases q : cellF X s1 b with
        | none => rw [less_off q]; exact un.free b o e (by rw [plus_off q]; exact n) hx
        | some oc => exact less_at q
      · exact less_some hc (un.tups b xs (plus_some cn e)) fun _ z => by cases z
      · have q := off_of cn e
        rw [less_off q]
        exact un.frzs b o u (by rw [plus_off q]; exact e)
      · obtain ⟨more, e'⟩ := un.tbls b ps (plus_some cn e)
        exact ⟨more, less_some hc e' fun _ z => by cases z⟩
    | next => exact False.elim hq
    | brk => exact False.elim hq
    | cont => exact False.elim hq
/-! ### as data -/
variable {lam : List LamN} {P : Addr} {j jx kp n : Nat} {tb : Nat → XK → TDE} {tf : TCl → TDF} {ts : TDA}
def dCallSL (j jx : Nat) (lam : List LamN) (P : Addr) (cl : List (Str × Addr)) (q : Str) (tb : Nat → XK → TDE) (n : Nat) (tf : TCl → TDF) (ts : TDA) : TDE := fun S Q => ts S fun ds => ds.length = n ∧ S[j]? = some (.zz (LZ lam P cl q)) ∧ tf (fun i Qd Ed => ∀ E, tb i E (lamS S jx E Ed) Qd) ds Q
/-- the start of the call, its end -/
structure CallC (X : Cx) (pins : List (Addr × Obj)) (g : Gh) (σ : St) (H : Hp) (s1 : Shared) : Prop where
  am : Amb g.z (fun a => g.M a ∨ cellF X s1 a ≠ none) (plusC (cellF X s1) H)
  rp : ∀ {vs ds}, RpL g.z g.M H vs ds → RpL g.z (fun a => g.M a ∨ cellF X s1 a ≠ none) (plusC (cellF X s1) H) vs ds
  cs : ∀ {H'}, Ext g.z (plusC (cellF X s1) H) H' → ∀ c oc, cellF X s1 c = some oc → H' c = some (StandO c oc)
  x : ∀ {H'}, Ext g.z (plusC (cellF X s1) H) H' → Ext g.z H (lessC (cellF X s1) H')
  tr : ∀ {H'}, Tr (fun a => g.M a ∨ cellF X s1 a ≠ none) H' g.M (lessC (cellF X s1) H')
theorem callC {g : Gh} {s1 : Shared} (I : Inv X pins σ H s1) (st : Stt g σ H) : CallC X pins g σ H s1 := by
  have cn := cellF_none I
  have cs : ∀ {H'}, Ext g.z (plusC (cellF X s1) H) H' → ∀ c oc, cellF X s1 c = some oc → H' c = some (StandO c oc) := fun {H'} x c oc e => x c _ (plus_at e) fun q => (st.alive c (res_M q.res)).ne (cn c oc e)
  refine ⟨⟨st.bag.grow fun b o e => plus_some cn e, fun a h => ?_, fun a h => .inl (res_M h)⟩, fun r => r.tr (Tr.of fun b o n e => ⟨plus_some cn e, fun h => h.elim n fun h => h (off_of cn e)⟩), cs, fun {H'} x b o e n => ?_, fun {H'} => Tr.of fun b o n e => ?_⟩
  · rcases h with h | h
    · obtain ⟨o, e, n⟩ := st.alive a h
      exact ⟨o, plus_some cn e, n⟩
    · cases q : cellF X s1 a with
      | none => exact absurd q h
      | some oc => exact ⟨_, plus_at q, trivial⟩
  · have q := off_of cn e
    rw [less_off q]
    exact x b o (by rw [plus_off q]; exact e) n
  · have q : cellF X s1 b = none := by
      cases q : cellF X s1 b with
      | none => rfl
      | some oc => exact absurd (.inr (by rw [q]; exact fun z => by cases z)) n
    exact ⟨by rw [less_off q]; exact e, fun h => n (.inl h)⟩
theorem de_callSL (F : FnOk X.prog X.w X.K X.mg X.base CX0 k f fd ps (spSE X.prog X.w X.K X.mg X.base (kp + 1) n tf)) (hr : Room k X.A) (hm : X.mg x = some (.ref f)) (hk : PySem.W.keepIn X.K (.ref f) = true) (hbn : Binds X.K fd ps []) (hfn : ∀ x, X.fn x = true)
    (hb : ∀ i nd, lam[i]? = some nd → LamS3 X.N X.env.scope nd.scope ∧ LamB nd ∧ ∀ (A : Around) (outer : List Env) (s : Shared) (H : Hp) (E : XK) (f c' : Addr), Room kp (A.deeper (LamX.lamEnv X nd.scope s.heap.objs.size f c')) → PE (LamX.lamCx X A outer s H E nd.scope f c') nd.body (lE (tb i E)))
    (ha : PA X (e :: es) (lA ts)) (hg : Gl X x := by rfl) (hdb : (x == ("__debug__" : Str)) = false := by decide) (he : starEach (e :: es) X.env = (false, eval e X.env) :: starEach es X.env := by rfl) (hpl : (backTo pos (starEach es X.env)).any (·.1) = false := by rfl) :
    PE X (.Call (.Name x q) (e :: es) [] pos) (lE (dCallSL j jx lam P X.env.cells X.env.qual tb n tf ts)) :=
  PE.imp (pe_callC F hr hg hm hk hbn hfn ha hdb he hpl) fun σ H Q ⟨g, Qd, s, w, kk⟩ => ⟨g, _, s, w, fun ds vs H1 w1 x1 s1 r1 pins sh I1 => by
    obtain ⟨hl, ej, w2⟩ := w1
    have C := callC I1 s1
    exact ⟨by rw [r1.length]; exact hl, g.z, _, ds, Qd, _, C.am, C.rp r1, pow_law (jx := jx) I1 s1 ej hb, w2, fun d v H' q x b rp => ⟨C.cs x, kk d v _ q (x1.trans (C.x x)) (s1.ext (C.x x) (bag_less b (C.cs x))) (rp.tr C.tr)⟩⟩⟩
theorem df_callSL (F : FnOk X.prog X.w X.K X.mg X.base CX0 k f fd ps (spSF X.prog X.w X.K X.mg X.base (kp + 1) n tf)) (hr : Room k X.A) (hm : X.mg x = some (.ref f)) (hk : PySem.W.keepIn X.K (.ref f) = true) (hbn : Binds X.K fd ps []) (hfn : ∀ x, X.fn x = true)
    (hb : ∀ i nd, lam[i]? = some nd → LamS3 X.N X.env.scope nd.scope ∧ LamB nd ∧ ∀ (A : Around) (outer : List Env) (s : Shared) (H : Hp) (E : XK) (f c' : Addr), Room kp (A.deeper (LamX.lamEnv X nd.scope s.heap.objs.size f c')) → PE (LamX.lamCx X A outer s H E nd.scope f c') nd.body (lE (tb i E)))
    (ha : PA X (e :: es) (lA ts)) (hg : Gl X x := by rfl) (hdb : (x == ("__debug__" : Str)) = false := by decide) (he : starEach (e :: es) X.env = (false, eval e X.env) :: starEach es X.env := by rfl) (hpl : (backTo pos (starEach es X.env)).any (·.1) = false := by rfl) :
    PE X (.Call (.Name x q) (e :: es) [] pos) (lF (dCallSL j jx lam P X.env.cells X.env.qual tb n tf ts)) :=
  PE.imp (pe_callC F hr hg hm hk hbn hfn ha hdb he hpl) fun σ H Q ⟨g, Qd, s, w, kk⟩ => ⟨g, _, s, w, fun ds vs H1 w1 x1 s1 r1 pins sh I1 => by
    obtain ⟨hl, ej, w2⟩ := w1
    have C := callC I1 s1
    exact ⟨by rw [r1.length]; exact hl, g.z, _, ds, Qd, _, C.am, C.rp r1, pow_law (jx := jx) I1 s1 ej hb, w2, fun d a H' q x b hn nm o => by
      have h1 : H1 a = none := by
        cases q : cellF X sh a with
        | none => rw [plus_off q] at hn; exact hn
        | some oc => rw [plus_at q] at hn; cases hn
      have o' : OwF g.z g.M (lessC (cellF X sh) H') a d := by
        refine Ow.tr o (M' := fun b => g.M b ∨ b = a) (Tr.of fun b o n e => ?_) fun u e => ?_
        · obtain ⟨t1, t2⟩ := (C.tr (H' := H')).ex b o (fun h => n (.inl h)) e
          exact ⟨t1, fun h => h.elim t2 fun h => n (.inr h)⟩
        · have qa : cellF X sh a = none := by
            cases q : cellF X sh a with
            | none => rfl
            | some oc => rw [plus_at q] at hn; cases hn
          rw [less_off qa]; exact e
      exact ⟨C.cs x, kk d a _ q (x1.trans (C.x x)) (s1.ext (C.x x) (bag_less b (C.cs x))) (x1.none_of h1 fun h => nm (.inl (res_M h.res))) (fun h => nm (.inl h)) o'⟩⟩⟩
end
end L2.DL


set_option Elab.async false
set_option linter.all false
set_option maxRecDepth 100000
set_option maxHeartbeats 4000000
namespace L2.DL
open PySem PySem.Spec PyProof.Rows
/-- the law's own start: the bag, the table of its lambdas' code objects; the last slots: their fact, the wish of a lambda -/
theorem lS_lawX {t : TDS} {D : Ends} {p l P : Addr} {H : Hp} {v : Option V} {n : Nat} {lam : List LamN} {cl : List (Str × Addr)} {q : Str} (hb : BagAt H p l) (hP : H P = some (.tbl #[])) (hD : ∀ H', D.rt (.bl true) H')
    (w : t { nx := fun _ => False, rt := fun d => d = .bl true, rf := fun _ => False } (.no :: .val .bag :: (List.replicate n .no ++ [.zz (LZ lam P cl q), .no]))) : lS t D (v :: some (.ref p) :: List.replicate (n + 2) none) H := by
  obtain ⟨z, hz⟩ : ∃ z : Bz, z = ⟨some (p, l), some P, lam, cl, q⟩ := ⟨_, rfl⟩
  have bg : BagOk z H := by
    subst hz
    refine ⟨fun a b e => (by cases e; exact hb), fun P' e => ?_, fun a l' P' e1 e2 => ?_⟩
    · cases e
      refine ⟨#[], hP, True.intro, fun pos cv hc => ?_⟩
      have z : codeAmong pos [] = some cv := hc
      simp [codeAmong] at z
    · cases e1
      cases e2
      obtain ⟨_, _, _, _, _, _, e3, e4, _⟩ := hb
      refine ⟨fun h => ?_, fun h => ?_⟩
      · rw [h, hP] at e3; cases e3
      · rw [h, hP] at e4; cases e4
  have mem : ∀ {i : Nat} {s : Sl}, (List.replicate n Sl.no ++ [.zz (LZ lam P cl q), .no])[i]? = some s → s = .no ∨ s = .zz (LZ lam P cl q) := fun {i s} e => by
    have h := List.mem_of_getElem? e
    simp at h
    rcases h with ⟨_, h⟩ | h | h
    · exact .inl h
    · exact .inr h
    · exact .inl h
  refine ⟨ghW z (resB z) H (.no :: .val .bag :: (List.replicate n .no ++ [.zz (LZ lam P cl q), .no])), _, sttG ⟨bg, fun a h => bg.alive h, fun _ h => h⟩ (by simp) (fun i d e => ?_) (fun i d e => ?_) (fun i E Ed e => ?_) (fun i p' e => ?_), w, ?_⟩
  · match i, e with
    | 0, e => cases e
    | 1, e => cases e; exact ⟨_, rfl, .bag (l := l) (by rw [hz])⟩
    | i + 2, e => rcases mem (show (List.replicate n Sl.no ++ [.zz (LZ lam P cl q), .no])[i]? = _ from e) with h | h <;> cases h
  · match i, e with
    | 0, e => cases e
    | 1, e => cases e
    | i + 2, e => rcases mem (show (List.replicate n Sl.no ++ [.zz (LZ lam P cl q), .no])[i]? = _ from e) with h | h <;> cases h
  · match i, e with
    | 0, e => cases e
    | 1, e => cases e
    | i + 2, e => rcases mem (show (List.replicate n Sl.no ++ [.zz (LZ lam P cl q), .no])[i]? = _ from e) with h | h <;> cases h
  · match i, e with
    | 0, e => cases e
    | 1, e => cases e
    | i + 2, e =>
      rcases mem (show (List.replicate n Sl.no ++ [.zz (LZ lam P cl q), .no])[i]? = _ from e) with h | h
      · cases h
      · cases h
        subst hz
        exact ⟨rfl, rfl, rfl, rfl⟩
  · refine ⟨fun ow S σ H' s' q => q.elim, fun _ _ _ _ _ q => q.elim, fun _ _ _ _ _ q => q.elim, fun d v H' q x b rp => ?_, fun d a H' q => q.elim⟩
    subst q
    cases rp
    exact hD H'
end L2.DL
namespace L2.DL
open PySem PySem.Spec PyProof.Rows
theorem wpMap_iff {f g : D → (List D → Prop) → Prop} (h : ∀ d k, g d k ↔ f d k) {ds : List D} {Q : List D → Prop} (w : wpMap f ds Q) : wpMap g ds Q := by
  have e : g = f := funext fun d => funext fun k => propext (h d k)
  rw [e]
  exact w
/-- what _law_tries does with a list of lambdas: tf is what _law_try does with one -/
def triesD (pz : TCl → Bz → MS → Hp → Prop) (tf : TCl → TDF) : TCl → TDF := fun T ds Q => ∃ cs, ds = [.lst cs] ∧ cs.length ≤ sizeLine ∧ wpMap (fun d k => ∃ T', some (Sl.zz (pz T)) = some (.zz (pz T')) ∧ tf T' [d] fun r => k [r]) cs fun rs => Q (.lst rs)
theorem roomH_units {k : Nat} {A : Around} (r : L2H.RoomH k A) : A.units + 64 < cLine := by have := r.un; omega
end L2.DL


set_option Elab.async false
set_option linter.all false
set_option maxRecDepth 100000
set_option maxHeartbeats 4000000
namespace L2.DL
open PySem PySem.Spec PyProof.Rows
theorem bnil {K : PySem.W.Frag} {fd : FuncData} {ps : List Str} (h : ∃ dsv, Vals [] dsv ∧ Binds K fd ps dsv) : Binds K fd ps [] := by
  obtain ⟨dsv, v, b⟩ := h
  cases v
  exact b
theorem roomH_u65 {k : Nat} {A : Around} (r : L2H.RoomH k A) : A.units + 65 < cLine := by have := r.un; omega
theorem FnW.mono {P : Program} {w : World} {K : PySem.W.Frag} {mg : Str → Option Value} {base : Heap} {CX : CXT} {j k : Nat} {f : Addr} {fd : FuncData} {ps : List Str} {sp : SpW} (F : FnW P w K mg base CX j f fd ps sp) (h : j ≤ k) : FnW P w K mg base CX k f fd ps sp :=
  ⟨F.len, fun A outer s H args us vs Q E p cls d hz hfl hr => F.run A outer s H args us vs Q E p cls d hz hfl (hr.mono h)⟩
/-! ### __init__ of the own exceptions -/
section
variable {P : Program} {w : World} {K : PySem.W.Frag} {mg : Str → Option Value} {base : Heap} {xf qual : Str} {st : Stmt} {f : Addr} {fd : FuncData} {k : Nat}
/-- the base: ValueError.__init__(self, code); self.code = code -/
theorem err0_ok (F : FunD K xf qual (defArgs st) (defBody st) (defScope st) [] [] f fd) (S : FnScope ["self", "code"] ["self", "code"] (defScope st))
    (hps : ∀ (cdv : Value) (A : Around) (outer : List Env) (s : Shared) (H : Hp) (E : XK), PSs (cxOf CX0 P w K mg base ["self", "code"] qual (defScope st) f cdv A outer s H E).nox (defBody st) (tSeq (tDrop (tVeI K (tCons (tVar 0) (tCons (tVar 1) tNil)))) (tSeq (tOst K "code" (tVar 0) (tVar 1)) tNext))) :
    FnOk P w K mg base CX0 (k + 1) f fd ["self", "code"] (spE0 K) := by
  refine F.ok S (fun vs H Q E ⟨a, C, v, e, _⟩ => by rw [e]; rfl) (fun cdv A outer s H vs Q E hr h => ?_)
  obtain ⟨a, C, v, rfl, T, hno, ea, q⟩ := h
  exact ⟨_, PSs.nox (hps cdv A outer s H E), e0_read rfl rfl T hno ea q⟩
/-- over it: Base.__init__(self, 'code'); self.f = f, .. -/
theorem err_ok {C0 : Addr} {code : Str} {ps : List Str} {fs : List (Str × Nat)} (F : FunD K xf qual (defArgs st) (defBody st) (defScope st) [] [] f fd) (S : FnScope ps ps (defScope st))
    (hp : ps = ("self" : Str) :: fs.map (fun q => q.1)) (hi : ∀ (i : Nat) (q : Str × Nat), fs[i]? = some q → q.2 = i + 1) (hz : fs.length ≤ 800)
    (hps : ∀ (cdv : Value) (A : Around) (outer : List Env) (s : Shared) (H : Hp) (E : XK), Room k (A.deeper (envOfC qual (defScope st) s.heap.objs.size f cdv)) → PSs (cxOf CX0 P w K mg base ps qual (defScope st) f cdv A outer s H E).nox (defBody st)
      (tSeq (tDrop (fun σ H Q => tC (.ref C0) σ H fun x H1 => x = .ref C0 ∧ tCons (tVar 0) (tCons (tC (.str code)) tNil) σ H1 fun vs H2 => spE0 K (vs ++ []) H2 Q E0)) (tOstL K fs))) :
    FnOk P w K mg base CX0 (k + 1) f fd ps (spEI K (fs.map (fun q => q.1)) (.str code)) := by
  have hpl : ps.length = fs.length + 1 := by rw [hp]; simp
  refine F.ok S (fun vs H Q E ⟨a, C, us, e, hl, _⟩ => by rw [e, hpl, List.length_cons, hl, List.length_map]) (fun cdv A outer s H vs Q E hr h => ?_)
  obtain ⟨a, C, us, rfl, hl, _, T, ea, q⟩ := h
  rw [List.length_map] at hl
  refine ⟨_, PSs.nox (hps cdv A outer s H E hr), ?_⟩
  have hst : ∀ (i : Nat) (v : V), us[i]? = some v → (L2.start ps (V.ref a :: us))[i + 1]? = some (some v) := fun i v e => by
    rw [start_eq, List.map_cons, List.cons_append, List.getElem?_cons_succ, List.getElem?_append_left (by
      rw [List.length_map]
      exact (List.getElem?_eq_some_iff.mp e).1), List.getElem?_map, e]
    rfl
  exact e_read (fs := fs) (vs := us) rfl T ea hl hz (fun jj f' i v e1 e2 => by
    have h1 := hi jj (f', i) e1
    rw [show i = jj + 1 from h1]
    exact hst jj v e2) q
end
end L2.DL


set_option Elab.async false
set_option linter.all false
set_option maxRecDepth 100000
set_option maxHeartbeats 4000000
namespace L2.DL
open PySem PySem.Spec PyProof.Rows
/-! ### operators of own classes that may raise -/
section
variable {X : Cx} {C f : Addr} {fd : FuncData} {ps : List Str} {tf : TDX} {j k : Nat} {E : XK} {a b : Expr} {ta tb : TDE} {pos : Pos}
def dGetX (j : Nat) (E : XK) (C : Addr) (tf : TDX) (ta tb : TDE) : TDE := fun S Q => ta S fun d => tb S fun e => (∃ ns vs, d = .ins C ns vs) ∧ ∃ Ed, S[j]? = some (.ex E Ed) ∧ tf [d, e] Q Ed
theorem de_getX (ha : PE X a (lE ta)) (hb : PE X b (lE tb)) (o : GetI X.K C f) (F : FnOk X.prog X.w X.K X.mg X.base (L2.CX X.prog X.w) k f fd ps (spX 2 tf)) (hr : Room (k + 1) X.A) (hbn : ∃ dsv, Vals [] dsv ∧ Binds X.K fd ps dsv) (hx : Passes (L2.CX X.prog X.w) X E) (hs : ∀ v i, subscripted b true v i = runValue (Code.builtin "lifetime.subscript" { pos := [v, i] }) := by intro _ _; rfl) : PE X (.Subscript a b pos) (lE (dGetX j E C tf ta tb)) := by
  obtain ⟨dsv, hv, hbn⟩ := hbn
  cases hv
  constructor
  intro pins s σ H Q I h
  obtain ⟨g, Qd, st, w, kk⟩ := h
  refine PyProof.Rows.Subscript_ (thn (ha.run pins s σ H (fun x H1 => ∃ d, Ext g.z H H1 ∧ Stt g σ H1 ∧ Rp g.z g.M H1 x d ∧ tb g.S fun e => (∃ ns vs, d = .ins C ns vs) ∧ ∃ Ed, g.S[j]? = some (.ex E Ed) ∧ tf [d, e] Qd Ed) I ⟨g, _, st, w, fun d v H1 w1 x1 s1 r1 => ⟨d, x1, s1, r1, w1⟩⟩) fun v s1 hv => ?_)
  obtain ⟨x, H1, I1, rx, d, x1, st1, r1, w1⟩ := hv
  refine thn (hb.run pins s1 σ H1 (fun y H2 => ∃ e, Ext g.z H1 H2 ∧ Stt g σ H2 ∧ Rp g.z g.M H2 y e ∧ (∃ ns vs, d = .ins C ns vs) ∧ ∃ Ed, g.S[j]? = some (.ex E Ed) ∧ tf [d, e] Qd Ed) I1 ⟨g, _, st1, w1, fun e u H2 w2 x2 s2 r2 => ⟨e, x2, s2, r2, w2⟩⟩) fun u s2 hu => ?_
  obtain ⟨y, H2, I2, ry, e, x2, st2, r2, ⟨ns, vs, rfl⟩, Ed, ej, w2⟩ := hu
  have r1' := r1.ext x2
  obtain ⟨a, dx, fs, rfl, h, _⟩ := Pk.ins (.inl r1')
  obtain rfl : v = Value.ref a := rx
  obtain ⟨ox, od, ia⟩ := instAt_of I2.hok h
  obtain ⟨m, fr⟩ := I2.fr
  refine PySem.W.sub_K fr I2.ok.mod.kin ia o.at_ o.fi o.fn (run_in1 (dvs := []) (vs := [.ref a, y]) F hr hbn .nil hx I2 (.cons (show RelV (.ref a) (.ref a) from rfl) (.cons ry .nil)) ⟨rfl, g.z, g.M, _, Qd, Ed, st2.amb, .cons r1' (.cons r2 .nil), w2, fun d v H' q x b rp => kk d v H' q ((x1.trans x2).trans x) (st2.ext x b) rp, st2.link ej⟩) (hs _ _)
/-- instance op a value of the type Tn (not one in the heap), by the own op -/
theorem op_instX {op : Operator} {Tn : String} (o : OpL X.K C op Tn f) (F : FnOk X.prog X.w X.K X.mg X.base (L2.CX X.prog X.w) k f fd ps (spX 2 tf)) (hr : Room k X.A) (hb : Binds X.K fd ps []) (hx : Passes (L2.CX X.prog X.w) X E) {PV : V → Prop} (hT : ∀ y u, PV y → RelV y u → typeOf u = pure (.type Tn)) :
    OpR X (binaryOp op) (fun x y H Q => ∃ a dx fs, x = .ref a ∧ PV y ∧ H a = some (.ins C dx fs) ∧ spX 2 tf [x, y] H Q E) := by
  intro pins s σ H x y v u Q I rx ry h
  obtain ⟨a, dx, fs, rfl, hy, e, w⟩ := h
  obtain rfl : v = Value.ref a := rx
  obtain ⟨ox, od, ia⟩ := instAt_of I.hok e
  obtain ⟨m, fr⟩ := I.fr
  obtain ⟨rc, r1, r2⟩ := o.refl
  obtain ⟨fo, t1⟩ := o.tl
  obtain ⟨ro, t2⟩ := o.tr
  refine PySem.W.ksp_binT (T := Tn) fr I.ok.mod.kin ia (hT y u hy ry) o.first o.at_ o.fn r1 r2 t1 t2 o.sub ?_
  exact thn (run_fn (dvs := []) (vs := [.ref a, y]) F hr hb .nil hx I (.cons (show RelV (.ref a) (.ref a) from rfl) (.cons ry .nil)) w) fun v s' h => back_of h
structure OpL4 (K : PySem.W.Frag) (C : Addr) (op : Operator) (f : Addr) : Prop where
  i : OpL K C op "int" f
  n : OpL K C op "NoneType" f
  s : OpL K C op "str" f
  b : OpL K C op "bool" f
def scalV : V → Prop
  | .int _ => True
  | .non => True
  | .str _ => True
  | .bl _ => True
  | _ => False
def scalD : D → Prop
  | .int _ => True
  | .non => True
  | .str _ => True
  | .bl _ => True
  | _ => False
theorem op_inst4X {op : Operator} (o : OpL4 X.K C op f) (F : FnOk X.prog X.w X.K X.mg X.base (L2.CX X.prog X.w) k f fd ps (spX 2 tf)) (hr : Room k X.A) (hb : Binds X.K fd ps []) (hx : Passes (L2.CX X.prog X.w) X E) :
    OpR X (binaryOp op) (fun x y H Q => ∃ a dx fs, x = .ref a ∧ scalV y ∧ H a = some (.ins C dx fs) ∧ spX 2 tf [x, y] H Q E) := by
  intro pins s σ H x y v u Q I rx ry h
  obtain ⟨a, dx, fs, e1, hy, e2, w⟩ := h
  cases y with
  | int i => exact op_instX (PV := fun y => ∃ i, y = .int i) o.i F hr hb hx (fun y u ⟨i, e⟩ r => by subst e; obtain ⟨t, rfl⟩ := r; rfl) pins s σ H _ _ v u Q I rx ry ⟨a, dx, fs, e1, ⟨i, rfl⟩, e2, w⟩
  | non => exact op_instX (PV := fun y => y = .non) o.n F hr hb hx (fun y u e r => by subst e; obtain rfl : u = Value.none := r; rfl) pins s σ H _ _ v u Q I rx ry ⟨a, dx, fs, e1, rfl, e2, w⟩
  | str z => exact op_instX (PV := fun y => ∃ i, y = .str i) o.s F hr hb hx (fun y u ⟨i, e⟩ r => by subst e; obtain ⟨t, rfl⟩ := r; rfl) pins s σ H _ _ v u Q I rx ry ⟨a, dx, fs, e1, ⟨z, rfl⟩, e2, w⟩
  | bl z => exact op_instX (PV := fun y => ∃ i, y = .bl i) o.b F hr hb hx (fun y u ⟨i, e⟩ r => by subst e; obtain rfl : u = Value.bool i := r; rfl) pins s σ H _ _ v u Q I rx ry ⟨a, dx, fs, e1, ⟨z, rfl⟩, e2, w⟩
  | _ => exact hy.elim
def dOpLX (j : Nat) (E : XK) (C : Addr) (tf : TDX) (ta tb : TDE) : TDE := fun S Q => ta S fun d => tb S fun e => (∃ ns vs, d = .ins C ns vs) ∧ scalD e ∧ ∃ Ed, S[j]? = some (.ex E Ed) ∧ tf [d, e] Q Ed
theorem de_opLX {op : Operator} (ha : PE X a (lE ta)) (hb : PE X b (lE tb)) (o : OpL4 X.K C op f) (F : FnOk X.prog X.w X.K X.mg X.base (L2.CX X.prog X.w) k f fd ps (spX 2 tf)) (hr : Room k X.A) (hbn : ∃ dsv, Vals [] dsv ∧ Binds X.K fd ps dsv) (hx : Passes (L2.CX X.prog X.w) X E) : PE X (.BinOp a op b pos) (lE (dOpLX j E C tf ta tb)) :=
  PE.imp (pe_op (op_inst4X o F hr (by obtain ⟨dsv, v, h⟩ := hbn; cases v; exact h) hx) ha hb) fun σ H Q ⟨g, Qd, s, w, kk⟩ =>
    ⟨g, _, s, w, fun d v H1 w1 x1 s1 r1 => ⟨g, _, s1, w1, fun e u H2 w2 x2 s2 r2 => by
      obtain ⟨⟨ns, vs, rfl⟩, he, Ed, ej, w3⟩ := w2
      have r1' := r1.ext x2
      obtain ⟨a, dx, fs, rfl, h, _⟩ := Pk.ins (.inl r1')
      exact ⟨a, dx, fs, rfl, by cases r2 <;> first | exact True.intro | exact he.elim, h, rfl, g.z, g.M, _, Qd, Ed, s2.amb, .cons r1' (.cons r2 .nil), w3, fun d v H' q x b rp => kk d v H' q ((x1.trans x2).trans x) (s2.ext x b) rp, s2.link ej⟩⟩⟩
end
end L2.DL


set_option Elab.async false
set_option linter.all false
set_option maxRecDepth 100000
set_option maxHeartbeats 4000000
namespace L2.DL
open PySem PySem.Spec PyProof.Rows
/-! ### texts: count, endswith and split by one sign; names from a list -/
def splitL (c : Nat) : List Nat → List Nat → List (List Nat)
  | acc, [] => [acc]
  | acc, x :: r => if x = c then acc :: splitL c [] r else splitL c (acc ++ [x]) r
theorem pre_one (c x : Nat) (r : List Nat) : TL.pre [c] (x :: r) = decide (x = c) := by
  unfold TL.pre
  by_cases h : x = c
  · subst h; simp
  · simp [h]
theorem spl_one (c : Nat) : ∀ l acc : List Nat, TL.spl [c] 0 acc l = splitL c acc l
  | [], acc => by
    unfold TL.spl splitL
    rfl
  | x :: r, acc => by
    unfold TL.spl splitL
    rw [pre_one]
    by_cases h : x = c
    · rw [if_pos (by simpa using h), if_pos h]
      exact congrArg (acc :: ·) (spl_one c r [])
    · rw [if_neg (by simpa using h), if_neg h]
      exact spl_one c r _
theorem splitL_len (c : Nat) : ∀ l acc : List Nat, (splitL c acc l).length = l.count c + 1
  | [], acc => rfl
  | x :: r, acc => by
    unfold splitL
    by_cases h : x = c
    · rw [if_pos h, h, List.length_cons, splitL_len c r [], List.count_cons_self]
    · rw [if_neg h, splitL_len c r _, List.count_cons_of_ne h]
theorem splitL_none (c : Nat) : ∀ l acc : List Nat, c ∉ l → splitL c acc l = [acc ++ l]
  | [], acc, _ => by simp [splitL]
  | x :: r, acc, h => by
    rw [List.mem_cons, not_or] at h
    unfold splitL
    rw [if_neg (fun q => h.1 q.symm), splitL_none c r _ h.2]
    simp
theorem splitL_app (c : Nat) : ∀ l acc m : List Nat, c ∉ l → splitL c acc (l ++ c :: m) = (acc ++ l) :: splitL c [] m
  | [], acc, m, _ => by simp [splitL]
  | x :: r, acc, m, h => by
    rw [List.mem_cons, not_or] at h
    rw [List.cons_append]
    show (if x = c then acc :: splitL c [] (r ++ c :: m) else splitL c (acc ++ [x]) (r ++ c :: m)) = _
    rw [if_neg (fun q => h.1 q.symm), splitL_app c r _ m h.2]
    simp
theorem txt_split {s : List Nat} {c : Nat} (hc : c < 256) : Txt.split (S2 s) (S2 [c]) = (splitL c [] s).map S2 := by
  have h := SX.split_S (a := s) (b := [c]) (by simp) (by simpa using hc)
  rw [spl_one] at h
  exact h
theorem txt_count (s : List Nat) (c : Nat) : Txt.count (S2 s) (S2 [c]) = (s.count c : Nat) := by
  have hy : TL.tl (S2 [c]) ≠ [] := by
    intro h
    cases h
  obtain ⟨f, g, hn⟩ := StrLaws.occ_tight (S2 s) (S2 [c]) (TL.len1 hy)
  have key := TL.parts_spl hy _ 0 f (Nat.zero_le _) g hn
  have key := congrArg List.length key
  rw [List.drop_zero, List.length_map] at key
  have e1 : TL.spl (TL.tl (S2 [c])) 0 [] (TL.tl (S2 s)) = splitL c [] s := spl_one c s []
  rw [e1, splitL_len] at key
  have pf : ∀ (x : Str) (w : Nat) (cuts : List Nat) (a : Nat), (StrLaws.partsFrom x w a cuts).length = cuts.length + 1 := by
    intro x w cuts
    induction cuts with
    | nil => intro a; rfl
    | cons b r ih => intro a; show (StrLaws.partsFrom x w (b + w) r).length + 1 = _; rw [ih]; rfl
  rw [pf] at key
  unfold Txt.count
  exact congrArg (fun n : Nat => (n : Int)) (Nat.succ.inj key)
theorem txt_ends (s : List Nat) (c : Nat) : Txt.endswith (S2 s) (S2 [c]) = decide (s.getLast? = some c) := by
  unfold Txt.endswith
  have e1 : (S2 [c]).length = 1 := rfl
  have e2 : (S2 s).length = s.length := S2_length s
  rw [StrLaws.subAt_eq, e1, e2]
  show (decide (0 + 1 ≤ s.length) && ((s.drop (s.length - 1)).take 1 == [c])) = _
  cases h : s.getLast? with
  | none =>
    rw [List.getLast?_eq_none_iff] at h
    subst h
    rfl
  | some d =>
    have hne : s ≠ [] := by
      intro q
      subst q
      cases h
    have hl := List.length_pos_iff.mpr hne
    have hd : s.drop (s.length - 1) = [d] := by
      rw [List.getLast?_eq_some_getLast hne] at h
      cases h
      have h1 := List.dropLast_concat_getLast hne
      have h2 := List.take_append_drop (s.length - 1) s
      rw [← List.dropLast_eq_take] at h2
      exact List.append_cancel_left (h2.trans h1.symm)
    rw [hd]
    have : decide (0 + 1 ≤ s.length) = true := decide_eq_true (by omega)
    rw [this, Bool.true_and]
    show ([d] == [c]) = decide (some d = some c)
    by_cases q : d = c
    · subst q; simp
    · simp [q]
section
variable {X : Cx} {o e : Expr} {to te : TE} {ta tb : TDE} {pos apos : Pos}
def rCountD : List Nat → D → (D → Prop) → Prop := fun s y Q => ∃ c, y = .str [c] ∧ Q (.int (s.count c : Nat))
def rEndsD : List Nat → D → (D → Prop) → Prop := fun s y Q => ∃ c, y = .str [c] ∧ Q (.bl (decide (s.getLast? = some c)))
def rSplitD : List Nat → D → (D → Prop) → Prop := fun s y Q => ∃ c, y = .str [c] ∧ c < 256 ∧ s.length + 2 ≤ sizeLine ∧ Q (.lst ((splitL c [] s).map D.str))
def dM1 (R : List Nat → D → (D → Prop) → Prop) (to te : TDE) : TDE := fun S Q => to S fun x => ∃ a, x = .str a ∧ te S fun y => R a y Q
theorem de_count (ho : PE X o (lP ta)) (he : PE X e (lP tb)) (hs : starEach [e] X.env = [(false, eval e X.env)] := by rfl) (hbase : attributeBase o "count" X.env (eval o X.env) = eval o X.env := by rfl) (hline : (apos.endLine == pos.line) = true := by rfl) :
    PE X (.Call (.Attribute o "count" apos) [e] [] pos) (lE (dM1 rCountD ta tb)) := PE.imp (pe_m1 F.slot_str_count F.type_str_count mt_count ho he hs hbase hline) fun σ H Q ⟨g, Qd, s, w, k⟩ =>
  ⟨g, _, s, w, fun d v H1 w1 x1 s1 r1 => by
    obtain ⟨a, rfl, w1⟩ := w1
    cases r1.str
    refine ⟨⟨_, rfl⟩, g, _, s1, w1, fun d2 v2 H2 w2 x2 s2 r2 => ?_⟩
    obtain ⟨c, rfl, w2⟩ := w2
    cases r2.str
    refine ⟨_, _, rfl, rfl, ?_⟩
    rw [txt_count]
    exact k _ _ H2 w2 (x1.trans x2) s2 (.int _)⟩
theorem de_ends (ho : PE X o (lP ta)) (he : PE X e (lP tb)) (hs : starEach [e] X.env = [(false, eval e X.env)] := by rfl) (hbase : attributeBase o "endswith" X.env (eval o X.env) = eval o X.env := by rfl) (hline : (apos.endLine == pos.line) = true := by rfl) :
    PE X (.Call (.Attribute o "endswith" apos) [e] [] pos) (lE (dM1 rEndsD ta tb)) := PE.imp (pe_m1 F.slot_str_endswith F.type_str_endswith mt_endswith ho he hs hbase hline) fun σ H Q ⟨g, Qd, s, w, k⟩ =>
  ⟨g, _, s, w, fun d v H1 w1 x1 s1 r1 => by
    obtain ⟨a, rfl, w1⟩ := w1
    cases r1.str
    refine ⟨⟨_, rfl⟩, g, _, s1, w1, fun d2 v2 H2 w2 x2 s2 r2 => ?_⟩
    obtain ⟨c, rfl, w2⟩ := w2
    cases r2.str
    refine ⟨_, _, rfl, rfl, ?_⟩
    rw [txt_ends]
    exact k _ _ H2 w2 (x1.trans x2) s2 (.bl _)⟩
theorem df_split (ho : PE X o (lP ta)) (he : PE X e (lP tb)) (hs : starEach [e] X.env = [(false, eval e X.env)] := by rfl) (hbase : attributeBase o "split" X.env (eval o X.env) = eval o X.env := by rfl) (hline : (apos.endLine == pos.line) = true := by rfl) :
    PE X (.Call (.Attribute o "split" apos) [e] [] pos) (lF (dM1 rSplitD ta tb)) := PE.imp (pe_split ho he hs hbase hline) fun σ H Q ⟨g, Qd, s, w, k⟩ =>
  ⟨g, _, s, w, fun d v H1 w1 x1 s1 r1 => by
    obtain ⟨a, rfl, w1⟩ := w1
    cases r1.str
    refine ⟨⟨_, rfl⟩, g, _, s1, w1, fun d2 v2 H2 w2 x2 s2 r2 => ?_⟩
    obtain ⟨c, rfl, hc, hl, w2⟩ := w2
    cases r2.str
    refine ⟨_, _, rfl, rfl, rfl, by rw [S2_length]; exact hl, fun p hp => ?_⟩
    rw [txt_split hc]
    have hn : H p = none := (x1.trans x2).none_of hp fun q => s2.fresh hp (res_M q.res)
    exact k _ p _ w2 ((x1.trans x2).trans (.new hp)) (s2.alloc hp) hn (s2.fresh hp) (.lst upd_same (RpL.of_strs _))⟩
end
section
variable {X : Cx} {es : List Expr} {is : List Nat} {pos : Pos}
def dgLst (n : Nat) (t : TDGs) : TDG := fun d S Q => ∃ ds, d = .lst ds ∧ ds.length = n ∧ t ds S Q
theorem dg_lst {k n : Nat} {t : TDGs} (h : PGs X es (lGs is t)) (hc : X.calm = true := by rfl) (hn : (assignEach es X.env).length = n := by rfl) (hst : (assignEach es X.env).findIdx? (·.1) = none := by rfl) : PG X (.Tuple es k pos) (lG is (dgLst n t)) :=
  PG.imp (pg_lst hc h hn hst) fun v σ H Q ⟨g, d, Qd, s, r, w, k⟩ => by
    obtain ⟨ds, rfl, hl, w⟩ := w
    cases r with
    | lst h n l => exact ⟨_, _, rfl, .of h, by rw [l.length]; exact hl, g, ds, Qd, s, l, w, k⟩
end
end L2.DL


set_option Elab.async false
set_option linter.all false
set_option maxRecDepth 100000
set_option maxHeartbeats 4000000
namespace L2.DL
open PySem PySem.Spec PyProof.Rows
/-! ### a + instance by __radd__ that may raise: a text, None or a number at the left -/
theorem add_declines (i : Int) (t : Tok) (x C dx : Addr) : GivesAt (fun s => s.heap.get? x = some (PySem.W.instObj C dx)) (Builtin.«int.__add__» ⟨[.int i t, .ref x], []⟩) (.val .notImplemented) := by
  intro prog w A R s hx h
  unfold Builtin.«int.__add__» Builtin.Int.intBinary
  refine wpAny_bind (m := slotArgs "__add__" 1 _) (wpAny_pure ?_)
  refine wpAny_bind (m := Builtin.Int.intOfSelf _) (wpAny_bind (wpAny_pure (wpAny_pure ?_)))
  refine wpAny_bind (m := asInt? _) ?_
  show wpAny _ _ (asInt? (.ref x)) _ _ _
  unfold asInt?
  refine wpAny_bind (wpAny_load hx ?_)
  refine wpAny_pure ?_
  refine wpAny_bind (wpAny_rule ?_)
  exact wpAny_pure h
section
variable {prog : Program} {w : World} {A : Around} {E : Value → Shared → Prop} {s : Shared} {K : PySem.W.Frag} {x C f : Addr} {ox : Obj} {od : Option Obj} {Q : Value → Shared → Prop}
theorem radd_lit {z : Value} {T : String} {fo ro : Option Value} (X : K.In s.heap) (ia : PySem.W.InstAt s.heap x ox C od) (o : OpRA K C f) (hz : typeOf z = pure (.type T)) (t1 : PySem.W.findIn K (.type T) "__add__" = some fo) (t2 : PySem.W.findIn K (.type T) "__radd__" = some ro)
    (t3 : ((fo.isSome && !isSeqSlot fo) || (ro.isSome && !isSeqSlot ro)) = false) (h : wpAny (model prog w) A (call (.ref f) [.ref x, z]) (PySem.W.CmpBack Q) E s) : wpAny (model prog w) A (binaryOp .Add z (.ref x)) Q E s := by
  have d1 : PySem.dunder "add" = ("__add__" : Str) := by decide
  have d2 : dunderR "add" = ("__radd__" : Str) := by decide
  unfold binaryOp
  apply wpAny_holding
  show wpAny (model prog w) A (binaryOp1 "add" z (.ref x) >>= _) Q E s
  apply wpAny_bind
  unfold binaryOp1
  rw [d1, d2]
  refine wpAny_bind (wpAny_of_eq hz ?_)
  refine wpAny_bind (wpAny_typeOf_ref ia.at_ ?_)
  rw [ia.cls]
  apply wpAny_bind
  refine PySem.W.ksp_fillsT (nm := "add") (T := T) X (by rw [d1]; exact t1) (by rw [d2]; exact t2) A _ E s (fun _ _ e => e) ?_
  rw [t3]
  have hne : (Value.type T == Value.ref C) = false := Bool.eq_false_iff.mpr fun q => by cases beq_iff_eq.mp q
  simp only [hne, Bool.false_and, Bool.false_eq_true, if_false, Bool.not_false, Bool.and_true]
  apply wpAny_bind
  refine fills_R o X A _ E s (fun _ _ e => e) ?_
  simp only [if_true]
  refine wpAny_bind (wpAny_pure ?_)
  simp only [Bool.false_eq_true, if_false]
  apply wpAny_bind
  refine thn (PySem.W.ksp_try X ia o.at_ o.fn h) fun r s' hq => ?_
  obtain ⟨v, rfl, q⟩ := hq
  apply wpAny_bind
  refine wpAny_rule ?_
  refine wpAny_pure ?_
  exact wpAny_pure q
theorem radd_int {i : Int} {t : Tok} {dx : Addr} (X : K.In s.heap) (ia : PySem.W.InstAt s.heap x (PySem.W.instObj C dx) C od) (o : OpRA K C f) (hs : PySem.W.subIn K (.ref C) (.type "int") = some false)
    (h : wpAny (model prog w) A (call (.ref f) [.ref x, .int i t]) (PySem.W.CmpBack Q) E s) : wpAny (model prog w) A (binaryOp .Add (.int i t) (.ref x)) Q E s := by
  have d1 : PySem.dunder "add" = ("__add__" : Str) := by decide
  have d2 : dunderR "add" = ("__radd__" : Str) := by decide
  have hpy : numberSlotInPython (.type "int") "add" = pure false := rfl
  unfold binaryOp
  apply wpAny_holding
  show wpAny (model prog w) A (binaryOp1 "add" (.int i t) (.ref x) >>= _) Q E s
  apply wpAny_bind
  unfold binaryOp1
  refine wpAny_bind (wpAny_of_eq (show typeOf (.int i t) = pure (.type "int") from rfl) ?_)
  refine wpAny_bind (wpAny_typeOf_ref ia.at_ ?_)
  rw [ia.cls]
  apply wpAny_bind
  rw [F.fills_int_add]
  refine wpAny_pure ?_
  have hne : (Value.type "int" == Value.ref C) = false := rfl
  simp only [hne, Bool.false_eq_true, if_false]
  apply wpAny_bind
  refine fills_R o X A _ E s (fun _ _ e => e) ?_
  simp only [Bool.and_self, if_true]
  apply wpAny_bind
  refine PySem.W.looks_subIn X hs A _ E s (fun _ _ e => e) ?_
  simp only [Bool.false_eq_true, if_false, pure_bind, Bool.not_false, Bool.and_self, if_true, hpy]
  have hc : wpAny (model prog w) A (call (.builtin "int.__add__") [.int i t, .ref x]) (fun v s' => v = .notImplemented ∧ s' = s) E s :=
    call_givesAt F.slot_int_add (typeIs_int s i t) F.entry_int_add (F.args_int_add_2 _ _) (add_declines i t x C dx) ia.at_ ⟨rfl, rfl⟩
  obtain ⟨R, hR⟩ : ∃ R : Option Value → Shared → Prop, R = fun r s' => r = none ∧ s' = s := ⟨_, rfl⟩
  have hc' : wpAny (model prog w) A (call (.builtin "int.__add__") [.int i t, .ref x]) (fun v s' => v = .notImplemented ∧ R none s') E s := thn hc fun v s' h => ⟨h.1, by rw [hR]; exact ⟨rfl, h.2⟩⟩
  have hd : wpAny (model prog w) A (tryMethod (.int i t) (PySem.dunder "add") (.ref x)) R E s := @wpAny_tryMethod_declines (model prog w) A E s (.int i t) (.ref x) "int" (PySem.dunder "add") "int.__add__" R (typeIs_int s i t) F.slot_int_add hc'
  rw [hR] at hd
  apply wpAny_bind
  refine thn hd fun r s' h => ?_
  obtain ⟨rfl, rfl⟩ := h
  refine wpAny_bind ?_
  rw [d2]
  refine thn (PySem.W.ksp_try X ia o.at_ o.fn h) fun r s' hq => ?_
  obtain ⟨v, rfl, q⟩ := hq
  apply wpAny_bind
  refine wpAny_rule ?_
  refine wpAny_pure ?_
  exact wpAny_pure q
end
structure OpRA3 (K : PySem.W.Frag) (C : Addr) (f : Addr) : Prop where
  b : OpRA K C f
  n1 : PySem.W.findIn K (.type "NoneType") "__add__" = some none
  n2 : PySem.W.findIn K (.type "NoneType") "__radd__" = some none
  si : PySem.W.subIn K (.ref C) (.type "int") = some false
def litV : V → Prop
  | .int _ => True
  | .non => True
  | .str _ => True
  | _ => False
def litD : D → Prop
  | .int _ => True
  | .non => True
  | .str _ => True
  | _ => False
section
variable {X : Cx} {C f : Addr} {fd : FuncData} {ps : List Str} {tf : TDX} {j k : Nat} {E : XK} {a b : Expr} {ta tb : TDE} {pos : Pos}
theorem op_raddX (o : OpRA3 X.K C f) (F : FnOk X.prog X.w X.K X.mg X.base (L2.CX X.prog X.w) k f fd ps (spX 2 tf)) (hr : Room k X.A) (hb : Binds X.K fd ps []) (hx : Passes (L2.CX X.prog X.w) X E) :
    OpR X (binaryOp .Add) (fun x y H Q => ∃ a dx fs, litV x ∧ y = .ref a ∧ H a = some (.ins C dx fs) ∧ spX 2 tf [y, x] H Q E) := by
  intro pins s σ H x y v u Q I rx ry h
  obtain ⟨a, dx, fs, hl, rfl, e, w⟩ := h
  obtain rfl : u = Value.ref a := ry
  have rx' := rx
  obtain ⟨mA, O, _⟩ := ins_get I.hok e
  obtain ⟨oo, es, ep, ho, _⟩ := O.ns
  have ia : PySem.W.InstAt s.heap a (PySem.W.instObj C dx) C (some oo) := ⟨O.obj, rfl, rfl, ho⟩
  have go := thn (run_fn (dvs := []) (vs := [.ref a, x]) F hr hb .nil hx I (.cons (show RelV (.ref a) (.ref a) from rfl) (.cons rx' .nil)) w) fun v s' h => back_of h
  cases x with
  | int i =>
    obtain ⟨t, rfl⟩ := rx
    exact radd_int I.kIn ia o.b o.si go
  | non =>
    obtain rfl : v = Value.none := rx
    exact radd_lit (T := "NoneType") I.kIn ia o.b rfl o.n1 o.n2 rfl go
  | str z =>
    obtain ⟨t, rfl⟩ := rx
    obtain ⟨fo, t1, t2⟩ := o.b.tl
    exact radd_lit (T := "str") I.kIn ia o.b rfl t1 o.b.tr (by rw [t2]; cases fo <;> rfl) go
  | _ => exact hl.elim
def dRaddX (j : Nat) (E : XK) (C : Addr) (tf : TDX) (ta tb : TDE) : TDE := fun S Q => ta S fun d => tb S fun e => litD d ∧ (∃ ns vs, e = .ins C ns vs) ∧ ∃ Ed, S[j]? = some (.ex E Ed) ∧ tf [e, d] Q Ed
theorem de_raddX (ha : PE X a (lE ta)) (hb : PE X b (lE tb)) (o : OpRA3 X.K C f) (F : FnOk X.prog X.w X.K X.mg X.base (L2.CX X.prog X.w) k f fd ps (spX 2 tf)) (hr : Room k X.A) (hbn : ∃ dsv, Vals [] dsv ∧ Binds X.K fd ps dsv) (hx : Passes (L2.CX X.prog X.w) X E) : PE X (.BinOp a .Add b pos) (lE (dRaddX j E C tf ta tb)) :=
  PE.imp (pe_op (op_raddX o F hr (bnil hbn) hx) ha hb) fun σ H Q ⟨g, Qd, s, w, kk⟩ =>
    ⟨g, _, s, w, fun d v H1 w1 x1 s1 r1 => ⟨g, _, s1, w1, fun e u H2 w2 x2 s2 r2 => by
      obtain ⟨hd, ⟨ns, vs, rfl⟩, Ed, ej, w3⟩ := w2
      have r1' := r1.ext x2
      obtain ⟨a, dx, fs, rfl, h, _⟩ := Pk.ins (.inl r2)
      exact ⟨a, dx, fs, by cases r1 <;> first | exact True.intro | exact hd.elim, rfl, h, rfl, g.z, g.M, _, Qd, Ed, s2.amb, .cons r2 (.cons r1' .nil), w3, fun d v H' q x b rp => kk d v H' q ((x1.trans x2).trans x) (s2.ext x b) rp, s2.link ej⟩⟩⟩
/-! ### instance op a tuple, that may raise -/
theorem binR {op : Operator} {y : Addr} {T : String} {h₀ : Heap} {L : Addr} {m : Str → Option Value} {prog : Program} {w : World} {A : Around} {EE : Value → Shared → Prop} {s : Shared} {K : PySem.W.Frag} {x C f : Addr} {ox oy : Obj} {od : Option Obj} {fo ro rc : Option Value} {Q : Value → Shared → Prop}
    (F : Fr h₀ L s.heap m) (X₀ : K.In h₀) (I : PySem.W.InstAt s.heap x ox C od) (hy : s.heap.get? y = some oy) (hc : oy.cls = .type T) (o1 : PySem.W.selfFirst K C = true) (hs : PySem.W.findIn K (.ref C) (PySem.dunder op.info.2) = some (some (.ref f))) (hf : PySem.W.isFn K (.ref f) = true)
    (hr : PySem.W.findIn K (.ref C) (dunderR op.info.2) = some rc) (hp : rc = none ∨ ∃ g : Addr, rc = some (.ref g)) (h1 : PySem.W.findIn K (.type T) (PySem.dunder op.info.2) = some fo) (h2 : PySem.W.findIn K (.type T) (dunderR op.info.2) = some ro)
    (h3 : ((fo.isSome && !isSeqSlot fo) || (ro.isSome && !isSeqSlot ro)) = false) (h : wpAny (model prog w) A (call (.ref f) [.ref x, .ref y]) (PySem.W.CmpBack Q) EE s) : wpAny (model prog w) A (binaryOp op (.ref x) (.ref y)) Q EE s := by
  have X := X₀.keeps F.keep
  obtain ⟨cd, rest, hcd, hm⟩ := PySem.W.ksp_first o1
  have hne : (Value.ref C == Value.type T) = false := Bool.eq_false_iff.mpr fun q => by cases beq_iff_eq.mp q
  rcases hi : op.info with ⟨sym, nm⟩
  rw [hi] at hs hr h1 h2
  simp only [binaryOp, hi]
  apply wpAny_holding
  apply wpAny_bind
  unfold binaryOp1
  refine wpAny_bind (wpAny_typeOf_ref I.at_ ?_)
  rw [I.cls]
  refine wpAny_bind (wpAny_typeOf_ref hy ?_)
  rw [hc]
  apply wpAny_bind
  refine PySem.W.fills_K (M := model prog w) X hcd hm hs A _ EE s (fun _ _ e => e) ?_
  simp only [hne, Bool.false_eq_true, if_false]
  apply wpAny_bind
  refine PySem.W.ksp_fillsT (M := model prog w) (nm := nm) (T := T) X h1 h2 A _ EE s (fun _ _ e => e) ?_
  rw [h3]
  simp only [Bool.and_false, Bool.false_and, Bool.false_eq_true, if_false, pure_bind, if_true]
  apply wpAny_bind
  refine thn (PySem.W.ksp_try X I hs hf h) fun r s' hq => ?_
  obtain ⟨v, rfl, q⟩ := hq
  exact wpAny_pure (wpAny_pure q)
structure OpL5 (K : PySem.W.Frag) (C : Addr) (op : Operator) (f : Addr) : Prop where
  s : OpL4 K C op f
  tl : PySem.W.findIn K (.type "tuple") (PySem.dunder op.info.snd) = some none
  tr : PySem.W.findIn K (.type "tuple") (dunderR op.info.snd) = some none
theorem op_tupX {op : Operator} (o : OpL5 X.K C op f) (F : FnOk X.prog X.w X.K X.mg X.base (L2.CX X.prog X.w) k f fd ps (spX 2 tf)) (hr : Room k X.A) (hb : Binds X.K fd ps []) (hx : Passes (L2.CX X.prog X.w) X E) :
    OpR X (binaryOp op) (fun x y H Q => ∃ a dx fs p xs, x = .ref a ∧ y = .ref p ∧ H p = some (.tup xs) ∧ H a = some (.ins C dx fs) ∧ spX 2 tf [x, y] H Q E) := by
  intro pins s σ H x y v u Q I rx ry h
  obtain ⟨a, dx, fs, p, xs, rfl, rfl, hp, e, w⟩ := h
  obtain rfl : v = Value.ref a := rx
  obtain rfl : u = Value.ref p := ry
  obtain ⟨ox, od, ia⟩ := instAt_of I.hok e
  obtain ⟨m, fr⟩ := I.fr
  obtain ⟨rc, r1, r2⟩ := o.s.i.refl
  obtain ⟨_, its, hi, oy, hy, hcls, sz, hda⟩ := I.hok p _ hp
  exact binR (T := "tuple") fr I.ok.mod.kin ia hy hcls o.s.i.first o.s.i.at_ o.s.i.fn r1 r2 o.tl o.tr rfl (thn (run_fn (dvs := []) (vs := [.ref a, .ref p]) F hr hb .nil hx I (.cons (show RelV (.ref a) (.ref a) from rfl) (.cons (show RelV (.ref p) (.ref p) from rfl) .nil)) w) fun v s' h => back_of h)
def scal5 : D → Prop
  | .int _ => True
  | .non => True
  | .str _ => True
  | .bl _ => True
  | .tup _ => True
  | _ => False
def dOpL5 (j : Nat) (E : XK) (C : Addr) (tf : TDX) (ta tb : TDE) : TDE := fun S Q => ta S fun d => tb S fun e => (∃ ns vs, d = .ins C ns vs) ∧ scal5 e ∧ ∃ Ed, S[j]? = some (.ex E Ed) ∧ tf [d, e] Q Ed
theorem de_opL5 {op : Operator} (ha : PE X a (lE ta)) (hb : PE X b (lE tb)) (o : OpL5 X.K C op f) (F : FnOk X.prog X.w X.K X.mg X.base (L2.CX X.prog X.w) k f fd ps (spX 2 tf)) (hr : Room k X.A) (hbn : ∃ dsv, Vals [] dsv ∧ Binds X.K fd ps dsv) (hx : Passes (L2.CX X.prog X.w) X E) : PE X (.BinOp a op b pos) (lE (dOpL5 j E C tf ta tb)) :=
  PE.imp (pe_op (OpR.or (op_inst4X o.s F hr (bnil hbn) hx) (op_tupX o F hr (bnil hbn) hx)) ha hb) fun σ H Q ⟨g, Qd, s, w, kk⟩ =>
    ⟨g, _, s, w, fun d v H1 w1 x1 s1 r1 => ⟨g, _, s1, w1, fun e u H2 w2 x2 s2 r2 => by
      obtain ⟨⟨ns, vs, rfl⟩, he, Ed, ej, w3⟩ := w2
      have r1' := r1.ext x2
      obtain ⟨a, dx, fs, rfl, h, _⟩ := Pk.ins (.inl r1')
      have fin : spX 2 tf [.ref a, u] H2 Q E := ⟨rfl, g.z, g.M, _, Qd, Ed, s2.amb, .cons r1' (.cons r2 .nil), w3, fun d v H' q x b rp => kk d v H' q ((x1.trans x2).trans x) (s2.ext x b) rp, s2.link ej⟩
      by_cases ht : ∃ xs, e = .tup xs
      · obtain ⟨xs, rfl⟩ := ht
        cases r2 with
        | tup h2 n l => exact .inr ⟨a, dx, fs, _, _, rfl, rfl, h2, h, fin⟩
      · exact .inl ⟨a, dx, fs, rfl, by cases r2 <;> first | exact True.intro | exact he.elim | exact (ht ⟨_, rfl⟩).elim, h, fin⟩⟩⟩
end
end L2.DL


set_option Elab.async false
set_option linter.all false
set_option maxRecDepth 100000
set_option maxHeartbeats 4000000
namespace L2.DL
open PySem PySem.Spec PyProof.Rows
/-! ### the lambdas of the law's def, one by one -/
def exprZ : Expr := .Name "" ⟨0, 0, 0, 0⟩
def kE : Expr → Nat → Expr
  | .List es _, k => es.getD k exprZ
  | .Tuple es _ _, k => es.getD k exprZ
  | .Call f as _ _, k => (f :: as).getD k exprZ
  | .Compare a _ bs _, k => (a :: bs).getD k exprZ
  | .BoolOp _ es _, k => es.getD k exprZ
  | .UnaryOp _ a _, _ => a
  | .BinOp a _ b _, k => [a, b].getD k exprZ
  | .IfExp a b c _, k => [a, b, c].getD k exprZ
  | .Attribute a _ _, _ => a
  | .Subscript a b _, k => [a, b].getD k exprZ
  | _, _ => exprZ
def kS : Stmt → Nat → Stmt
  | .For _ _ b _ _, k => b.getD k (.Pass ⟨0, 0, 0, 0⟩)
  | .While _ b _ _, k => b.getD k (.Pass ⟨0, 0, 0, 0⟩)
  | .If _ b c _, k => (b ++ c).getD k (.Pass ⟨0, 0, 0, 0⟩)
  | .FunctionDef _ _ b _ _ _ _ _ _ _, k => b.getD k (.Pass ⟨0, 0, 0, 0⟩)
  | _, _ => .Pass ⟨0, 0, 0, 0⟩
def vS : Stmt → Expr
  | .Assign _ v _ => v
  | .If t _ _ _ => t
  | .While t _ _ _ => t
  | .For _ i _ _ _ => i
  | .Return (some v) _ => v
  | .Expr v _ => v
  | _ => exprZ
def lamOf : Expr → LamN
  | .Lambda p b s _ => ⟨p, b, s⟩
  | _ => ⟨⟨[], [], none, [], [], none, []⟩, exprZ, { kind := .function, names := [], isGenerator := false, isCoroutine := false, more := [] }⟩
/-- the lambda at a path: down the statements, then down the expression -/
def lamAt (st : Stmt) (ss es : List Nat) : LamN := lamOf (es.foldl kE (vS (ss.foldl kS st)))
section
variable {X : Cx} {c P : Addr} {params : Arguments} {body : Expr} {scope : Scope} {pos : Pos} {j i : Nat} {lam : List LamN}
def dLamZ (j : Nat) (zf : Bz → MS → Hp → Prop) (i : Nat) : TDE := fun S Q => S[j]? = some (.zz zf) ∧ Q (.clo i)
variable {zf : Bz → MS → Hp → Prop}
theorem de_lamA (hz : zf = LZ lam P X.env.cells X.env.qual) (TB : LamX.TabB X.base X.mg c P) (L : LamS3 X.N X.env.scope scope) (hl : lam[i]? = some ⟨params, body, scope⟩) (hcode : X.env.code = .ref c := by rfl) (hdef : defaultsOf params X.env = ([], []) := by rfl) (hd0 : params.defaults = [] := by rfl) :
    PE X (.Lambda params body scope pos) (lE (dLamZ j zf i)) := by
  subst hz
  exact ⟨fun pins s σ H Q I h => (de_lam0 TB hcode (L.has I.ok) hl hdef hd0).run pins s σ H Q I h⟩
theorem de_lamB {e : Expr} {n : Int} (hz : zf = LZ lam P X.env.cells X.env.qual) (TB : LamX.TabB X.base X.mg c P) (L : LamS3 X.N X.env.scope scope) (hl : lam[i]? = some ⟨params, body, scope⟩) (he : PE X e (tC (.int n))) (hcode : X.env.code = .ref c := by rfl) (hd : params.defaults = [e] := by rfl) (hk0 : params.kw_defaults = [] := by rfl) :
    PE X (.Lambda params body scope pos) (lE (dLamZ j zf i)) := by
  subst hz
  exact ⟨fun pins s σ H Q I h => (de_lam1 TB hcode (L.has I.ok) hl he hd hk0).run pins s σ H Q I h⟩
theorem lamB_none {nd : LamN} (h0 : nd.params.defaults = []) (h : ∀ (q : Str) (cl : List (Str × Addr)) (doc pm cdv ct : Value), bindArgs (PySem.W.kdv_fn "<lambda>" q nd.params (.expr nd.body) nd.scope cl .none doc pm cdv ct) ⟨[], []⟩ = pure []) : LamB nd := fun q cl dv doc pm cdv ct s hd => by
  rcases hd with ⟨rfl, _⟩ | ⟨_, _, _, _, _, _, _, hne⟩
  · exact ⟨[], .of_eq (h q cl doc pm cdv ct), fun x hx => absurd hx (by simp)⟩
  · exact absurd h0 hne
theorem lamB_one {nd : LamN} {x : Str} (h0 : nd.params.defaults.isEmpty = false) (hx : nd.scope.names.lookup x = some .local) (h : ∀ (q : Str) (cl : List (Str × Addr)) (T : Addr) (doc pm cdv ct u : Value), ∃ k, bindArgs (PySem.W.kdv_fn "<lambda>" q nd.params (.expr nd.body) nd.scope cl (.ref T) doc pm cdv ct) ⟨[], []⟩ = seqItems? (.ref T) >>= k ∧ k (some #[u]) = pure [(x, u)]) : LamB nd := fun q cl dv doc pm cdv ct s hd => by
  rcases hd with ⟨_, hne⟩ | ⟨T, u, o, n, rfl, ho, hs, _⟩
  · rw [hne] at h0; cases h0
  · obtain ⟨k, e1, e2⟩ := h q cl T doc pm cdv ct u
    exact ⟨[(x, u)], BindsTo.of_defaults rfl ho hs e1 e2, fun y hy => by rw [List.mem_singleton.mp hy]; exact hx⟩
/-- the lambdas' bodies, as data -/
inductive PLam (X : Cx) (kp : Nat) : List LamN → List (XK → TDE) → Prop
  | nil : PLam X kp [] []
  | cons {nd : LamN} {t : XK → TDE} {r : List LamN} {ts : List (XK → TDE)} : LamS3 X.N X.env.scope nd.scope → LamB nd →
      (∀ (A : Around) (outer : List Env) (s : Shared) (H : Hp) (E : XK) (f c' : Addr), Room kp (A.deeper (LamX.lamEnv X nd.scope s.heap.objs.size f c')) → PE (LamX.lamCx X A outer s H E nd.scope f c') nd.body (lE (t E))) → PLam X kp r ts → PLam X kp (nd :: r) (t :: ts)
def tbL (ts : List (XK → TDE)) (i : Nat) (E : XK) : TDE := fun S Q => ∃ t, ts[i]? = some t ∧ t E S Q
theorem PLam.hb {kp : Nat} {ts : List (XK → TDE)} (p : PLam X kp lam ts) : ∀ (i : Nat) (nd : LamN), lam[i]? = some nd → LamS3 X.N X.env.scope nd.scope ∧ LamB nd ∧ ∀ (A : Around) (outer : List Env) (s : Shared) (H : Hp) (E : XK) (f c' : Addr), Room kp (A.deeper (LamX.lamEnv X nd.scope s.heap.objs.size f c')) →
    PE (LamX.lamCx X A outer s H E nd.scope f c') nd.body (lE (tbL ts i E)) := by
  induction p with
  | nil => intro i nd e; cases e
  | cons L B h r ih =>
    intro i nd e
    cases i with
    | zero =>
      cases e
      exact ⟨L, B, fun A outer s H E f c' hr => PE.imp (h A outer s H E f c' hr) fun σ H Q ⟨g, Qd, st, ⟨t', et, w⟩, kk⟩ => by cases et; exact ⟨g, Qd, st, w, kk⟩⟩
    | succ i => exact ih i nd e
theorem pl_cut {kp : Nat} {ts : List (XK → TDE)} {G : Prop} (p : PLam X kp lam ts) (h : ∀ ts', PLam X kp lam ts' → ts' = ts → G) : G := h ts p rfl
variable {k kp n jx : Nat} {f : Addr} {fd : FuncData} {ps : List Str} {x : Str} {q : Pos} {e : Expr} {es : List Expr} {ta : TDA} {tf : TCl → TDF} {tl : List (XK → TDE)}
def dCallZ (j jx : Nat) (zf : Bz → MS → Hp → Prop) (tb : Nat → XK → TDE) (n : Nat) (tf : TCl → TDF) (ts : TDA) : TDE := fun S Q => ts S fun ds => ds.length = n ∧ S[j]? = some (.zz zf) ∧ tf (fun i Qd Ed => ∀ E, tb i E (lamS S jx E Ed) Qd) ds Q
theorem de_callL (hz : zf = LZ lam P X.env.cells X.env.qual) (F : FnOk X.prog X.w X.K X.mg X.base CX0 k f fd ps (spSE X.prog X.w X.K X.mg X.base (kp + 1) n tf)) (hr : Room k X.A) (hm : X.mg x = some (.ref f)) (hk : PySem.W.keepIn X.K (.ref f) = true) (hbn : Binds X.K fd ps []) (hfn : ∀ x, X.fn x = true) (pl : PLam X kp lam tl)
    (ha : PA X (e :: es) (lA ta)) (hg : Gl X x := by rfl) (hdb : (x == ("__debug__" : Str)) = false := by decide) (he : starEach (e :: es) X.env = (false, eval e X.env) :: starEach es X.env := by rfl) (hpl : (backTo pos (starEach es X.env)).any (·.1) = false := by rfl) :
    PE X (.Call (.Name x q) (e :: es) [] pos) (lE (dCallZ j jx zf (tbL tl) n tf ta)) := by
  subst hz
  exact de_callSL F hr hm hk hbn hfn pl.hb ha hg hdb he hpl
theorem df_callL (hz : zf = LZ lam P X.env.cells X.env.qual) (F : FnOk X.prog X.w X.K X.mg X.base CX0 k f fd ps (spSF X.prog X.w X.K X.mg X.base (kp + 1) n tf)) (hr : Room k X.A) (hm : X.mg x = some (.ref f)) (hk : PySem.W.keepIn X.K (.ref f) = true) (hbn : Binds X.K fd ps []) (hfn : ∀ x, X.fn x = true) (pl : PLam X kp lam tl)
    (ha : PA X (e :: es) (lA ta)) (hg : Gl X x := by rfl) (hdb : (x == ("__debug__" : Str)) = false := by decide) (he : starEach (e :: es) X.env = (false, eval e X.env) :: starEach es X.env := by rfl) (hpl : (backTo pos (starEach es X.env)).any (·.1) = false := by rfl) :
    PE X (.Call (.Name x q) (e :: es) [] pos) (lF (dCallZ j jx zf (tbL tl) n tf ta)) := by
  subst hz
  exact df_callSL F hr hm hk hbn hfn pl.hb ha hg hdb he hpl
end
/-! ### the law's promise with a table -/
def spLawX (K : PySem.W.Frag) (P : Addr) : Sp := fun vs H Q _ => ∃ (s : Addr) (ns : List Int), vs = [.ref s] ∧ SqL K H s (ns.map V.int) ∧ ns.length ≤ 63 ∧ H P = some (.tbl #[]) ∧ ∀ H', Q (.bl true) H'
theorem lS_lawZ {t : TDS} {D : Ends} {p l P : Addr} {H : Hp} {v : Option V} {n : Nat} {lam : List LamN} {cl : List (Str × Addr)} {q : Str} {zf : Bz → MS → Hp → Prop} (hz : zf = LZ lam P cl q) (hb : BagAt H p l) (hP : H P = some (.tbl #[])) (hD : ∀ H', D.rt (.bl true) H')
    (w : t { nx := fun _ => False, rt := fun d => d = .bl true, rf := fun _ => False } (.no :: .val .bag :: (List.replicate n .no ++ [.zz zf, .no]))) : lS t D (v :: some (.ref p) :: List.replicate (n + 2) none) H := by
  subst hz
  exact lS_lawX hb hP hD w
end L2.DL


set_option Elab.async false
set_option linter.all false
set_option maxRecDepth 100000
set_option maxHeartbeats 4000000
namespace L2.DL
open PySem PySem.Spec PyProof.Rows
/-! ### a classmethod that may raise, read off its class -/
section
variable {X : Cx} {CX : CXT} {C p g f : Addr} {mc : Value} {fd : FuncData} {ps ks : List Str} {k n m i j : Nat} {tf : TDX} {E : XK} {sp : Sp} {dvs : List V} {dds : List D} {o e : Expr} {es : List Expr} {kws : List Keyword} {x mt : Str} {pp pos apos : Pos} {to : TDE} {ts tk : TDA} {ta : TE} {tka : TA} {pl : Sem Bool} {perm : List Nat}
def dCMethX (j : Nat) (E : XK) (C : Addr) (tf : TDX) (dds : List D) (to : TDE) (ts : TDA) : TDE := fun S Q => to S fun d => d = .raw (.ref C) ∧ ts S fun ds => ∃ Ed, S[j]? = some (.ex E Ed) ∧ tf (.raw (.ref C) :: (ds ++ dds)) Q Ed
theorem df_cmethX (he : PE X o (lE to)) (r : ClX.CRead X.K C mc) (c : ∃ p, ClX.CMet X.K C mc mt p g) (F : FnOk X.prog X.w X.K X.mg X.base (L2.CX X.prog X.w) k g fd ps (spXF n tf)) (hr : Room k X.A) (hb : ∃ dsv, Vals dvs dsv ∧ Binds X.K fd ps dsv) (hdd : ∀ z M H, RpL z M H dvs dds) (hx : Passes (L2.CX X.prog X.w) X E) (ha : PA X (e :: es) (lA ts)) (hn : ∀ ds Q Ed, tf ds Q Ed → ds.length = n)
    (hst : starEach (e :: es) X.env = (false, eval e X.env) :: starEach es X.env := by rfl) (hpl : (backTo pos (starEach es X.env)).any (·.1) = false := by rfl)
    (ht : eval (.Call (.Attribute o mt apos) (e :: es) [] pos) X.env = (do
      let ov ← eval o X.env
      standAt apos.atName
      let (f, first) ← holding [ov] (getMethod ov mt pl)
      callWith pos f first (backTo pos (starEach (e :: es) X.env)) (backToKw pos (keywordEach [] X.env))) := by rfl) :
    PE X (.Call (.Attribute o mt apos) (e :: es) [] pos) (lF (dCMethX j E C tf dds to ts)) := by
  obtain ⟨dsv, hd, hb⟩ := hb
  obtain ⟨pm, c⟩ := c
  exact PE.imp (ClX.pe_cmeth (pl := pl) he r c (F.raw hb hd) hr hx ha hst hpl ht) fun σ H Q ⟨g', Qd, s, w, kk⟩ =>
    ⟨g', _, s, w, fun d v H1 w1 x1 s1 r1 => by
      obtain ⟨rfl, w1⟩ := w1
      cases r1
      refine ⟨rfl, g', _, s1, w1, fun ds vs H2 w2 x2 s2 r2 => ?_⟩
      obtain ⟨Ed, ej, w2⟩ := w2
      have r3 : RpL g'.z g'.M H2 (V.ref C :: (vs ++ dvs)) (.raw (.ref C) :: (ds ++ dds)) := .cons (.raw _) (r2.append (hdd g'.z g'.M H2))
      exact ⟨by rw [show (V.ref C :: vs ++ dvs).length = (V.ref C :: (vs ++ dvs)).length from rfl, r3.length]; exact hn _ _ _ w2, g'.z, g'.M, _, Qd, Ed, s2.amb, r3, w2, fun d a H' q x b hn nm ow => kk d a H' q ((x1.trans x2).trans x) (s2.ext x b) ((x1.trans x2).none_of hn fun h => nm (res_M h.res)) nm ow, s2.link ej⟩⟩
theorem pe_cmethK0 (he : PE X o ta) (r : ClX.CRead X.K C mc) (c : ClX.CMet X.K C mc mt p g) (F : FnOk X.prog X.w X.K X.mg X.base CX k g fd ps sp) (hr : Room k X.A) (hb : KBp X.K fd ps 1 ks perm) (hx : Passes CX X E) (hkw : PK X kws tka)
    (hall : (backToKw pos (keywordEach kws X.env)).all (·.1.isSome) = true := by rfl) (hks : (backToKw pos (keywordEach kws X.env)).filterMap (·.1) = ks := by rfl)
    (hpl : ((backTo pos (starEach [] X.env)).any (·.1) || (backToKw pos (keywordEach kws X.env)).any (·.1.isNone)) = false := by rfl)
    (ht : eval (.Call (.Attribute o mt apos) [] kws pos) X.env = (do
      let ov ← eval o X.env
      standAt apos.atName
      let (f, first) ← holding [ov] (getMethod ov mt pl)
      callWith pos f first (backTo pos (starEach [] X.env)) (backToKw pos (keywordEach kws X.env))) := by rfl) :
    PE X (.Call (.Attribute o mt apos) [] kws pos) (fun σ H Q => ta σ H fun x H1 => x = .ref C ∧ tka σ H1 fun zs H2 => zs.length = ks.length ∧ sp (permL perm (.ref C :: zs)) H2 Q E) := by
  refine ⟨fun pins s σ H Q I h => ?_⟩
  refine PySem.W.methodCall_KW (pl := pl) (thn (he.run pins s σ H _ I h) fun u s1 ⟨x, H1, I1, rx, ex, q⟩ => ?_) ht
  subst ex
  obtain rfl : u = Value.ref C := rx
  refine ClX.getmethcm_ok I1 r c fun s2 I2 => ?_
  refine PySem.W.callWith_of hpl (PySem.W.keeps_M c.fi) (evalArgs_kw2_nil hall (thn (hkw.run pos _ s2 σ H1 _ I2 q) fun ws s3 ⟨zs, H2, I3, rz, l, q2⟩ => ⟨⟨ClX.pin_at I3, I3.kIn⟩, ?_⟩))
  rw [hks]
  have rv : Vals (V.ref C :: zs) (Value.ref C :: ws) := .cons rfl rz
  have r2 := permL_vals rv perm
  have hl : (permL perm (Value.ref C :: ws)).length = ps.length := by rw [← r2.length]; exact F.len _ _ _ _ q2
  have z : wpAny (model X.prog X.w) X.A (call (.ref s1.heap.objs.size) ([] ++ []) (ks.zip ws)) (EP X ((s1.heap.objs.size, PySem.W.methodObj (.ref g) (.ref C)) :: pins) σ Q) X.xe s3 := by
    refine wpAny_call (PySem.W.method_call (ClX.pin_at I3) (codeAny_mono (F.run X.A X.stack s3 H2 ⟨[.ref C], ks.zip ws⟩ _ _ Q E hr I3.env0 (hb.to s3 [.ref C] ws I3.kIn rfl (by rw [← rz.length]; exact l)) r2 q2) fun r s' hq => ?_))
    cases r with
    | error e => exact hx _ σ H2 s3 e s' I3 hq
    | ok fl =>
      cases fl with
      | ret u => exact I3.after hq
      | next => exact False.elim hq
      | brk => exact False.elim hq
      | cont => exact False.elim hq
  exact thn z fun _ _ y => ClX.unpinE y
def dCMethKX (j : Nat) (E : XK) (C : Addr) (m : Nat) (perm : List Nat) (tf : TDX) (to : TDE) (tk : TDA) : TDE := fun S Q => to S fun d => d = .raw (.ref C) ∧ tk S fun ds => ds.length = m ∧ ∃ Ed, S[j]? = some (.ex E Ed) ∧ tf (permL perm (.raw (.ref C) :: ds)) Q Ed
theorem df_cmethKX (he : PE X o (lE to)) (r : ClX.CRead X.K C mc) (c : ∃ p, ClX.CMet X.K C mc mt p g) (F : FnOk X.prog X.w X.K X.mg X.base (L2.CX X.prog X.w) k g fd ps (spXF n tf)) (hr : Room k X.A) (hb : KBp X.K fd ps 1 ks perm) (hx : Passes (L2.CX X.prog X.w) X E) (hkw : PK X kws (lA tk)) (hn : ∀ ds Q Ed, tf ds Q Ed → ds.length = n)
    (hall : (backToKw pos (keywordEach kws X.env)).all (·.1.isSome) = true := by rfl) (hks : (backToKw pos (keywordEach kws X.env)).filterMap (·.1) = ks := by rfl)
    (hpl : ((backTo pos (starEach [] X.env)).any (·.1) || (backToKw pos (keywordEach kws X.env)).any (·.1.isNone)) = false := by rfl)
    (ht : eval (.Call (.Attribute o mt apos) [] kws pos) X.env = (do
      let ov ← eval o X.env
      standAt apos.atName
      let (f, first) ← holding [ov] (getMethod ov mt pl)
      callWith pos f first (backTo pos (starEach [] X.env)) (backToKw pos (keywordEach kws X.env))) := by rfl) :
    PE X (.Call (.Attribute o mt apos) [] kws pos) (lF (dCMethKX j E C ks.length perm tf to tk)) := by
  obtain ⟨pm, c⟩ := c
  exact PE.imp (pe_cmethK0 (pl := pl) he r c F hr hb hx hkw hall hks hpl ht) fun σ H Q ⟨g', Qd, s, w, kk⟩ =>
    ⟨g', _, s, w, fun d v H1 w1 x1 s1 r1 => by
      obtain ⟨rfl, w1⟩ := w1
      cases r1
      refine ⟨rfl, g', _, s1, w1, fun ds vs H2 w2 x2 s2 r2 => ?_⟩
      obtain ⟨l, Ed, ej, w2⟩ := w2
      have r3 := permL_rpl (z := g'.z) (M := g'.M) (H := H2) (.cons (.raw (.ref C)) r2) perm
      exact ⟨by rw [r2.length]; exact l, by rw [r3.length]; exact hn _ _ _ w2, g'.z, g'.M, _, Qd, Ed, s2.amb, r3, w2, fun d a H' q x b hn nm ow => kk d a H' q ((x1.trans x2).trans x) (s2.ext x b) ((x1.trans x2).none_of hn fun h => nm (res_M h.res)) nm ow, s2.link ej⟩⟩
end
end L2.DL


set_option Elab.async false
set_option linter.all false
set_option maxRecDepth 100000
set_option maxHeartbeats 4000000
namespace L2.DL
open PySem PySem.Spec PyProof.Rows
/-! ### what a try makes of a call, packed -/
def tryQd (Q : D → Prop) : D → Prop := fun d => 2 ≤ sizeLine ∧ Q (.tup [.str [], d])
def tryEd (K : PySem.W.Frag) (names : List Str) (C1 C2 : Addr) (tfF : TDW) (Q : D → Prop) : XD → Prop := fun x => FldC K names x.C ∧ PySem.W.exmAny K (.ref x.C) [.ref C1, .ref C2] = some true ∧ ∃ c, (x.ns.zip x.vs).lookup ("code" : Str) = some c ∧ tfF x fun r => rAddD (.tup [c]) r Q
theorem tryD_eq {K : PySem.W.Frag} {names : List Str} {C1 C2 : Addr} {tfF : TDW} : tryD K names C1 C2 tfF = fun T ds Q => ∃ i, ds = [.clo i] ∧ T i (tryQd Q) (tryEd K names C1 C2 tfF Q) := rfl
theorem ex_clo {i : Nat} {p : Nat → Prop} : (∃ j, (D.clo i : D) = .clo j ∧ p j) ↔ p i := ⟨fun ⟨j, e, h⟩ => by cases e; exact h, fun h => ⟨i, rfl, h⟩⟩
section
variable {X : Cx} {e : Expr} {ts : TDA} {p pos : Pos}
def rStrS : RDC
  | [.str s], Q => Q (.str s)
  | _, _ => False
theorem real_strS : RealC (fun xs H Q => ∃ a : Str, xs = [.str a] ∧ Q (.str a) H) rStrS := by
  intro g σ H xs ds Qd Q s hx w k
  match ds, w, hx with
  | [.str i], w, hx =>
    obtain ⟨v, rfl, h⟩ := hx.one
    cases h.str
    exact ⟨_, rfl, k.here s w (.str _)⟩
theorem de_strS (hm : X.mg "str" = none) (ha : PA X [e] (lAP ts)) (hg : Gl X "str" := by rfl) (he : starEach [e] X.env = (false, eval e X.env) :: starEach [] X.env := by rfl) : PE X (.Call (.Name "str" p) [e] [] pos) (lE (dCall rStrS ts)) := de_callTy SkE.call_str_str real_strS hg hm (by decide +kernel) ha (he := he) (hpl := by rfl)
end
/-! ### a def that hands its lambdas on, what they do known ahead -/
section
variable {X : Cx} {k kp n j : Nat} {f : Addr} {fd : FuncData} {ps : List Str} {x : Str} {q pos : Pos} {e : Expr} {es : List Expr} {ts : TDA} {tf : TCl → TDF} {T : TCl}
def dCallSPT (j : Nat) (zf : Bz → MS → Hp → Prop) (n : Nat) (tfT : TDF) (ts : TDA) : TDE := fun S Q => ts S fun ds => ds.length = n ∧ S[j]? = some (.zz zf) ∧ tfT ds Q
theorem de_callSPT {zf : Bz → MS → Hp → Prop} (F : FnOk X.prog X.w X.K X.mg X.base CX0 k f fd ps (spSE X.prog X.w X.K X.mg X.base kp n tf)) (hr : Room k X.A) (hm : X.mg x = some (.ref f)) (hk : PySem.W.keepIn X.K (.ref f) = true) (hb : Binds X.K fd ps []) (ha : PA X (e :: es) (lA ts)) (hg : Gl X x := by rfl)
    (hdb : (x == ("__debug__" : Str)) = false := by decide) (he : starEach (e :: es) X.env = (false, eval e X.env) :: starEach es X.env := by rfl) (hpl : (backTo pos (starEach es X.env)).any (·.1) = false := by rfl)
    (hzf : zf = PZ X.prog X.w X.K X.mg X.base kp T := by rfl) : PE X (.Call (.Name x q) (e :: es) [] pos) (lE (dCallSPT j zf n (tf T) ts)) := hzf ▸
  PE.imp (pe_call F hr hg hm hk hb .nil pass0 ha hdb he hpl) fun σ H Q ⟨g, Qd, s, w, kk⟩ => ⟨g, _, s, w, fun ds vs H1 w1 x1 s1 r1 => by
    obtain ⟨hl, ej, w2⟩ := w1
    rw [List.append_nil]
    exact ⟨by rw [r1.length]; exact hl, g.z, g.M, ds, Qd, T, s1.amb, r1, PZ.at s1 ej, w2, fun d v H' q x b rp => kk d v H' q (x1.trans x) (s1.ext x b) rp⟩⟩
end
theorem ok_SFT {P : Program} {w : World} {K : PySem.W.Frag} {mg : Str → Option Value} {base : Heap} {x qual : Str} {st : Stmt} {f : Addr} {fd : FuncData} {N ps : List Str} {k kp n m : Nat} {tf : TCl → TDF} {dfv : List V} {kwv : List (Str × V)} (F : FunD K x qual (defArgs st) (defBody st) (defScope st) dfv kwv f fd) (S : FnScope N ps (defScope st)) (hn : ps.length = n := by rfl) (hN : N.length = n + (m + 1) := by rfl)
    (hb : ∀ (T : TCl) (cdv : Value) (A : Around) (outer : List Env) (s : Shared) (H : Hp) (E : XK), Room k (A.deeper (envOfC qual (defScope st) s.heap.objs.size f cdv)) → ∃ t : TDS, PSs (cxOf CX0 P w K mg base N qual (defScope st) f cdv A outer s H E).nox (defBody st) (lS t) ∧
      ∀ ds Qd, ds.length = n → tf T ds Qd → t { nx := fun _ => False, rt := fun _ => False, rf := Qd } (ds.map .val ++ (List.replicate m Sl.no ++ [.zz (PZ P w K mg base kp T)]))) : FnOk P w K mg base CX0 (k + 1) f fd ps (spSF P w K mg base kp n tf) := by
  refine F.ok S (fun vs H Q E h => ?_) (fun cdv A outer s H vs Q E hr h => ?_)
  · rw [hn]; exact h.1
  · obtain ⟨hl, z, M, ds, Qd, T, Am, r, pw, t, k⟩ := h
    obtain ⟨tt, hp, hw⟩ := hb T cdv A outer s H E hr
    have hM : Mo M z (fun _ => none) = M := mo_none Am.res
    have hd : ds.length = n := by rw [← r.length]; exact hl
    have s0 := (stt0 (N := N) Am r).setZz (i := n + m) (p := PZ P w K mg base kp T) ⟨Am.res, pw⟩
    refine ⟨_, PSs.nox hp, _, { nx := fun _ => False, rt := fun _ => False, rf := Qd }, s0, ?_, ?_⟩
    · have := hw ds Qd hd t
      show tt _ ((ds.map Sl.val ++ List.replicate (N.length - ds.length) Sl.no).set (n + m) (.zz (PZ P w K mg base kp T)))
      rw [hN, hd, Nat.add_sub_cancel_left, set_last hd]
      exact this
    · refine ⟨fun ow S σ H' s' q => q.elim, fun _ _ _ _ _ q => q.elim, fun _ _ _ _ _ q => q.elim, fun d v H' q x b rp => q.elim, fun d a H' q x b hn nm o => k d a H' q x b hn ?_ ?_⟩
      · have nm' : ¬ Mo M z (fun _ => none) a := nm
        rw [hM] at nm'; exact nm'
      · have o' : OwF z (Mo M z fun _ => none) H' a d := o
        rw [hM] at o'; exact o'
/-- what _law_tries does with a list of lambdas: tf is what _law_try does with one -/
def triesL (tf : TCl → TDF) : TCl → TDF := fun T ds Q => ∃ cs, ds = [.lst cs] ∧ cs.length ≤ sizeLine ∧ wpMap (fun d k => tf T [d] fun r => k [r]) cs fun rs => Q (.lst rs)
/-- what each lambda gives -/
def TryR (tf : TDF) : List D → List D → Prop
  | [], [] => True
  | d :: ds, r :: rs => (∀ Q : D → Prop, Q r → tf [d] Q) ∧ TryR tf ds rs
  | _, _ => False
theorem wp_tries {tf : TDF} : ∀ {cs rs : List D} {Q : List D → Prop}, TryR tf cs rs → Q rs → wpMap (fun d k => tf [d] fun r => k [r]) cs Q
  | [], [], _, _, q => q
  | d :: ds, r :: rs, Q, h, q => h.1 (fun r => wpMap (fun d k => tf [d] fun r => k [r]) ds fun rs => Q ([r] ++ rs)) (wp_tries h.2 q)
  | [], _ :: _, _, h, _ => h.elim
  | _ :: _, [], _, h, _ => h.elim
theorem tries_res {tf : TCl → TDF} {T : TCl} {cs rs : List D} {Q : D → Prop} (hl : cs.length ≤ sizeLine) (h : TryR (tf T) cs rs) (q : Q (.lst rs)) : triesL tf T [.lst cs] Q := ⟨cs, rfl, hl, wp_tries h q⟩
theorem try_res {tf : TCl → TDF} {T : TCl} {d r : D} {Q : D → Prop} (h : ∀ Q : D → Prop, Q r → tf T [d] Q) (q : Q r) : tf T [d] Q := h Q q
theorem try_lam {K : PySem.W.Frag} {names : List Str} {C1 C2 : Addr} {tfF : TDW} {tl : List (XK → TDE)} {S : SS} {jx i : Nat} {t : XK → TDE} {Q : D → Prop} (e : tl[i]? = some t) (h : ∀ E, t E (lamS S jx E (tryEd K names C1 C2 tfF Q)) (tryQd Q)) :
    tryD K names C1 C2 tfF (fun i Qd Ed => ∀ E, tbL tl i E (lamS S jx E Ed) Qd) [.clo i] Q := ⟨i, rfl, fun E => ⟨t, e, h E⟩⟩
theorem tl_at {tl L : List (XK → TDE)} (h : tl = L) {i : Nat} {t : XK → TDE} (e : L[i]? = some t) : tl[i]? = some t := by rw [h]; exact e
end L2.DL


set_option Elab.async false
set_option linter.all false
set_option maxRecDepth 100000
set_option maxHeartbeats 4000000
namespace L2.DL
open PySem PySem.Spec PyProof.Rows
/-! ### xs.index(y), y in xs; C(k = v, ..) that may raise -/
theorem toPyL_get : ∀ (ds : List D) (j : Nat), (toPyL ds)[j]? = ds[j]?.map toPy
  | [], j => by simp [toPyL]
  | d :: ds, 0 => by simp [toPyL]
  | d :: ds, j + 1 => by
    simp only [toPyL, List.getElem?_cons_succ]
    exact toPyL_get ds j
section
variable {X : Cx} {o e : Expr} {ta : TDE} {ts : TDA} {apos cp : Pos}
def dIndex (ta : TDE) (ts : TDA) : TDE := fun S Q => ta S fun d => ∃ ds, d = .lst ds ∧ ts S fun as => ∃ e, as = [e] ∧ okD (.lst ds) = true ∧ okD e = true ∧ ∃ (j : Nat) (z : D), ds[j]? = some z ∧ deqv z e = true ∧ (∀ m z', m < j → ds[m]? = some z' → deqv z' e = false) ∧ Q (.int j)
theorem de_index (hu : X.A.units + 65 < cLine) (ho : PE X o (lP ta)) (ha : PA X [e] (lA ts))
    (hbase : attributeBase o "index" X.env (eval o X.env) = eval o X.env := by rfl)
    (hfew : ((backTo cp (starEach [e] X.env)).all (fun x => !x.1) && (backToKw cp (keywordEach [] X.env)).all (fun x => x.1.isSome)
      && decide ([e].length + ([] : List Keyword).length + (if ([] : List Keyword).isEmpty then 0 else 1) < 30)) = true := by rfl)
    (hline : (apos.endLine == cp.line) = true := by rfl) (hs : starEach [e] X.env = (false, eval e X.env) :: starEach [] X.env := by rfl) (hpl : (backTo cp (starEach [] X.env)).any (·.1) = false := by rfl) :
    PE X (.Call (.Attribute o "index" apos) [e] [] cp) (lE (dIndex ta ts)) :=
  PE.imp (pe_bm PySem.F.plainAttrs_list PySem.F.slot_list_index PySem.F.type_list_index (mt_indexD hu) ho ha hbase hfew hline hs hpl) fun σ H Q ⟨g, Qd, s, w, k⟩ =>
  ⟨g, _, s, w, fun d v H1 w1 x1 s1 r1 => by
    obtain ⟨ds, rfl, w1⟩ := w1
    have r0 := r1
    obtain ⟨a, xs, rfl, h1, l1⟩ := r1.lst
    refine ⟨.inl ⟨rfl, _, .of h1⟩, g, _, s1, w1, fun as vs H2 w2 x2 s2 r2 => ?_⟩
    obtain ⟨e, rfl, o1, o2, j, z, hz, e1, e2, q⟩ := w2
    rcases r2 with _ | ⟨r2, r3⟩
    cases r3
    refine ⟨a, _, toPy e, toPyL ds, j, toPy z, rfl, rfl, (r0.ext x2).dp (okD.plain o1), r2.dp (okD.plain o2), okD.shaped o1, okD.shaped o2, by rw [toPyL_get, hz]; rfl, e1, fun m z' hm hz' => ?_, k (.int j) _ H2 q (x1.trans x2) s2 (.int _)⟩
    rw [toPyL_get] at hz'
    obtain ⟨y, hy, rfl⟩ := Option.map_eq_some_iff.mp hz'
    exact e2 m y hm hy⟩
end
section
variable {X : Cx} {C f : Addr} {fd : FuncData} {ps ks : List Str} {k n j : Nat} {tf : TDX} {E : XK} {kws : List Keyword} {x : Str} {p pos : Pos} {tk : TDA} {perm : List Nat}
theorem df_makeK0X (M : Mk X.K C f) (F : FnOk X.prog X.w X.K X.mg X.base (L2.CX X.prog X.w) k f fd ps (spXI C n tf)) (hr : Room (k + 1) X.A) (hm : X.mg x = some (.ref C)) (hb : KBp X.K fd ps 1 ks (0 :: perm.map (· + 1))) (hx : Passes (L2.CX X.prog X.w) X E) (hkw : PK X kws (lA tk)) (hn : ∀ ds Q Ed, tf ds Q Ed → ds.length = n) (hg : Gl X x := by rfl)
    (hall : (backToKw pos (keywordEach kws X.env)).all (·.1.isSome) = true := by rfl) (hks : (backToKw pos (keywordEach kws X.env)).filterMap (·.1) = ks := by rfl) (hdb : (x == ("__debug__" : Str)) = false := by decide) (hpl : ((backTo pos (starEach [] X.env)).any (·.1) || (backToKw pos (keywordEach kws X.env)).any (·.1.isNone)) = false := by rfl) :
    PE X (.Call (.Name x p) [] kws pos) (lF (dFnKX j E 0 ks.length perm tf daNil tk)) := PE.imp (pe_makeK0 M F hr hg hm hb hx hkw hall hks hdb hpl) fun σ H Q ⟨g, Qd, s, w, kk⟩ =>
  ⟨g, _, s, w, fun ds vs H1 w1 x1 s1 r1 => by
    obtain ⟨_, l2, Ed, ej, w1⟩ := w1
    have r2 := permL_rpl r1 perm
    refine ⟨rfl, by rw [r1.length]; exact l2, fun y dx hy hdx ne => ?_⟩
    have e1 : permL (0 :: perm.map (· + 1)) ([V.ref y] ++ vs) = V.ref y :: permL perm vs := by
      rw [permL_cons, List.singleton_append, permL_shift]; rfl
    refine ⟨H1, y, dx, permL perm vs, _, g.z, g.M, Qd, Ed, e1, by rw [r2.length]; exact hn _ _ _ w1, rfl, hy, hdx, ne, s1.amb, r2, w1, fun ns us H' q x b o => ⟨rfl, kk (.ins C ns us) y H' q (x1.trans x) (s1.ext x b) (x1.none_of hy fun h => s1.fresh hy (res_M h.res)) (s1.fresh hy) o⟩, s1.link ej⟩⟩
end
end L2.DL


set_option Elab.async false
set_option linter.all false
set_option maxRecDepth 100000
set_option maxHeartbeats 4000000
namespace L2.DL
open PySem PySem.Spec PyProof.Rows
/-! ### startswith; <= of tuples; try with nothing raised -/
theorem txt_starts (s c : List Nat) : Txt.startswith (S2 s) (S2 c) = decide (s.take c.length = c) := by
  unfold Txt.startswith
  have e1 : (S2 c).length = c.length := S2_length c
  have e2 : (S2 s).length = s.length := S2_length s
  rw [StrLaws.subAt_eq, e1, e2]
  show (decide (0 + c.length ≤ s.length) && ((s.drop 0).take c.length == c)) = _
  rw [List.drop_zero, Nat.zero_add]
  by_cases h : s.take c.length = c
  · have hl := congrArg List.length h
    rw [List.length_take] at hl
    rw [decide_eq_true h, decide_eq_true (by omega), Bool.true_and]
    exact beq_iff_eq.mpr h
  · rw [decide_eq_false h, beq_eq_false_iff_ne.mpr h, Bool.and_false]
section
variable {X : Cx} {o e a b : Expr} {ta tb : TDE} {pos apos : Pos}
def rStartsD : List Nat → D → (D → Prop) → Prop := fun s y Q => ∃ c, y = .str c ∧ Q (.bl (decide (s.take c.length = c)))
theorem de_starts (ho : PE X o (lP ta)) (he : PE X e (lP tb)) (hs : starEach [e] X.env = [(false, eval e X.env)] := by rfl) (hbase : attributeBase o "startswith" X.env (eval o X.env) = eval o X.env := by rfl) (hline : (apos.endLine == pos.line) = true := by rfl) :
    PE X (.Call (.Attribute o "startswith" apos) [e] [] pos) (lE (dM1 rStartsD ta tb)) := PE.imp (pe_m1 F.slot_str_startswith F.type_str_startswith mt_startswith ho he hs hbase hline) fun σ H Q ⟨g, Qd, s, w, k⟩ =>
  ⟨g, _, s, w, fun d v H1 w1 x1 s1 r1 => by
    obtain ⟨a, rfl, w1⟩ := w1
    cases r1.str
    refine ⟨⟨_, rfl⟩, g, _, s1, w1, fun d2 v2 H2 w2 x2 s2 r2 => ?_⟩
    obtain ⟨c, rfl, w2⟩ := w2
    cases r2.str
    refine ⟨_, _, rfl, rfl, ?_⟩
    rw [txt_starts]
    exact k _ _ H2 w2 (x1.trans x2) s2 (.bl _)⟩
/-- int or text, both of the same kind -/
def sameV : V → V → Bool
  | .int _, .int _ => true
  | .str _, .str _ => true
  | _, _ => false
def eqLV : V → V → Bool
  | .int i, .int j => i == j
  | .str i, .str j => i == j
  | _, _ => false
def leLV : V → V → Bool
  | .int i, .int j => decide (i ≤ j)
  | .str i, .str j => !decide (j.cps.toList < i.cps.toList)
  | _, _ => false
def rLeTV (K : PySem.W.Frag) : R2 := fun x y H Q => ∃ (a b : Addr) (vs us : List V), x = .ref a ∧ y = .ref b ∧ SqT K H a vs ∧ SqT K H b us ∧
  (∀ j, j < vs.length → j < us.length → sameV (vs.getD j .non) (us.getD j .non) = true) ∧
  Q (.bl (Ob.lexAt (fun j => eqLV (vs.getD j .non) (us.getD j .non)) (fun j => leLV (vs.getD j .non) (us.getD j .non)) (decide (vs.length ≤ us.length)) 0 (min vs.length us.length))) H
theorem RcOp.le_strS {A : Around} {s : Shared} (a b : Str) (t u : Tok) : Ob.RcOp .LtE A s (.str a t) (.str b u) (!decide (b.cps.toList < a.cps.toList)) := fun _ _ _ _ h => PySem.P.le_str (by simpa using h)
theorem op_leTV (hu : X.A.units < cLine) : OpR X (compareOp .LtE) (rLeTV X.K) := by
  intro pins s σ H x y v u Q I rx ry h
  obtain ⟨a, b, ns, ms, rfl, rfl, ha, hb, hk, q⟩ := h
  cases rx
  cases ry
  obtain ⟨its, r1, p1, _⟩ := I.tuple ha
  obtain ⟨its2, r2, p2, _⟩ := I.tuple hb
  have e1 : its.toArray.size = ns.length := by rw [List.size_toArray]; exact r1.length.symm
  have e2 : its2.toArray.size = ms.length := by rw [List.size_toArray]; exact r2.length.symm
  have at1 : ∀ j (h1 : j < its.toArray.size), RelV (ns.getD j .non) its.toArray[j] := fun j h1 => by
    have h1' : j < its.length := by simpa using h1
    have hj : j < ns.length := by omega
    obtain ⟨u, e, r⟩ := r1.get (show ns[j]? = some ns[j] from List.getElem?_eq_getElem hj)
    rw [List.getElem?_eq_getElem h1'] at e
    cases e
    rw [List.getD_eq_getElem?_getD, List.getElem?_eq_getElem hj]
    simpa using r
  have at2 : ∀ j (h1 : j < its2.toArray.size), RelV (ms.getD j .non) its2.toArray[j] := fun j h1 => by
    have h1' : j < its2.length := by simpa using h1
    have hj : j < ms.length := by omega
    obtain ⟨u, e, r⟩ := r2.get (show ms[j]? = some ms[j] from List.getElem?_eq_getElem hj)
    rw [List.getElem?_eq_getElem h1'] at e
    cases e
    rw [List.getD_eq_getElem?_getD, List.getElem?_eq_getElem hj]
    simpa using r
  have R := Ob.RcOp.tuples_le (A := X.A) (s := s) (e := fun j => eqLV (ns.getD j .non) (ms.getD j .non)) (r := fun j => leLV (ns.getD j .non) (ms.getD j .non)) p1 p2 hu (fun j h1 h2 => by
    have r1 := at1 j h1
    have r2 := at2 j h2
    have k := hk j (by omega) (by omega)
    generalize ns.getD j .non = v at r1 k ⊢
    generalize ms.getD j .non = u at r2 k ⊢
    generalize its.toArray[j] = v' at r1 ⊢
    generalize its2.toArray[j] = u' at r2 ⊢
    cases v <;> cases u <;> (try (cases k; done))
    · obtain ⟨t, rfl⟩ := r1
      obtain ⟨t', rfl⟩ := r2
      exact SeqAt.EqAt.int_int _ _ _ _
    · obtain ⟨t, rfl⟩ := r1
      obtain ⟨t', rfl⟩ := r2
      exact SeqAt.EqAt.str_str _ _ _ _) (fun j h1 h2 _ => by
    have r1 := at1 j h1
    have r2 := at2 j h2
    have k := hk j (by omega) (by omega)
    generalize ns.getD j .non = v at r1 k ⊢
    generalize ms.getD j .non = u at r2 k ⊢
    generalize its.toArray[j] = v' at r1 ⊢
    generalize its2.toArray[j] = u' at r2 ⊢
    cases v <;> cases u <;> (try (cases k; done))
    · obtain ⟨t, rfl⟩ := r1
      obtain ⟨t', rfl⟩ := r2
      exact Ob.RcOp.le_int _ _ _ _
    · obtain ⟨t, rfl⟩ := r1
      obtain ⟨t', rfl⟩ := r2
      exact RcOp.le_strS _ _ _ _)
  rw [e1, e2] at R
  have z : wpAny (model X.prog X.w) X.A (compareOp .LtE (.ref a) (.ref b)) (EP X pins σ Q) X.xe s := R X.prog X.w X.xe (EP X pins σ Q) ⟨.bl _, H, I, rfl, q⟩
  exact z
def sameD : D → D → Bool
  | .int _, .int _ => true
  | .str _, .str _ => true
  | _, _ => false
/-- x <= y, from the first pair that differs on -/
def leTD : List D → List D → Option Bool
  | [], _ => some true
  | _ :: _, [] => some false
  | .int i :: xs, .int j :: ys => if i = j then leTD xs ys else some (decide (i ≤ j))
  | .str i :: xs, .str j :: ys => if i = j then leTD xs ys else some (!decide (j < i))
  | _, _ => none
def rLeTD : RD2
  | .tup x, .tup y, Q => x.length = y.length ∧ (List.zipWith sameD x y).all id = true ∧ ∃ b, leTD x y = some b ∧ Q (.bl b)
  | _, _, _ => False
theorem lexAt_shift {e r e' r' : Nat → Bool} {z : Bool} (he : ∀ j, e' j = e (j + 1)) (hr : ∀ j, r' j = r (j + 1)) : ∀ k i, Ob.lexAt e' r' z i k = Ob.lexAt e r z (i + 1) k
  | 0, _ => rfl
  | k + 1, i => by
    rw [Ob.lexAt_succ, Ob.lexAt_succ, he, hr, lexAt_shift he hr k (i + 1)]
theorem lexAt_D {g : Gh} {H : Hp} {xs ys : List D} {b : Bool} (hl : xs.length = ys.length) (hb : leTD xs ys = some b) : ∀ {vs us : List V}, RpL g.z g.M H vs xs → RpL g.z g.M H us ys →
    (List.zipWith sameD xs ys).all id = true →
    (∀ j, j < vs.length → j < us.length → sameV (vs.getD j .non) (us.getD j .non) = true) ∧
    Ob.lexAt (fun j => eqLV (vs.getD j .non) (us.getD j .non)) (fun j => leLV (vs.getD j .non) (us.getD j .non)) (decide (vs.length ≤ us.length)) 0 (min vs.length us.length) = b := by
  induction xs generalizing ys b with
  | nil =>
    intro vs us h1 h2 _
    cases h1
    cases ys with
    | nil =>
      cases h2
      refine ⟨fun j h => by simp at h, ?_⟩
      cases hb
      rfl
    | cons y ys => simp at hl
  | cons x xs ih =>
    intro vs us h1 h2 hs
    cases ys with
    | nil => simp at hl
    | cons y ys =>
      cases h1 with
      | cons a1 b1 =>
        cases h2 with
        | cons a2 b2 =>
          rename_i v vs u us
          simp only [List.zipWith_cons_cons, List.all_cons, id, Bool.and_eq_true] at hs
          have hl' : xs.length = ys.length := by simpa using hl
          have lv := b1.length
          have lu := b2.length
          have main : sameV v u = true ∧ ((eqLV v u = true ∧ leTD xs ys = some b) ∨ (eqLV v u = false ∧ leLV v u = b)) := by
            cases x <;> cases y <;> (try (cases hs.1; done))
            · cases (show Pk g H _ _ from .inl a1).int; cases (show Pk g H _ _ from .inl a2).int
              refine ⟨rfl, ?_⟩
              simp only [leTD] at hb
              rename_i i j
              by_cases q : i = j
              · rw [if_pos q] at hb
                exact .inl ⟨by simp [eqLV, q], hb⟩
              · rw [if_neg q] at hb
                exact .inr ⟨by simp [eqLV, q], by simpa [leLV] using hb⟩
            · cases (show Pk g H _ _ from .inl a1).str; cases (show Pk g H _ _ from .inl a2).str
              refine ⟨rfl, ?_⟩
              simp only [leTD] at hb
              rename_i i j
              by_cases q : i = j
              · rw [if_pos q] at hb
                exact .inl ⟨by simp [eqLV, q], hb⟩
              · rw [if_neg q] at hb
                refine .inr ⟨by simp only [eqLV]; rw [S2_beq]; exact beq_eq_false_iff_ne.mpr q, ?_⟩
                exact Option.some.inj hb
          have ihx : ∀ b', leTD xs ys = some b' → _ := fun b' hb' => ih (b := b') hl' hb' b1 b2 hs.2
          have isome : ∃ b', leTD xs ys = some b' := by
            clear ih ihx main hb
            revert hs hl'
            generalize xs = xs
            generalize ys = ys
            intro hs hl'
            have : ∀ (xs ys : List D), xs.length = ys.length → (List.zipWith sameD xs ys).all id = true → ∃ b', leTD xs ys = some b' := by
              intro xs
              induction xs with
              | nil => intro ys _ _; exact ⟨true, by cases ys <;> rfl⟩
              | cons x xs ih =>
                intro ys hl hs
                cases ys with
                | nil => simp at hl
                | cons y ys =>
                  simp only [List.zipWith_cons_cons, List.all_cons, id, Bool.and_eq_true] at hs
                  obtain ⟨b', e⟩ := ih ys (by simpa using hl) hs.2
                  cases x <;> cases y <;> (try (cases hs.1; done))
                  · simp only [leTD]
                    split
                    · exact ⟨b', e⟩
                    · exact ⟨_, rfl⟩
                  · simp only [leTD]
                    split
                    · exact ⟨b', e⟩
                    · exact ⟨_, rfl⟩
            exact this xs ys (by assumption) (by first | exact hs | exact hs.2)
          obtain ⟨b', e'⟩ := isome
          obtain ⟨k1, k2⟩ := ihx b' e'
          refine ⟨fun j h1 h2 => ?_, ?_⟩
          · cases j with
            | zero => exact main.1
            | succ j => exact k1 j (by simpa using h1) (by simpa using h2)
          · have em : min (v :: vs).length (u :: us).length = min vs.length us.length + 1 := by simp only [List.length_cons]; omega
            have ed : decide ((v :: vs).length ≤ (u :: us).length) = decide (vs.length ≤ us.length) := by simp
            rw [em, ed, Ob.lexAt_succ]
            rw [← lexAt_shift (e := fun j => eqLV ((v :: vs).getD j .non) ((u :: us).getD j .non)) (r := fun j => leLV ((v :: vs).getD j .non) ((u :: us).getD j .non)) (e' := fun j => eqLV (vs.getD j .non) (us.getD j .non)) (r' := fun j => leLV (vs.getD j .non) (us.getD j .non)) (fun j => rfl) (fun j => rfl)]
            rw [k2]
            show (if eqLV v u = true then b' else leLV v u) = b
            rcases main.2 with ⟨q1, q2⟩ | ⟨q1, q2⟩
            · rw [if_pos q1]
              rw [e'] at q2
              exact Option.some.inj q2
            · rw [if_neg (by rw [q1]; exact Bool.false_ne_true)]
              exact q2
theorem real_leT {K : PySem.W.Frag} : Real2 (rLeTV K) rLeTD := by
  intro g σ H x y d e Qd Q s hx hy w k
  cases d <;> cases e <;> try exact w.elim
  obtain ⟨p, xs, rfl, h1, l1⟩ := hx.tup
  obtain ⟨q, ys, rfl, h2, l2⟩ := hy.tup
  obtain ⟨hl, hs, b, hb, q1⟩ := w
  obtain ⟨k1, k2⟩ := lexAt_D hl hb l1 l2 hs
  exact ⟨_, _, _, _, rfl, rfl, .of h1, .of h2, k1, by rw [k2]; exact k.here s q1 (.bl _)⟩
theorem de_leT (hu : X.A.units + 64 < cLine) (ha : PE X a (lP ta)) (hb : PE X b (lP tb)) : PE X (.Compare a [.LtE] [b] pos) (lE (d2 rLeTD ta tb)) := de_cmp (op_leTV (by omega)) real_leT ha hb
theorem dt_leT (hu : X.A.units + 64 < cLine) (ha : PE X a (lP ta)) (hb : PE X b (lP tb)) : PT X (.Compare a [.LtE] [b] pos) (lT (dTestB (d2 rLeTD ta tb))) := dt_cmp1 (op_leTV (by omega)) real_leT ha hb
/-- try: body, of which nothing is raised -/
theorem ds_thru {body : List Stmt} {h₀ : ExceptHandler} {hs : List ExceptHandler} {t : TS} (hb : PSs X.nox body t) : PS X (.Try body (h₀ :: hs) [] [] pos) t := ps_try_thru0 hb
end
end L2.DL


set_option Elab.async false
set_option linter.all false
set_option maxRecDepth 100000
set_option maxHeartbeats 4000000
namespace L2.DL
open PySem PySem.Spec PyProof.Rows
/-! ### dicts over distinct keys -/
section
variable {α : Type} {kf vf : α → D}
theorem dhas_no {P : List α} {k : D} (h : ∀ p ∈ P, kEq (kf p) k = false) : dhas (P.map kf) k = false := by
  unfold dhas
  rw [List.any_map, List.any_eq_false]
  intro p hp
  rw [Function.comp, h p hp]
  decide
theorem dfold_go : ∀ (L P : List α), (∀ p ∈ P, ∀ x ∈ L, kEq (kf p) (kf x) = false) → L.Pairwise (fun a b => kEq (kf a) (kf b) = false) →
    (L.map fun x => D.tup [kf x, vf x]).foldl dstep (P.map kf, P.map vf) = ((P ++ L).map kf, (P ++ L).map vf)
  | [], P, _, _ => by simp
  | x :: L, P, h, hp => by
    rw [List.map_cons, List.foldl_cons]
    have e : dstep (P.map kf, P.map vf) (D.tup [kf x, vf x]) = ((P ++ [x]).map kf, (P ++ [x]).map vf) := by
      have hn : dhas (P.map kf) (kf x) = false := dhas_no fun p hp => h p hp x (by simp)
      show (dputK (P.map kf) (kf x), dputV (P.map kf) (P.map vf) (kf x) (vf x)) = _
      unfold dputK dputV
      rw [hn]
      simp
    rw [e, dfold_go L (P ++ [x]) ?_ (List.pairwise_cons.mp hp).2]
    · simp
    · intro p hp' y hy
      rcases List.mem_append.mp hp' with q | q
      · exact h p q y (by simp [hy])
      · have : p = x := by simpa using q
        subst this
        exact (List.pairwise_cons.mp hp).1 y hy
theorem dfold_map {L : List α} (h : L.Pairwise fun a b => kEq (kf a) (kf b) = false) : dfold (L.map fun x => D.tup [kf x, vf x]) = (L.map kf, L.map vf) := by
  have := dfold_go (kf := kf) (vf := vf) L [] (fun _ h => nomatch h) h
  simpa [dfold] using this
theorem dget_map [DecidableEq α] {L : List α} {x : α} (hk : ∀ a b, kEq (kf a) (kf b) = decide (a = b)) : dgetD (L.map kf) (L.map vf) (kf x) = if x ∈ L then some (vf x) else none := by
  induction L with
  | nil => simp [dgetD]
  | cons y L ih =>
    rw [List.map_cons, List.map_cons, dgetD, hk, ih]
    by_cases e : y = x
    · subst e; simp
    · have e' : ¬ x = y := fun q => e q.symm
      simp [e, e']
theorem dput_map [DecidableEq α] {L : List α} {x : α} {v : D} (hk : ∀ a b, kEq (kf a) (kf b) = decide (a = b)) (hx : x ∈ L) : dputK (L.map kf) (kf x) = L.map kf ∧ dputV (L.map kf) (L.map vf) (kf x) v = L.map fun a => if a = x then v else vf a := by
  have h : dhas (L.map kf) (kf x) = true := by
    unfold dhas
    rw [List.any_map, List.any_eq_true]
    exact ⟨x, hx, by rw [Function.comp, hk]; simp⟩
  unfold dputK dputV
  rw [h]
  refine ⟨rfl, ?_⟩
  simp only [if_true]
  clear h hx
  induction L with
  | nil => rfl
  | cons y L ih =>
    rw [List.map_cons, List.map_cons, dmapV, hk, ih]
    by_cases e : y = x <;> simp [e]
theorem dput_new [DecidableEq α] {L : List α} {x : α} {v : D} (hk : ∀ a b, kEq (kf a) (kf b) = decide (a = b)) (hx : x ∉ L) : dputK (L.map kf) (kf x) = (L ++ [x]).map kf ∧ dputV (L.map kf) (L.map vf) (kf x) v = L.map vf ++ [v] := by
  have h : dhas (L.map kf) (kf x) = false := dhas_no fun p hp => by rw [hk]; exact decide_eq_false fun e => hx (e ▸ hp)
  unfold dputK dputV
  rw [h]
  simp
end
end L2.DL


set_option Elab.async false
set_option linter.all false
set_option maxRecDepth 100000
set_option maxHeartbeats 4000000
namespace L2.DL
open PySem PySem.Spec PyProof.Rows
/-! ### the order of data -/
def tk (d : D) : List (Int ⊕ List Nat) := PySem.W.keyToks (toPy d)
theorem dle_def (a b : D) : dle a b = !PyProof.Rows.lexLt PyProof.Rows.itemOrd (tk b) (tk a) := rfl
theorem dle_total (a b : D) : (dle a b || dle b a) = true := by
  rw [dle_def, dle_def]
  cases h : PyProof.Rows.lexLt PyProof.Rows.itemOrd (tk b) (tk a)
  · rfl
  · cases h2 : PyProof.Rows.lexLt PyProof.Rows.itemOrd (tk a) (tk b)
    · rfl
    · exact absurd (PyProof.Rows.lex_trans (O := PyProof.Rows.itemOrd) _ _ _ h h2) (by rw [PyProof.Rows.lex_irrefl (O := PyProof.Rows.itemOrd)]; decide)
theorem dle_trans (a b c : D) (h1 : dle a b = true) (h2 : dle b c = true) : dle a c = true := by
  rw [dle_def, Bool.not_eq_true'] at *
  cases h : PyProof.Rows.lexLt PyProof.Rows.itemOrd (tk c) (tk a)
  · rfl
  · rcases PyProof.Rows.lex_negTrans (O := PyProof.Rows.itemOrd) (tk c) (tk b) (tk a) h with q | q
    · rw [q] at h2; cases h2
    · rw [q] at h1; cases h1
theorem dle_anti {a b : D} (h1 : dle a b = true) (h2 : dle b a = true) : tk a = tk b := by
  rw [dle_def, Bool.not_eq_true'] at *
  exact PyProof.Rows.lex_total (O := PyProof.Rows.itemOrd) _ _ h2 h1
theorem sortD_perm (ds : List D) : (sortD ds).Perm ds := List.mergeSort_perm ..
theorem sortD_mem {ds : List D} {d : D} : d ∈ sortD ds ↔ d ∈ ds := (sortD_perm ds).mem_iff
theorem sortD_length (ds : List D) : (sortD ds).length = ds.length := (sortD_perm ds).length_eq
theorem sortD_sorted (ds : List D) : (sortD ds).Pairwise fun a b => dle a b = true := List.pairwise_mergeSort dle_trans dle_total ds
theorem sorted_uniq {A B : List D} (p : A.Perm B) (hA : A.Pairwise fun a b => dle a b = true) (hB : B.Pairwise fun a b => dle a b = true) (inj : ∀ x ∈ A, ∀ y ∈ A, tk x = tk y → x = y) : A = B :=
  p.eq_of_pairwise (fun a b ha hb h1 h2 => inj a ha b (p.mem_iff.mpr hb) (dle_anti h1 h2)) hA hB
theorem sortD_eq {A B : List D} (p : A.Perm B) (inj : ∀ x ∈ A, ∀ y ∈ A, tk x = tk y → x = y) : sortD A = sortD B :=
  sorted_uniq ((sortD_perm A).trans (p.trans (sortD_perm B).symm)) (sortD_sorted A) (sortD_sorted B) fun x hx y hy => inj x (sortD_mem.mp hx) y (sortD_mem.mp hy)
theorem sortD_of {A B : List D} (p : B.Perm A) (hB : B.Pairwise fun a b => dle a b = true) (inj : ∀ x ∈ A, ∀ y ∈ A, tk x = tk y → x = y) : sortD A = B :=
  sorted_uniq ((sortD_perm A).trans p.symm) (sortD_sorted A) hB fun x hx y hy => inj x (sortD_mem.mp hx) y (sortD_mem.mp hy)
theorem sortD_iff {A B : List D} (inj : ∀ x ∈ A, ∀ y ∈ A, tk x = tk y → x = y) : sortD A = sortD B ↔ A.Perm B :=
  ⟨fun h => (sortD_perm A).symm.trans (h ▸ sortD_perm B), fun h => sortD_eq h inj⟩
/-- rows of one shape -/
theorem canSort_map {α : Type} {f : α → D} {L : List α} (h1 : ∀ x ∈ L, plainD (f x) = true) (h2 : ∀ x ∈ L, dep (f x) ≤ 64) (h3 : ∀ x ∈ L, ∀ y ∈ L, PySem.W.alike (toPy (f x)) (toPy (f y)) = true)
    (h4 : ∀ x ∈ L, ∃ a r, toPy (f x) = .tuple (a :: r)) (h5 : L.length ≤ sizeLine) : CanSort (L.map f) where
  plain := fun d hd => by obtain ⟨x, hx, rfl⟩ := List.mem_map.mp hd; exact h1 x hx
  dep := fun d hd => by obtain ⟨x, hx, rfl⟩ := List.mem_map.mp hd; exact h2 x hx
  alike := fun d hd e he => by
    obtain ⟨d', hd', rfl⟩ := List.mem_map.mp hd
    obtain ⟨e', he', rfl⟩ := List.mem_map.mp he
    obtain ⟨x, hx, rfl⟩ := List.mem_map.mp hd'
    obtain ⟨y, hy, rfl⟩ := List.mem_map.mp he'
    exact h3 x hx y hy
  kind := .inl fun d hd => by
    obtain ⟨d', hd', rfl⟩ := List.mem_map.mp hd
    obtain ⟨x, hx, rfl⟩ := List.mem_map.mp hd'
    exact h4 x hx
  len := by rw [List.length_map]; exact h5
theorem canSort_int (L : List Int) (h5 : L.length ≤ sizeLine) : CanSort (L.map D.int) where
  plain := fun d hd => by obtain ⟨x, hx, rfl⟩ := List.mem_map.mp hd; rfl
  dep := fun d hd => by obtain ⟨x, hx, rfl⟩ := List.mem_map.mp hd; show 0 ≤ 64; decide
  alike := fun d hd e he => by
    obtain ⟨d', hd', rfl⟩ := List.mem_map.mp hd
    obtain ⟨e', he', rfl⟩ := List.mem_map.mp he
    obtain ⟨x, hx, rfl⟩ := List.mem_map.mp hd'
    obtain ⟨y, hy, rfl⟩ := List.mem_map.mp he'
    rfl
  kind := .inr fun d hd => by
    obtain ⟨d', hd', rfl⟩ := List.mem_map.mp hd
    obtain ⟨x, hx, rfl⟩ := List.mem_map.mp hd'
    exact ⟨fun q => by simp [toPy] at q, fun xs q => by simp [toPy] at q⟩
  len := by rw [List.length_map]; exact h5
theorem dle_int (a b : Int) : dle (.int a) (.int b) = decide (a ≤ b) := congrFun (congrFun (PySem.W.dataLe_int (fun x : Int => x)) a) b
theorem tk_int {a b : Int} (h : tk (.int a) = tk (.int b)) : a = b := by simpa [tk, toPy, PySem.W.keyToks] using h
theorem wpMap_on {α : Type} {f : D → (List D → Prop) → Prop} {kf : α → D} (g : α → D) : ∀ {L : List α} {Q : List D → Prop}, (∀ x ∈ L, ∀ k : List D → Prop, k [g x] → f (kf x) k) → Q (L.map g) → wpMap f (L.map kf) Q
  | [], Q, _, q => q
  | x :: L, Q, h, q => h x (by simp) _ (wpMap_on g (L := L) (fun y hy => h y (by simp [hy])) q)
end L2.DL


set_option Elab.async false
set_option linter.all false
set_option maxRecDepth 100000
set_option maxHeartbeats 4000000
namespace L2.DL.LW
open PySem PySem.Spec PyProof.Rows

theorem bools_map {α : Type} (f : α → Bool) : ∀ xs : List α, bools (xs.map fun x => .bl (f x)) = some (xs.map f)
  | [] => rfl
  | x :: xs => by simp [bools, bools_map f xs]
abbrev abcL : List Nat := [97, 98, 99, 100, 101, 102, 103, 104, 105, 106, 107, 108, 109, 110, 111, 112, 113, 114, 115, 116, 117, 118, 119, 120, 121, 122]
theorem letters_eq : (Str.ofString "abcdefghijklmnopqrstuvwxyz").cps.toList = abcL := by decide +kernel
theorem empty_eq : (Str.ofString "").cps.toList = [] := by decide +kernel
theorem atI_abc {n : Int} (h0 : 0 ≤ n) (h1 : n < 26) : atI abcL n = some (97 + n.toNat) := by
  have key : ∀ k : Fin 26, atI abcL (k.1 : Int) = some (97 + k.1) := by decide +kernel
  have := key ⟨n.toNat, by omega⟩
  rw [Int.toNat_of_nonneg h0] at this
  exact this
def lowL (c : Nat) : Bool := decide (c ∈ abcL)
theorem lowL_iff {c : Nat} : lowL c = true ↔ 97 ≤ c ∧ c ≤ 122 := by
  unfold lowL
  rw [decide_eq_true_iff]
  constructor
  · intro h
    simp only [abcL, List.mem_cons, List.not_mem_nil, or_false] at h
    omega
  · intro h
    have : ∀ k : Fin 26, 97 + k.1 ∈ abcL := by decide +kernel
    have := this ⟨c - 97, by omega⟩
    rwa [show 97 + (c - 97) = c by omega] at this
theorem lt1 (x y : Nat) : decide ([x] < [y]) = decide (x < y) := by
  congr 1
  simp [List.cons_lt_cons_iff]
theorem flat_ones (cs : List Nat) : (cs.map fun c => [c]).flatten = cs := by
  induction cs with
  | nil => rfl
  | cons c cs ih => simp [ih]
theorem sum_ones (cs : List Nat) : ((cs.map fun c => [c]).map fun x : List Nat => x.length).sum = cs.length := by
  induction cs with
  | nil => rfl
  | cons c cs ih => simp at ih ⊢; omega
theorem ones_of {abc : List Nat} : ∀ {rs : List D}, (∀ r ∈ rs, ∃ c ∈ abc, r = .str [c]) → ∃ cs : List Nat, rs = (cs.map fun c => [c]).map D.str ∧ ∀ c ∈ cs, c ∈ abc
  | [], _ => ⟨[], rfl, fun _ h => nomatch h⟩
  | r :: rs, h => by
    obtain ⟨c, hc, rfl⟩ := h r (by simp)
    obtain ⟨cs, rfl, hs⟩ := ones_of (rs := rs) fun r hr => h r (by simp [hr])
    exact ⟨c :: cs, rfl, fun d hd => (List.mem_cons.mp hd).elim (fun e => e ▸ hc) (hs d)⟩
theorem strsD_map : ∀ ys : List (List Nat), strsD (ys.map D.str) = some ys
  | [] => rfl
  | y :: ys => by simp [strsD, strsD_map ys]
theorem joinL_nil : ∀ ys : List (List Nat), joinL [] ys = ys.flatten
  | [] => rfl
  | [x] => by simp [joinL]
  | x :: y :: r => by simp [joinL, joinL_nil (y :: r)]
def isNumD : D → Int → Int → Bool
  | .int i, lo, hi => decide (lo ≤ i) && decide (i ≤ hi)
  | _, _, _ => false
def lenOk : D → Prop
  | .str s => s.length ≤ sizeLine
  | _ => True
instance (d : D) : Decidable (lenOk d) := by
  cases d <;> unfold lenOk <;> infer_instance
def isWordD : D → Int → Bool
  | .str s, m => decide ((s.length : Int) ≤ m) && s.all lowL
  | _, _ => false
def isAlphaD : D → Bool
  | .str [x] => lowL x
  | .str [x, y] => lowL x && lowL y && decide (x < y)
  | .str [x, y, z] => lowL x && lowL y && lowL z && decide (x < y) && decide (y < z)
  | _ => false

def LowS (s : List Nat) : Prop := ∀ c ∈ s, lowL c = true
theorem deqv_str (x y : List Nat) : deqv (.str x) (.str y) = decide (x = y) := by
  show PyData.eqv _ _ = _
  simp only [toPy, PyData.eqv]
  by_cases h : x = y <;> simp [h]
theorem low_ok {s : List Nat} (h : LowS s) : okD (.str s) = true := by
  unfold okD
  rw [Bool.and_eq_true]
  refine ⟨?_, rfl⟩
  simp only [plainD, List.all_eq_true, decide_eq_true_eq]
  intro c hc
  have := lowL_iff.mp (h c hc)
  omega

/-- a transition: source, letter, target, safe -/
structure Row where
  s : Nat
  l : Nat
  t : Nat
  w : Bool
deriving DecidableEq
def wC (b : Bool) : List Nat := if b then [115, 97, 102, 101] else [115, 108, 105, 112]
theorem safe_eq : (Str.ofString "safe").cps.toList = wC true := by decide +kernel
theorem slip_eq : (Str.ofString "slip").cps.toList = wC false := by decide +kernel
def rowD (r : Row) : D := .tup [.int r.s, .str [r.l], .int r.t, .str (wC r.w)]
def pairD (r : Row) : D := .tup [.int r.t, .str (wC r.w)]
def keyA (k : Nat × Nat) : D := .tup [.int k.1, .str [k.2]]
def keysA (al : List Nat) (n : Nat) : List (Nat × Nat) := (List.range n).flatMap fun s => al.map fun l => (s, l)
def atA (rs : List Row) (k : Nat × Nat) : List Row := rs.filter fun r => decide ((r.s, r.l) = k)
def movA (rs : List Row) (k : Nat × Nat) : D := .lst (sortD ((atA rs k).map pairD))
def autD (C : Addr) (al : List Nat) (n : Nat) (i : Nat) (rs : List Row) : D :=
  .ins C ["alphabet", "size", "initial", "own_moves"] [.str al, .int n, .int i, .dic true true ((keysA al n).map keyA) ((keysA al n).map (movA rs))]
/-- what __init__ asks -/
structure GoodA (al : List Nat) (n : Nat) (i : Nat) (rs : List Row) : Prop where
  alp : isAlphaD (.str al) = true
  lo : 1 ≤ n
  hi : n ≤ 65
  len : rs.length ≤ 80000
  src : ∀ r ∈ rs, r.s < n
  let' : ∀ r ∈ rs, r.l ∈ al
  tgt : ∀ r ∈ rs, r.t < n
  nd : (rs.map fun r => (r.s, r.l, r.t)).Nodup
  full : ∀ k ∈ keysA al n, atA rs k ≠ []
  ini : i < n
theorem alpha_len {s : List Nat} (h : isAlphaD (.str s) = true) : s.length ≤ 3 := by
  match s, h with
  | [_], _ => simp
  | [_, _], _ => simp
  | [_, _, _], _ => simp
theorem inStr_mem (c : Nat) (al : List Nat) : inStr [c] al = decide (c ∈ al) := rfl
theorem keyA_eq (a b : Nat × Nat) : kEq (keyA a) (keyA b) = decide (a = b) := by
  obtain ⟨a1, a2⟩ := a
  obtain ⟨b1, b2⟩ := b
  simp only [keyA, kEq, kEqL, Bool.and_true]
  by_cases h1 : a1 = b1 <;> by_cases h2 : a2 = b2 <;> simp [h1, h2]
  omega
theorem comp_keys (al : List Nat) (n : Nat) : (((List.range (n : Int).toNat).map fun i : Nat => D.int (0 + (i : Int))).flatMap fun d => al.map fun c => D.tup [D.tup [d, D.str [c]], D.lst []]) = (keysA al n).map fun k => D.tup [keyA k, D.lst []] := by
  simp [keysA, List.flatMap_map, List.map_flatMap, keyA, Function.comp_def]
theorem keysA_succ (al : List Nat) (n : Nat) : keysA al (n + 1) = keysA al n ++ al.map fun l => (n, l) := by
  simp [keysA, List.range_succ]
theorem keysA_mem {al : List Nat} {n : Nat} {k : Nat × Nat} : k ∈ keysA al n ↔ k.1 < n ∧ k.2 ∈ al := by
  obtain ⟨a, b⟩ := k
  simp only [keysA, List.mem_flatMap, List.mem_range, List.mem_map, Prod.mk.injEq]
  constructor
  · rintro ⟨s, hs, l, hl, rfl, rfl⟩
    exact ⟨hs, hl⟩
  · rintro ⟨h1, h2⟩
    exact ⟨a, h1, b, h2, rfl, rfl⟩
theorem keysA_nd {al : List Nat} (h : al.Nodup) (n : Nat) : (keysA al n).Nodup := by
  induction n with
  | zero => simp [keysA]
  | succ n ih =>
    rw [keysA_succ, List.nodup_append]
    refine ⟨ih, ?_, fun x hx y hy e => ?_⟩
    · rw [List.Nodup, List.pairwise_map]
      exact h.imp fun q e => q (by simpa using e)
    · subst e
      obtain ⟨l, _, rfl⟩ := List.mem_map.mp hy
      have := (keysA_mem.mp hx).1
      simp at this
theorem alpha_nd {s : List Nat} (h : isAlphaD (.str s) = true) : s.Nodup := by
  match s, h with
  | [_], _ => simp
  | [x, y], h => simp [isAlphaD] at h; simp; omega
  | [x, y, z], h => simp [isAlphaD] at h; simp; omega
theorem keysA_pw {al : List Nat} (h : isAlphaD (.str al) = true) (n : Nat) : (keysA al n).Pairwise fun a b => kEq (keyA a) (keyA b) = false :=
  (keysA_nd (alpha_nd h) n).imp fun q => by rw [keyA_eq]; exact decide_eq_false q
def key3 (k : Nat × Nat × Nat) : D := .tup [.int k.1, .str [k.2.1], .int k.2.2]
def k3 (r : Row) : Nat × Nat × Nat := (r.s, r.l, r.t)
theorem key3_eq (a b : Nat × Nat × Nat) : kEq (key3 a) (key3 b) = decide (a = b) := by
  obtain ⟨a1, a2, a3⟩ := a
  obtain ⟨b1, b2, b3⟩ := b
  simp only [key3, kEq, kEqL, Bool.and_true]
  by_cases h1 : a1 = b1 <;> by_cases h2 : a2 = b2 <;> by_cases h3 : a3 = b3 <;> simp [h1, h2, h3] <;> omega
theorem enum_row {rs : List Row} {m j : Nat} {d : D} (h : (enumD m (rs.map rowD))[j]? = some d) : ∃ r, rs[j]? = some r ∧ d = .tup [.int ((m + j : Nat) : Int), rowD r] := by
  induction rs generalizing m j with
  | nil => simp [enumD] at h
  | cons r rs ih =>
    rw [List.map_cons, enumD] at h
    cases j with
    | zero => simp at h; exact ⟨r, rfl, by rw [← h]; rfl⟩
    | succ j =>
      rw [List.getElem?_cons_succ] at h
      obtain ⟨r', e, rfl⟩ := ih h
      exact ⟨r', by simpa using e, by rw [show m + 1 + j = m + (j + 1) by omega]⟩
theorem alpha_lowS {s : List Nat} (h : isAlphaD (.str s) = true) : LowS s := by
  unfold LowS
  match s, h with
  | [_], h => simpa [isAlphaD] using h
  | [x, y], h => simp [isAlphaD] at h; simp [h]
  | [x, y, z], h => simp [isAlphaD] at h; simp [h]
theorem nodup_at {α β : Type} {f : α → β} {L : List α} {j : Nat} {x : α} (h : (L.map f).Nodup) (e : L[j]? = some x) : f x ∉ (L.take j).map f := by
  obtain ⟨hl, rfl⟩ := List.getElem?_eq_some_iff.mp e
  have e1 : L = L.take j ++ L[j] :: L.drop (j + 1) := by rw [← List.drop_eq_getElem_cons hl, List.take_append_drop]
  rw [e1, List.map_append, List.nodup_append] at h
  intro hm
  exact h.2.2 _ hm (f L[j]) (by rw [List.map_cons]; exact List.mem_cons_self ..) rfl
theorem atA_take {rs : List Row} {j : Nat} {r : Row} (e : rs[j]? = some r) (k : Nat × Nat) : atA (rs.take (j + 1)) k = if (r.s, r.l) = k then atA (rs.take j) k ++ [r] else atA (rs.take j) k := by
  unfold atA
  rw [List.take_add_one, e, Option.toList_some, List.filter_append]
  by_cases h : (r.s, r.l) = k <;> simp [h, List.filter_cons]
theorem keysA_len (al : List Nat) (n : Nat) : (keysA al n).length = n * al.length := by
  induction n with
  | zero => simp [keysA]
  | succ n ih => rw [keysA_succ, List.length_append, ih, List.length_map, Nat.succ_mul]
theorem pair_plain (r : Row) : plainD (pairD r) = true := by
  obtain ⟨_, _, _, w⟩ := r
  cases w <;> rfl
theorem pairs_plain (L : List Row) : plainL (L.map pairD) = true := plainL_iff.mpr fun d hd => by
  obtain ⟨r, _, rfl⟩ := List.mem_map.mp hd
  exact pair_plain r
theorem pair_dep (r : Row) : dep (pairD r) = 1 := rfl
theorem depL_pairs (L : List Row) : depL (L.map pairD) ≤ 1 := by
  induction L with
  | nil => decide
  | cons r L ih => rw [List.map_cons, depL, pair_dep]; omega
theorem pairs_ok (L : List Row) : okD (.lst (L.map pairD)) = true := by
  unfold okD
  rw [Bool.and_eq_true, decide_eq_true_eq]
  refine ⟨pairs_plain L, ?_⟩
  have := depL_pairs L
  rw [dep]; omega
theorem pairs_ne {L : List Row} (h : L ≠ []) : deqv (.lst (L.map pairD)) (.lst []) = false := by
  cases L with
  | nil => exact absurd rfl h
  | cons r L => rfl
theorem pair_alike (r q : Row) : PySem.W.alike (toPy (pairD r)) (toPy (pairD q)) = true := rfl
theorem pairs_can {L : List Row} (h : L.length ≤ 80000) : CanSort (L.map pairD) :=
  canSort_map (fun r _ => pair_plain r) (fun r _ => by rw [pair_dep]; decide) (fun r _ q _ => pair_alike r q) (fun r _ => ⟨_, _, rfl⟩) (by show _ ≤ 16777216; omega)
end L2.DL.LW


set_option Elab.async false
set_option linter.all false
set_option maxRecDepth 100000
set_option maxHeartbeats 4000000
namespace L2.DL.LW
open PySem PySem.Spec PyProof.Rows
/-! ### rows: order, equality, keys -/
mutual
def sharp : D → Bool
  | .int _ => true
  | .str _ => true
  | .lst xs => sharpL xs
  | .tup xs => sharpL xs
  | _ => false
def sharpL : List D → Bool
  | [] => true
  | x :: xs => sharp x && sharpL xs
end
mutual
theorem deqv_sharp : ∀ {d e : D}, sharp d = true → sharp e = true → (deqv d e = true ↔ d = e)
  | .int i, .int j, _, _ => by
    show PyData.eqv _ _ = true ↔ _
    simp [toPy, PyData.eqv]
  | .int i, .str j, _, _ => by
    show PyData.eqv _ _ = true ↔ _
    simp [toPy, PyData.eqv]
  | .int i, .lst j, _, _ => by
    show PyData.eqv _ _ = true ↔ _
    simp [toPy, PyData.eqv]
  | .int i, .tup j, _, _ => by
    show PyData.eqv _ _ = true ↔ _
    simp [toPy, PyData.eqv]
  | .str i, .int j, _, _ => by
    show PyData.eqv _ _ = true ↔ _
    simp [toPy, PyData.eqv]
  | .str i, .str j, _, _ => by rw [deqv_str]; simp
  | .str i, .lst j, _, _ => by
    show PyData.eqv _ _ = true ↔ _
    simp [toPy, PyData.eqv]
  | .str i, .tup j, _, _ => by
    show PyData.eqv _ _ = true ↔ _
    simp [toPy, PyData.eqv]
  | .lst i, .int j, _, _ => by
    show PyData.eqv _ _ = true ↔ _
    simp [toPy, PyData.eqv]
  | .lst i, .str j, _, _ => by
    show PyData.eqv _ _ = true ↔ _
    simp [toPy, PyData.eqv]
  | .lst i, .lst j, h, k => by
    have := deqvL_sharp (ds := i) (es := j) (by simpa [sharp] using h) (by simpa [sharp] using k)
    show PyData.eqv _ _ = true ↔ _
    simp only [toPy, PyData.eqv]
    rw [show PyData.eqvAll (toPyL i) (toPyL j) = deqvL i j from rfl, this]
    simp
  | .lst i, .tup j, _, _ => by
    show PyData.eqv _ _ = true ↔ _
    simp [toPy, PyData.eqv]
  | .tup i, .int j, _, _ => by
    show PyData.eqv _ _ = true ↔ _
    simp [toPy, PyData.eqv]
  | .tup i, .str j, _, _ => by
    show PyData.eqv _ _ = true ↔ _
    simp [toPy, PyData.eqv]
  | .tup i, .lst j, _, _ => by
    show PyData.eqv _ _ = true ↔ _
    simp [toPy, PyData.eqv]
  | .tup i, .tup j, h, k => by
    have := deqvL_sharp (ds := i) (es := j) (by simpa [sharp] using h) (by simpa [sharp] using k)
    show PyData.eqv _ _ = true ↔ _
    simp only [toPy, PyData.eqv]
    rw [show PyData.eqvAll (toPyL i) (toPyL j) = deqvL i j from rfl, this]
    simp
theorem deqvL_sharp : ∀ {ds es : List D}, sharpL ds = true → sharpL es = true → (deqvL ds es = true ↔ ds = es)
  | [], [], _, _ => by simp [deqvL, toPyL, PyData.eqvAll]
  | [], _ :: _, _, _ => by simp [deqvL, toPyL, PyData.eqvAll]
  | _ :: _, [], _, _ => by simp [deqvL, toPyL, PyData.eqvAll]
  | d :: ds, e :: es, h, k => by
    simp only [sharpL, Bool.and_eq_true] at h k
    have h1 := deqv_sharp h.1 k.1
    have h2 := deqvL_sharp h.2 k.2
    show PyData.eqvAll (toPyL (d :: ds)) (toPyL (e :: es)) = true ↔ _
    simp only [toPyL, PyData.eqvAll, Bool.and_eq_true]
    rw [show PyData.eqv (toPy d) (toPy e) = deqv d e from rfl, show PyData.eqvAll (toPyL ds) (toPyL es) = deqvL ds es from rfl, h1, h2]
    simp
end
theorem sharpL_map {α : Type} {f : α → D} (h : ∀ x, sharp (f x) = true) : ∀ L : List α, sharpL (L.map f) = true
  | [] => rfl
  | x :: L => by simp [sharpL, h x, sharpL_map h L]
theorem sharpL_iff : ∀ {L : List D}, sharpL L = true ↔ ∀ d ∈ L, sharp d = true
  | [] => by simp [sharpL]
  | x :: L => by simp [sharpL, sharpL_iff (L := L)]
theorem rowD_sharp (r : Row) : sharp (rowD r) = true := rfl
theorem pairD_sharp (r : Row) : sharp (pairD r) = true := rfl
theorem wC_inj {a b : Bool} (h : wC a = wC b) : a = b := by
  cases a <;> cases b <;> simp [wC] at h ⊢
theorem rowD_inj {r q : Row} (h : rowD r = rowD q) : r = q := by
  obtain ⟨a, b, c, d⟩ := r
  obtain ⟨a', b', c', d'⟩ := q
  simp only [rowD, D.tup.injEq, List.cons.injEq, D.int.injEq, D.str.injEq, and_true] at h
  obtain ⟨h1, h2, h3, h4⟩ := h
  have := wC_inj h4
  subst this
  have e1 : a = a' := by omega
  have e2 : c = c' := by omega
  subst e1; subst e2; subst h2
  rfl
theorem pairD_inj {r q : Row} (h : pairD r = pairD q) : r.t = q.t ∧ r.w = q.w := by
  simp only [pairD, D.tup.injEq, List.cons.injEq, D.int.injEq, D.str.injEq, and_true] at h
  exact ⟨by omega, wC_inj h.2⟩
theorem tk_row {r q : Row} (h : tk (rowD r) = tk (rowD q)) : rowD r = rowD q := by
  obtain ⟨a, b, c, d⟩ := r
  obtain ⟨a', b', c', d'⟩ := q
  simp [tk, rowD, toPy, toPyL, PySem.W.keyToks, PySem.W.keyToksAll] at h ⊢
  exact h
theorem tk_pair {r q : Row} (h : tk (pairD r) = tk (pairD q)) : pairD r = pairD q := by
  obtain ⟨a, b, c, d⟩ := r
  obtain ⟨a', b', c', d'⟩ := q
  simp [tk, pairD, toPy, toPyL, PySem.W.keyToks, PySem.W.keyToksAll] at h ⊢
  exact h
theorem sort_rows (A B : List Row) : sortD (A.map rowD) = sortD (B.map rowD) ↔ (A.map rowD).Perm (B.map rowD) := sortD_iff fun x hx y hy h => by
  obtain ⟨r, _, rfl⟩ := List.mem_map.mp hx
  obtain ⟨q, _, rfl⟩ := List.mem_map.mp hy
  exact tk_row h
theorem sort_pairs (A B : List Row) : sortD (A.map pairD) = sortD (B.map pairD) ↔ (A.map pairD).Perm (B.map pairD) := sortD_iff fun x hx y hy h => by
  obtain ⟨r, _, rfl⟩ := List.mem_map.mp hx
  obtain ⟨q, _, rfl⟩ := List.mem_map.mp hy
  exact tk_pair h
theorem perm_of_map {α β : Type} {f : α → β} (g : β → α) {A B : List α} (hA : ∀ x ∈ A, g (f x) = x) (hB : ∀ x ∈ B, g (f x) = x) (h : (A.map f).Perm (B.map f)) : A.Perm B := by
  have := h.map g
  rw [List.map_map, List.map_map] at this
  have e : ∀ L : List α, (∀ x ∈ L, g (f x) = x) → L.map (g ∘ f) = L := fun L hL => by
    conv => rhs; rw [← List.map_id L]
    exact List.map_congr_left fun x hx => hL x hx
  rwa [e A hA, e B hB] at this
def unRow : D → Row
  | .tup [.int a, .str [b], .int c, .str d] => ⟨a.toNat, b, c.toNat, decide (d = wC true)⟩
  | _ => ⟨0, 0, 0, false⟩
theorem unRow_row (r : Row) : unRow (rowD r) = r := by
  obtain ⟨a, b, c, d⟩ := r
  cases d <;> simp [unRow, rowD, wC]
def unPair (k : Nat × Nat) : D → Row
  | .tup [.int c, .str d] => ⟨k.1, k.2, c.toNat, decide (d = wC true)⟩
  | _ => ⟨0, 0, 0, false⟩
theorem unPair_pair {k : Nat × Nat} {r : Row} (h : (r.s, r.l) = k) : unPair k (pairD r) = r := by
  obtain ⟨a, b, c, d⟩ := r
  subst h
  cases d <;> simp [unPair, pairD, wC]
theorem rows_perm {A B : List Row} : (A.map rowD).Perm (B.map rowD) ↔ A.Perm B :=
  ⟨perm_of_map unRow (fun r _ => unRow_row r) fun r _ => unRow_row r, fun h => h.map _⟩
theorem atA_key {rs : List Row} {k : Nat × Nat} {r : Row} (h : r ∈ atA rs k) : (r.s, r.l) = k := by
  simpa [atA] using (List.mem_filter.mp h).2
theorem pairs_perm {A B : List Row} {k : Nat × Nat} : ((atA A k).map pairD).Perm ((atA B k).map pairD) ↔ (atA A k).Perm (atA B k) :=
  ⟨perm_of_map (unPair k) (fun _ h => unPair_pair (atA_key h)) fun _ h => unPair_pair (atA_key h), fun h => h.map _⟩
theorem perm_at {A B : List Row} {ks : List (Nat × Nat)} (hA : ∀ r ∈ A, (r.s, r.l) ∈ ks) (hB : ∀ r ∈ B, (r.s, r.l) ∈ ks) : A.Perm B ↔ ∀ k ∈ ks, (atA A k).Perm (atA B k) := by
  constructor
  · intro h k _
    exact h.filter _
  · intro h
    rw [List.perm_iff_count]
    intro r
    have cf : ∀ L : List Row, List.count r (atA L (r.s, r.l)) = List.count r L := fun L => by
      unfold atA
      rw [List.count_filter (by simp)]
    by_cases hk : (r.s, r.l) ∈ ks
    · rw [← cf A, ← cf B]
      exact (List.perm_iff_count.mp (h _ hk)) r
    · rw [List.count_eq_zero_of_not_mem fun q => hk (hA r q), List.count_eq_zero_of_not_mem fun q => hk (hB r q)]
theorem dhits_map {α : Type} [DecidableEq α] {kf vf vf' : α → D} (hk : ∀ a b, kEq (kf a) (kf b) = decide (a = b)) {L : List α} : ∀ M : List α, (∀ x ∈ M, x ∈ L) → (dhits (L.map kf) (L.map vf') (M.map kf) (M.map vf) = true ↔ ∀ x ∈ M, deqv (vf x) (vf' x) = true)
  | [], _ => by simp [dhits]
  | x :: M, h => by
    rw [List.map_cons, List.map_cons, dhits, dget_map hk, if_pos (h x (by simp)), Bool.and_eq_true, dhits_map hk M fun y hy => h y (by simp [hy])]
    simp
theorem movA_sharp (rs : List Row) (k : Nat × Nat) : sharp (movA rs k) = true := by
  unfold movA
  simp only [sharp]
  rw [sharpL_iff]
  intro d hd
  obtain ⟨r, _, rfl⟩ := List.mem_map.mp (sortD_mem.mp hd)
  exact pairD_sharp r
theorem movA_eq {A B : List Row} {k : Nat × Nat} : deqv (movA A k) (movA B k) = true ↔ (atA A k).Perm (atA B k) := by
  rw [deqv_sharp (movA_sharp A k) (movA_sharp B k)]
  unfold movA
  rw [D.lst.injEq, sort_pairs, pairs_perm]
theorem eq_moves {al : List Nat} {n : Nat} {A B : List Row} (hA : ∀ r ∈ A, (r.s, r.l) ∈ keysA al n) (hB : ∀ r ∈ B, (r.s, r.l) ∈ keysA al n) :
    deqDic ((keysA al n).map keyA) ((keysA al n).map (movA A)) ((keysA al n).map keyA) ((keysA al n).map (movA B)) = decide (A.Perm B) := by
  rw [Bool.eq_iff_iff, decide_eq_true_iff]
  unfold deqDic
  rw [Bool.and_eq_true, dhits_map keyA_eq _ fun _ h => h, perm_at hA hB]
  simp only [beq_self_eq_true, true_and]
  exact ⟨fun h k hk => movA_eq.mp (h k hk), fun h k hk => movA_eq.mpr (h k hk)⟩
theorem GoodA.key {al : List Nat} {n i : Nat} {rs : List Row} (g : GoodA al n i rs) : ∀ r ∈ rs, (r.s, r.l) ∈ keysA al n := fun r hr => keysA_mem.mpr ⟨g.src r hr, g.let' r hr⟩
theorem sorted_rows_eq {A B : List Row} : deqv (.lst (sortD (A.map rowD))) (.lst (sortD (B.map rowD))) = decide (A.Perm B) := by
  have sh : ∀ L : List Row, sharp (.lst (sortD (L.map rowD))) = true := fun L => by
    simp only [sharp]
    rw [sharpL_iff]
    intro d hd
    obtain ⟨r, _, rfl⟩ := List.mem_map.mp (sortD_mem.mp hd)
    exact rowD_sharp r
  rw [Bool.eq_iff_iff, decide_eq_true_iff, deqv_sharp (sh A) (sh B), D.lst.injEq, sort_rows, rows_perm]
def unT : D → List D
  | .tup q => q
  | _ => []
/-- all rows, key by key -/
theorem perm_keys : ∀ {ks : List (Nat × Nat)} {rs : List Row}, ks.Nodup → (∀ r ∈ rs, (r.s, r.l) ∈ ks) → (ks.flatMap fun k => atA rs k).Perm rs
  | [], rs, _, h => by
    cases rs with
    | nil => exact .nil
    | cons r rs => exact absurd (h r (by simp)) (by simp)
  | k :: ks, rs, hn, h => by
    rw [List.flatMap_cons]
    have hn' := List.nodup_cons.mp hn
    have e : (ks.flatMap fun j => atA rs j) = ks.flatMap fun j => atA (rs.filter fun r => !decide ((r.s, r.l) = k)) j := by
      refine congrArg List.flatten (List.map_congr_left fun j hj => ?_)
      unfold atA
      rw [List.filter_filter]
      refine List.filter_congr fun r _ => ?_
      by_cases q : (r.s, r.l) = j
      · have : ¬ (r.s, r.l) = k := fun z => hn'.1 (by rw [← z, q]; exact hj)
        simp [q]
        intro z
        exact this (by rw [q]; exact z)
      · simp [q]
    rw [e]
    refine (List.Perm.append_left _ (perm_keys hn'.2 fun r hr => ?_)).trans ?_
    · rw [List.mem_filter] at hr
      rcases List.mem_cons.mp (h r hr.1) with q | q
      · simp [q] at hr
      · exact q
    · exact List.filter_append_perm _ rs
theorem trans_perm {al : List Nat} {n i : Nat} {rs : List Row} (g : GoodA al n i rs) : ((keysA al n).flatMap fun k => (sortD ((atA rs k).map pairD)).map fun p => D.tup ([D.int k.1, D.str [k.2]] ++ unT p)).Perm (rs.map rowD) := by
  have p1 := (perm_keys (keysA_nd (alpha_nd g.alp) n) g.key).map rowD
  refine List.Perm.trans ?_ p1
  rw [List.map_flatMap]
  clear p1
  induction keysA al n with
  | nil => exact .nil
  | cons k ks ih =>
    rw [List.flatMap_cons, List.flatMap_cons]
    refine List.Perm.append ?_ ih
    refine ((sortD_perm _).map _).trans ?_
    rw [List.map_map]
    have : (atA rs k).map ((fun p => D.tup ([D.int k.1, D.str [k.2]] ++ unT p)) ∘ pairD) = (atA rs k).map rowD := by
      refine List.map_congr_left fun r hr => ?_
      have := atA_key hr
      subst this
      rfl
    rw [this]
end L2.DL.LW


set_option Elab.async false
set_option linter.all false
set_option maxRecDepth 100000
set_option maxHeartbeats 4000000
namespace L2.DL.LW
open PySem PySem.Spec PyProof.Rows
/-! ### rows of some keys -/
structure Part (n : Nat) (g : Bool) (ks : List (Nat × Nat)) (rs : List Row) : Prop where
  key : ∀ r ∈ rs, (r.s, r.l) ∈ ks
  tgt : ∀ r ∈ rs, r.t < n
  nd : (rs.map fun r => (r.s, r.l, r.t)).Nodup
  full : ∀ k ∈ ks, atA rs k ≠ []
  det : g = false → ∀ k ∈ ks, (atA rs k).length = 1
  len : rs.length ≤ 3 * ks.length
  three : ∀ k ∈ ks, (atA rs k).length ≤ 3
theorem Part.nil {n : Nat} {g : Bool} : Part n g [] [] := ⟨by simp, by simp, by simp, by simp, by simp, by simp, by simp⟩
theorem atA_app (A B : List Row) (k : Nat × Nat) : atA (A ++ B) k = atA A k ++ atA B k := List.filter_append ..
theorem atA_none {A : List Row} {k : Nat × Nat} (h : ∀ r ∈ A, (r.s, r.l) ≠ k) : atA A k = [] := by
  unfold atA
  rw [List.filter_eq_nil_iff]
  intro r hr
  simpa using h r hr
theorem atA_all {A : List Row} {k : Nat × Nat} (h : ∀ r ∈ A, (r.s, r.l) = k) : atA A k = A := by
  unfold atA
  rw [List.filter_eq_self]
  intro r hr
  simpa using h r hr
theorem zip_mem {k : Nat × Nat} : ∀ {ts : List Nat} {ws : List Bool}, ∀ r ∈ List.zipWith (fun t w => Row.mk k.1 k.2 t w) ts ws, (r.s, r.l) = k ∧ r.t ∈ ts
  | [], ws, r, h => by simp at h
  | t :: ts, [], r, h => by simp at h
  | t :: ts, w :: ws, r, h => by
    rw [List.zipWith_cons_cons] at h
    rcases List.mem_cons.mp h with rfl | h
    · exact ⟨rfl, by simp⟩
    · have := zip_mem (k := k) r h
      exact ⟨this.1, by simp [this.2]⟩
theorem zip_t {k : Nat × Nat} : ∀ {ts : List Nat} {ws : List Bool}, ws.length = ts.length → (List.zipWith (fun t w => Row.mk k.1 k.2 t w) ts ws).map (fun r => (r.s, r.l, r.t)) = ts.map fun t => (k.1, k.2, t)
  | [], [], _ => rfl
  | [], _ :: _, h => by simp at h
  | _ :: _, [], h => by simp at h
  | t :: ts, w :: ws, h => by
    rw [List.zipWith_cons_cons, List.map_cons, List.map_cons, zip_t (by simpa using h)]
theorem Part.step {n : Nat} {g : Bool} {ks : List (Nat × Nat)} {rs : List Row} {k : Nat × Nat} (h : Part n g ks rs) (hk : k ∉ ks) {ts : List Nat} {ws : List Bool} (hw : ws.length = ts.length) (nd : ts.Nodup) (lt : ∀ t ∈ ts, t < n) (ne : ts ≠ []) (l3 : ts.length ≤ 3) (l1 : g = false → ts.length = 1) :
    Part n g (ks ++ [k]) (rs ++ List.zipWith (fun t w => Row.mk k.1 k.2 t w) ts ws) := by
  have hz := fun r hr => zip_mem (k := k) (ts := ts) (ws := ws) r hr
  have hzt := zip_t (k := k) hw
  have hl : (List.zipWith (fun t w => Row.mk k.1 k.2 t w) ts ws).length = ts.length := by rw [List.length_zipWith, hw]; simp
  have a1 : atA (List.zipWith (fun t w => Row.mk k.1 k.2 t w) ts ws) k = List.zipWith (fun t w => Row.mk k.1 k.2 t w) ts ws := atA_all fun r hr => (hz r hr).1
  have a2 : ∀ k' ∈ ks, atA (List.zipWith (fun t w => Row.mk k.1 k.2 t w) ts ws) k' = [] := fun k' hk' => atA_none fun r hr e => hk (by rw [← (hz r hr).1, e]; exact hk')
  have a3 : atA rs k = [] := atA_none fun r hr e => hk (e ▸ h.key r hr)
  generalize List.zipWith (fun t w => Row.mk k.1 k.2 t w) ts ws = N at *
  have nN : N ≠ [] := fun e => ne (by rw [e] at hl; simpa using hl.symm)
  refine ⟨?_, ?_, ?_, ?_, ?_, ?_, ?_⟩
  · intro r hr
    rcases List.mem_append.mp hr with q | q
    · exact List.mem_append_left _ (h.key r q)
    · rw [(hz r q).1]; simp
  · intro r hr
    rcases List.mem_append.mp hr with q | q
    · exact h.tgt r q
    · exact lt _ (hz r q).2
  · rw [List.map_append, List.nodup_append]
    refine ⟨h.nd, ?_, ?_⟩
    · rw [hzt]
      exact List.pairwise_map.mpr (nd.imp fun q e => q (by simpa using e))
    · intro x hx y hy e
      subst e
      obtain ⟨r, hr, rfl⟩ := List.mem_map.mp hx
      rw [hzt] at hy
      obtain ⟨t, _, e⟩ := List.mem_map.mp hy
      have := h.key r hr
      apply hk
      simp only [Prod.mk.injEq] at e
      rw [← e.1, ← e.2.1] at this
      exact this
  · intro k' hk'
    rw [atA_app]
    rcases List.mem_append.mp hk' with q | q
    · have := h.full k' q
      simp [this]
    · obtain rfl : k' = k := by simpa using q
      rw [a1]
      simp [nN]
  · intro hg k' hk'
    rw [atA_app, List.length_append]
    rcases List.mem_append.mp hk' with q | q
    · rw [h.det hg k' q, a2 k' q]
      rfl
    · obtain rfl : k' = k := by simpa using q
      rw [a1, a3, hl, l1 hg]
      rfl
  · rw [List.length_append, List.length_append, hl]
    have := h.len
    simp
    omega
  · intro k' hk'
    rw [atA_app, List.length_append]
    rcases List.mem_append.mp hk' with q | q
    · rw [a2 k' q, List.length_nil]
      exact h.three k' q
    · obtain rfl : k' = k := by simpa using q
      rw [a1, a3, hl, List.length_nil]
      omega
theorem atA_perm {A B : List Row} (p : A.Perm B) (k : Nat × Nat) : (atA A k).Perm (atA B k) := p.filter _
theorem Part.perm {n : Nat} {g : Bool} {ks : List (Nat × Nat)} {A B : List Row} (h : Part n g ks A) (p : B.Perm A) : Part n g ks B where
  key := fun r hr => h.key r (p.mem_iff.mp hr)
  tgt := fun r hr => h.tgt r (p.mem_iff.mp hr)
  nd := (p.map _).nodup_iff.mpr h.nd
  full := fun k hk e => h.full k hk (by have := atA_perm p k; rw [e] at this; exact this.symm.eq_nil)
  det := fun hg k hk => by rw [(atA_perm p k).length_eq]; exact h.det hg k hk
  len := by rw [p.length_eq]; exact h.len
  three := fun k hk => by rw [(atA_perm p k).length_eq]; exact h.three k hk
theorem Part.good {al : List Nat} {n i : Nat} {g : Bool} {rs : List Row} (h : Part n g (keysA al n) rs) (ha : isAlphaD (.str al) = true) (h1 : 1 ≤ n) (h2 : n ≤ 65) (hi : i < n) : GoodA al n i rs where
  alp := ha
  lo := h1
  hi := h2
  len := by
    have := h.len
    rw [keysA_len] at this
    have := Nat.mul_le_mul h2 (alpha_len ha)
    omega
  src := fun r hr => (keysA_mem.mp (h.key r hr)).1
  let' := fun r hr => (keysA_mem.mp (h.key r hr)).2
  tgt := h.tgt
  nd := h.nd
  full := h.full
  ini := hi
theorem perm_map_go {α β : Type} {f : α → β} {A B : List β} (h : A.Perm B) : ∀ L : List α, A = L.map f → ∃ L' : List α, B = L'.map f ∧ L'.Perm L := by
  induction h with
  | nil =>
    intro L e
    cases L with
    | nil => exact ⟨[], rfl, .nil⟩
    | cons x L => simp at e
  | cons x p ih =>
    intro L e
    cases L with
    | nil => simp at e
    | cons y L =>
      rw [List.map_cons] at e
      obtain ⟨e1, e2⟩ := List.cons.inj e
      obtain ⟨L', h1, h2⟩ := ih L e2
      exact ⟨y :: L', by rw [List.map_cons, e1, h1], h2.cons y⟩
  | swap x y l =>
    intro L e
    match L, e with
    | [], e => simp at e
    | [a], e => simp at e
    | a :: b :: L, e =>
      simp only [List.map_cons, List.cons.injEq] at e
      obtain ⟨e1, e2, e3⟩ := e
      exact ⟨b :: a :: L, by simp [e1, e2, e3], .swap a b L⟩
  | trans p q ih1 ih2 =>
    intro L e
    obtain ⟨L1, h1, h2⟩ := ih1 L e
    obtain ⟨L2, h3, h4⟩ := ih2 L1 h1
    exact ⟨L2, h3, h4.trans h2⟩
theorem perm_map_ex {α β : Type} {f : α → β} {L : List α} {ys : List β} (h : ys.Perm (L.map f)) : ∃ L' : List α, ys = L'.map f ∧ L'.Perm L := perm_map_go h.symm L rfl
/-! ### rows changed -/
theorem k3_inj {rs : List Row} (h : (rs.map fun r => (r.s, r.l, r.t)).Nodup) {a b : Row} (ha : a ∈ rs) (hb : b ∈ rs) (e : (a.s, a.l, a.t) = (b.s, b.l, b.t)) : a = b := by
  induction rs with
  | nil => simp at ha
  | cons r rs ih =>
    rw [List.map_cons, List.nodup_cons] at h
    have out : ∀ x ∈ rs, (r.s, r.l, r.t) = (x.s, x.l, x.t) → False := fun x hx q => h.1 (q ▸ List.mem_map_of_mem hx)
    rcases List.mem_cons.mp ha with q | q <;> rcases List.mem_cons.mp hb with p | p
    · rw [q, p]
    · subst q
      exact (out b p e).elim
    · subst p
      exact (out a q e.symm).elim
    · exact ih h.2 q p
def flip (r : Row) : Row := { r with w := !r.w }
theorem mem_atA {rs : List Row} {k : Nat × Nat} {r : Row} : r ∈ atA rs k ↔ r ∈ rs ∧ (r.s, r.l) = k := by
  simp [atA, List.mem_filter]
theorem atA_ne {rs : List Row} {k : Nat × Nat} : atA rs k ≠ [] ↔ ∃ r ∈ rs, (r.s, r.l) = k := by
  constructor
  · intro h
    obtain ⟨r, hr⟩ := List.exists_mem_of_ne_nil _ h
    exact ⟨r, mem_atA.mp hr⟩
  · rintro ⟨r, hr⟩ e
    have := mem_atA.mpr hr
    rw [e] at this
    simp at this
theorem GoodA.flip {al : List Nat} {n i : Nat} {rs : List Row} {r : Row} (g : GoodA al n i rs) (hr : r ∈ rs) : GoodA al n i (rs.filter (fun q => !decide (q = r)) ++ [flip r]) := by
  have sub : ∀ q ∈ rs.filter (fun q => !decide (q = r)) ++ [LW.flip r], q = LW.flip r ∨ q ∈ rs := fun q hq => by
    rcases List.mem_append.mp hq with h | h
    · exact .inr (List.mem_filter.mp h).1
    · exact .inl (by simpa using h)
  exact {
    alp := g.alp
    lo := g.lo
    hi := g.hi
    len := by
      have h1 : (rs.filter (fun q => !decide (q = r))).length < rs.length := by
        rw [List.length_filter_lt_length_iff_exists]
        exact ⟨r, hr, by simp⟩
      have := g.len
      simp
      omega
    src := fun q hq => (sub q hq).elim (fun e => e ▸ g.src r hr) (g.src q)
    let' := fun q hq => (sub q hq).elim (fun e => e ▸ g.let' r hr) (g.let' q)
    tgt := fun q hq => (sub q hq).elim (fun e => e ▸ g.tgt r hr) (g.tgt q)
    nd := by
      rw [List.map_append, List.nodup_append]
      refine ⟨(List.filter_sublist.map _).nodup g.nd, by simp, ?_⟩
      intro x hx y hy e
      subst e
      obtain ⟨q, hq, rfl⟩ := List.mem_map.mp hx
      rw [List.mem_filter] at hq
      have e2 : (q.s, q.l, q.t) = (r.s, r.l, r.t) := by simpa [LW.flip] using hy
      have := k3_inj g.nd hq.1 hr e2
      simp [this] at hq
    full := fun k hk => by
      obtain ⟨q, hq, e⟩ := atA_ne.mp (g.full k hk)
      rw [atA_ne]
      by_cases h : q = r
      · exact ⟨LW.flip r, by simp, by rw [← e, h]; rfl⟩
      · exact ⟨q, by simp [hq, h], e⟩
    ini := g.ini }
theorem GoodA.wide {al : List Nat} {n i : Nat} {rs : List Row} {q : Row} (g : GoodA al n i rs) (h1 : q.s < n) (h2 : q.l ∈ al) (h3 : q.t < n) (h4 : (q.s, q.l, q.t) ∉ rs.map fun r => (r.s, r.l, r.t)) (h5 : rs.length + 1 ≤ 80000) : GoodA al n i (rs ++ [q]) where
  alp := g.alp
  lo := g.lo
  hi := g.hi
  len := by simpa using h5
  src := fun r hr => (List.mem_append.mp hr).elim (g.src r) fun e => by rw [List.mem_singleton.mp e]; exact h1
  let' := fun r hr => (List.mem_append.mp hr).elim (g.let' r) fun e => by rw [List.mem_singleton.mp e]; exact h2
  tgt := fun r hr => (List.mem_append.mp hr).elim (g.tgt r) fun e => by rw [List.mem_singleton.mp e]; exact h3
  nd := by
    rw [List.map_append, List.nodup_append]
    refine ⟨g.nd, by simp, fun x hx y hy e => ?_⟩
    subst e
    rw [show x = (q.s, q.l, q.t) by simpa using hy] at hx
    exact h4 hx
  full := fun k hk => by
    obtain ⟨r, hr, e⟩ := atA_ne.mp (g.full k hk)
    exact atA_ne.mpr ⟨r, List.mem_append_left _ hr, e⟩
  ini := g.ini
theorem GoodA.more {al : List Nat} {n i : Nat} {rs : List Row} (g : GoodA al n i rs) (hn : n + 1 ≤ 65) (h5 : rs.length + 3 ≤ 80000) : GoodA al (n + 1) i (rs ++ al.map fun l => Row.mk n l 0 true) where
  alp := g.alp
  lo := by omega
  hi := hn
  len := by
    have := alpha_len g.alp
    simp
    omega
  src := fun r hr => (List.mem_append.mp hr).elim (fun h => by have := g.src r h; omega) fun h => by
    obtain ⟨l, _, rfl⟩ := List.mem_map.mp h
    show n < n + 1
    omega
  let' := fun r hr => (List.mem_append.mp hr).elim (g.let' r) fun h => by
    obtain ⟨l, hl, rfl⟩ := List.mem_map.mp h
    exact hl
  tgt := fun r hr => (List.mem_append.mp hr).elim (fun h => by have := g.tgt r h; omega) fun h => by
    obtain ⟨l, _, rfl⟩ := List.mem_map.mp h
    show 0 < n + 1
    omega
  nd := by
    rw [List.map_append, List.nodup_append]
    refine ⟨g.nd, ?_, fun x hx y hy e => ?_⟩
    · rw [List.map_map]
      exact List.pairwise_map.mpr ((alpha_nd g.alp).imp fun q e => q (by simpa using e))
    · subst e
      obtain ⟨r, hr, rfl⟩ := List.mem_map.mp hx
      rw [List.map_map] at hy
      obtain ⟨l, _, e⟩ := List.mem_map.mp hy
      have := g.src r hr
      simp at e
      omega
  full := fun k hk => by
    rw [keysA_succ] at hk
    rw [atA_ne]
    rcases List.mem_append.mp hk with h | h
    · obtain ⟨r, hr, e⟩ := atA_ne.mp (g.full k h)
      exact ⟨r, List.mem_append_left _ hr, e⟩
    · obtain ⟨l, hl, rfl⟩ := List.mem_map.mp h
      exact ⟨⟨n, l, 0, true⟩, List.mem_append_right _ (List.mem_map_of_mem hl), rfl⟩
  ini := by have := g.ini; omega
theorem GoodA.permA {al : List Nat} {n i : Nat} {A B : List Row} (g : GoodA al n i A) (p : B.Perm A) : GoodA al n i B where
  alp := g.alp
  lo := g.lo
  hi := g.hi
  len := by rw [p.length_eq]; exact g.len
  src := fun r hr => g.src r (p.mem_iff.mp hr)
  let' := fun r hr => g.let' r (p.mem_iff.mp hr)
  tgt := fun r hr => g.tgt r (p.mem_iff.mp hr)
  nd := (p.map _).nodup_iff.mpr g.nd
  full := fun k hk e => g.full k hk (by have := atA_perm p k; rw [e] at this; exact this.symm.eq_nil)
  ini := g.ini
theorem GoodA.ini' {al : List Nat} {n i j : Nat} {A : List Row} (g : GoodA al n i A) (h : j < n) : GoodA al n j A := { g with ini := h }
/-! ### drawn rows of a comprehension -/
theorem wpMap_draw {α β : Type} {f : D → (List D → Prop) → Prop} {kf : α → D} (h : α → β → D) : ∀ {L : List α} {Q : List D → Prop}, (∀ x ∈ L, ∀ k : List D → Prop, (∀ w : β, k [h x w]) → f (kf x) k) → (∀ ws : List β, ws.length = L.length → Q (List.zipWith h L ws)) → wpMap f (L.map kf) Q
  | [], Q, _, q => q [] rfl
  | x :: L, Q, hf, q => hf x (by simp) _ fun w => wpMap_draw h (L := L) (fun y hy => hf y (by simp [hy])) fun ws hw => by
    have := q (w :: ws) (by simp [hw])
    rwa [List.zipWith_cons_cons] at this
theorem wpMap_onF {α : Type} {f : D → (List D → Prop) → Prop} {kf : α → D} (g : α → List D) : ∀ {L : List α} {Q : List D → Prop}, (∀ x ∈ L, ∀ k : List D → Prop, k (g x) → f (kf x) k) → Q (L.flatMap g) → wpMap f (L.map kf) Q
  | [], Q, _, q => q
  | x :: L, Q, h, q => by
    unfold wpMap
    refine h x (by simp) _ (wpMap_onF g (L := L) (fun y hy => h y (by simp [hy])) ?_)
    simpa using q
theorem fn_alphabet_size : (("alphabet" : Str) = "size") = False := by decide +kernel
theorem fn_alphabet_initial : (("alphabet" : Str) = "initial") = False := by decide +kernel
theorem fn_alphabet_own_moves : (("alphabet" : Str) = "own_moves") = False := by decide +kernel
theorem fn_size_alphabet : (("size" : Str) = "alphabet") = False := by decide +kernel
theorem fn_size_initial : (("size" : Str) = "initial") = False := by decide +kernel
theorem fn_size_own_moves : (("size" : Str) = "own_moves") = False := by decide +kernel
theorem fn_initial_alphabet : (("initial" : Str) = "alphabet") = False := by decide +kernel
theorem fn_initial_size : (("initial" : Str) = "size") = False := by decide +kernel
theorem fn_initial_own_moves : (("initial" : Str) = "own_moves") = False := by decide +kernel
theorem fn_own_moves_alphabet : (("own_moves" : Str) = "alphabet") = False := by decide +kernel
theorem fn_own_moves_size : (("own_moves" : Str) = "size") = False := by decide +kernel
theorem fn_own_moves_initial : (("own_moves" : Str) = "initial") = False := by decide +kernel
def cellD (p : Nat × Bool) : D := .tup [.int p.1, .str (wC p.2)]
def rowsD (r : List (Nat × Bool)) : D := .lst (r.map cellD)
def detRow (al : List Nat) (s : Nat) (r : List (Nat × Bool)) : List Row := List.zipWith (fun l p => Row.mk s l p.1 p.2) al r
def detRows (al : List Nat) : Nat → List (List (Nat × Bool)) → List Row
  | _, [] => []
  | s, r :: rs => detRow al s r ++ detRows al (s + 1) rs
structure GoodD (al : List Nat) (rows : List (List (Nat × Bool))) (i : Nat) : Prop where
  alp : isAlphaD (.str al) = true
  lo : 1 ≤ rows.length
  hi : rows.length ≤ 65
  len : ∀ r ∈ rows, r.length = al.length
  tgt : ∀ r ∈ rows, ∀ p ∈ r, p.1 < rows.length
  ini : i < rows.length
theorem enum_mapf {α : Type} {f : α → D} {rs : List α} {m j : Nat} {d : D} (h : (enumD m (rs.map f))[j]? = some d) : ∃ r, rs[j]? = some r ∧ d = .tup [.int ((m + j : Nat) : Int), f r] := by
  induction rs generalizing m j with
  | nil => simp [enumD] at h
  | cons r rs ih =>
    rw [List.map_cons, enumD] at h
    cases j with
    | zero => simp at h; exact ⟨r, rfl, by rw [← h]; rfl⟩
    | succ j =>
      rw [List.getElem?_cons_succ] at h
      obtain ⟨r', e, rfl⟩ := ih h
      exact ⟨r', by simpa using e, by rw [show m + 1 + j = m + (j + 1) by omega]⟩
theorem detRows_app (al : List Nat) : ∀ (A : List (List (Nat × Bool))) (r : List (Nat × Bool)) (s : Nat), detRows al s (A ++ [r]) = detRows al s A ++ detRow al (s + A.length) r
  | [], r, s => by simp [detRows]
  | a :: A, r, s => by
    rw [List.cons_append, detRows, detRows_app al A r (s + 1), detRows, List.append_assoc, List.length_cons, show s + 1 + A.length = s + (A.length + 1) by omega]
theorem detRow_part {n : Nat} {g : Bool} {s : Nat} : ∀ {al : List Nat} {r : List (Nat × Bool)} {ks : List (Nat × Nat)} {rs : List Row}, al.Nodup → r.length = al.length → (∀ p ∈ r, p.1 < n) → (∀ l ∈ al, (s, l) ∉ ks) → Part n g ks rs → Part n g (ks ++ al.map fun l => (s, l)) (rs ++ detRow al s r)
  | [], r, ks, rs, _, h, _, _, hp => by
    simpa [detRow] using hp
  | l :: al, [], ks, rs, _, h, _, _, hp => by simp at h
  | l :: al, p :: r, ks, rs, nd, h, ht, hk, hp => by
    rw [List.nodup_cons] at nd
    have h1 := hp.step (k := (s, l)) (hk l (by simp)) (ts := [p.1]) (ws := [p.2]) rfl (by simp) (by simpa using ht p (by simp)) (by simp) (by simp) (fun _ => rfl)
    have h2 := detRow_part (s := s) nd.2 (by simpa using h) (fun q hq => ht q (by simp [hq])) (ks := ks ++ [(s, l)]) (fun l' hl' hm => by
      rcases List.mem_append.mp hm with q | q
      · exact hk l' (by simp [hl']) q
      · simp at q
        exact nd.1 (q ▸ hl')) h1
    simpa [detRow, List.append_assoc] using h2
theorem detRows_part {n : Nat} {g : Bool} {al : List Nat} (ha : isAlphaD (.str al) = true) : ∀ {rows : List (List (Nat × Bool))} {s : Nat} {ks : List (Nat × Nat)} {rs : List Row}, Part n g ks rs → (∀ k ∈ ks, k.1 < s) → (∀ r ∈ rows, r.length = al.length) → (∀ r ∈ rows, ∀ p ∈ r, p.1 < n) →
    Part n g (ks ++ (List.range' s rows.length).flatMap fun s => al.map fun l => (s, l)) (rs ++ detRows al s rows) ∧ (detRows al s rows).length = rows.length * al.length
  | [], s, ks, rs, hp, _, _, _ => by simpa [detRows] using hp
  | r :: rows, s, ks, rs, hp, hk, hl, ht => by
    have h1 := detRow_part (s := s) (alpha_nd ha) (hl r (by simp)) (ht r (by simp)) (fun l _ hm => by have := hk _ hm; simp at this) hp
    obtain ⟨h2, h3⟩ := detRows_part ha (rows := rows) (s := s + 1) h1 (fun k hm => by
      rcases List.mem_append.mp hm with q | q
      · have := hk _ q; omega
      · obtain ⟨l, _, rfl⟩ := List.mem_map.mp q
        show s < s + 1
        omega) (fun q hq => hl q (by simp [hq])) (fun q hq => ht q (by simp [hq]))
    refine ⟨by simpa [detRows, List.range'_succ, List.append_assoc] using h2, ?_⟩
    rw [detRows, List.length_append, h3]
    unfold detRow
    rw [List.length_zipWith, hl r (by simp), Nat.min_self, List.length_cons, Nat.succ_mul]
    omega
theorem GoodD.part {al : List Nat} {rows : List (List (Nat × Bool))} {i : Nat} (g : GoodD al rows i) : Part rows.length false (keysA al rows.length) (detRows al 0 rows) := by
  have := (detRows_part (n := rows.length) (g := false) g.alp (rows := rows) (s := 0) Part.nil (by simp) g.len g.tgt).1
  simpa [keysA, List.range_eq_range'] using this
theorem GoodD.good {al : List Nat} {rows : List (List (Nat × Bool))} {i : Nat} (g : GoodD al rows i) : GoodA al rows.length i (detRows al 0 rows) := g.part.good g.alp g.lo g.hi g.ini
theorem GoodA.pos {al : List Nat} {n i : Nat} {rs : List Row} (g : GoodA al n i rs) : 0 < rs.length := by
  have : ∃ l, l ∈ al := by
    have := g.alp
    match al, this with
    | x :: _, _ => exact ⟨x, by simp⟩
  obtain ⟨l, hl⟩ := this
  have h := g.full (0, l) (keysA_mem.mpr ⟨by have := g.lo; omega, hl⟩)
  obtain ⟨r, hr, _⟩ := atA_ne.mp h
  exact List.length_pos_of_mem hr
theorem flat_filter (rs : List Row) (r : Row) : (rs.flatMap fun q => if q = r then [] else [rowD q]) = (rs.filter fun q => !decide (q = r)).map rowD := by
  induction rs with
  | nil => rfl
  | cons q rs ih =>
    rw [List.flatMap_cons, ih, List.filter_cons]
    by_cases e : q = r <;> simp [e]
theorem row_plain {al : List Nat} (ha : LowS al) {r : Row} (h : r.l ∈ al) : plainD (rowD r) = true := by
  have h1 := okD.plain (low_ok (s := [r.l]) fun c hc => ha c (by rw [List.mem_singleton.mp hc]; exact h))
  show plainL [_, _, _, _] = true
  simp only [plainL, h1, Bool.and_true, Bool.true_and]
  cases r.w <;> rfl
theorem rows_can {al : List Nat} {n i : Nat} {L : List Row} (g : GoodA al n i L) : CanSort (L.map rowD) :=
  canSort_map (fun r hr => row_plain (alpha_lowS g.alp) (g.let' r hr)) (fun r _ => by show 1 ≤ 64; decide) (fun r _ q _ => rfl) (fun r _ => ⟨_, _, rfl⟩) (by have := g.len; show _ ≤ 16777216; omega)
theorem any_k3 (a b c : Nat) (rs : List Row) : ((rs.flatMap fun q => [D.tup [.int q.s, .str [q.l], .int q.t]]).any fun z => deqv z (D.tup [.int a, .str [b], .int c])) = decide ((a, b, c) ∈ rs.map fun r => (r.s, r.l, r.t)) := by
  rw [Bool.eq_iff_iff, decide_eq_true_iff, List.any_eq_true]
  constructor
  · rintro ⟨z, hz, e⟩
    obtain ⟨q, hq, hz⟩ := List.mem_flatMap.mp hz
    obtain rfl := List.mem_singleton.mp hz
    have := (deqv_sharp (by rfl) (by rfl)).mp e
    simp only [D.tup.injEq, List.cons.injEq, D.int.injEq, D.str.injEq, and_true] at this
    refine List.mem_map.mpr ⟨q, hq, ?_⟩
    obtain ⟨h1, h2, h3⟩ := this
    simp only [Prod.mk.injEq]
    exact ⟨by omega, h2, by omega⟩
  · intro h
    obtain ⟨q, hq, e⟩ := List.mem_map.mp h
    simp only [Prod.mk.injEq] at e
    obtain ⟨rfl, rfl, rfl⟩ := e
    exact ⟨_, List.mem_flatMap.mpr ⟨q, hq, List.mem_singleton.mpr rfl⟩, deqv_refl _⟩
theorem keys_ok {al : List Nat} (ha : LowS al) {rs : List Row} (h : ∀ r ∈ rs, r.l ∈ al) : okD (.lst (rs.flatMap fun q => [D.tup [.int q.s, .str [q.l], .int q.t]])) = true := okD_lst fun d hd => by
  obtain ⟨q, hq, hz⟩ := List.mem_flatMap.mp hd
  obtain rfl := List.mem_singleton.mp hz
  have h1 := okD.plain (low_ok (s := [q.l]) fun c hc => ha c (by rw [List.mem_singleton.mp hc]; exact h q hq))
  refine ⟨?_, by show 1 ≤ 63; decide⟩
  show plainL [_, _, _] = true
  simp only [plainL, h1, Bool.and_true, Bool.true_and]
  rfl
theorem trip_eq (al al' : List Nat) (n n' i i' : Nat) : deqv (.lst [.str al, .int n, .int i]) (.lst [.str al', .int n', .int i']) = (decide (al = al') && decide (n = n') && decide (i = i')) := by
  rw [Bool.eq_iff_iff, deqv_sharp (by rfl) (by rfl)]
  simp only [D.lst.injEq, List.cons.injEq, D.str.injEq, D.int.injEq, and_true, Bool.and_eq_true, decide_eq_true_eq]
  exact ⟨fun h => ⟨⟨h.1, by omega⟩, by omega⟩, fun h => ⟨h.1.1, by omega, by omega⟩⟩
theorem trip_ok {al : List Nat} (h : LowS al) (n i : Int) : okD (.lst [.str al, .int n, .int i]) = true := okD_lst fun d hd => by
  simp only [List.mem_cons, List.not_mem_nil, or_false] at hd
  rcases hd with rfl | rfl | rfl
  · exact ⟨okD.plain (low_ok h), by show 0 ≤ 63; decide⟩
  · exact ⟨rfl, by show 0 ≤ 63; decide⟩
  · exact ⟨rfl, by show 0 ≤ 63; decide⟩
theorem sorted_ok {al : List Nat} {n i : Nat} {L : List Row} (g : GoodA al n i L) : okD (.lst (sortD (L.map rowD))) = true := okD_lst fun d hd => by
  obtain ⟨r, hr, rfl⟩ := List.mem_map.mp (sortD_mem.mp hd)
  exact ⟨row_plain (alpha_lowS g.alp) (g.let' r hr), by show 1 ≤ 63; decide⟩
theorem perm_decide {A B : List Row} : decide (A.Perm B) = decide (B.Perm A) := by
  rw [Bool.eq_iff_iff, decide_eq_true_iff, decide_eq_true_iff]
  exact ⟨.symm, .symm⟩
theorem cut_take' {α : Type} (l : List α) (k : Nat) : cut l none (some (k : Int)) = l.take k := by
  have e : HT.sIx l.length l.length (some (k : Int)) = min k l.length := by
    simp only [HT.sIx]
    rw [if_neg (by omega)]
    simp
  have e0 : HT.sIx l.length 0 none = 0 := rfl
  unfold cut
  rw [e0, e]
  simp
theorem deqv_int (x y : Int) : deqv (.int x) (.int y) = decide (x = y) := by
  show PyData.eqv _ _ = _
  simp only [toPy, PyData.eqv]
  by_cases h : x = y <;> simp [h]
theorem ati0 {α : Type} {x : α} {r : List α} : atI (x :: r) 0 = some x := atI_nat (j := 0) rfl
theorem ati1 {α : Type} {x y : α} {r : List α} : atI (x :: y :: r) 1 = some y := atI_nat (j := 1) rfl
theorem ati2 {α : Type} {x y z : α} {r : List α} : atI (x :: y :: z :: r) 2 = some z := atI_nat (j := 2) rfl
theorem ati3 {α : Type} {x y z w : α} {r : List α} : atI (x :: y :: z :: w :: r) 3 = some w := atI_nat (j := 3) rfl
theorem small_log {n : Nat} (h : n < 1000000) : (n : Int).natAbs.log2 < 1920 := by
  rw [Int.natAbs_natCast]
  by_cases h0 : n = 0
  · subst h0; decide
  · have := (Nat.log2_lt h0 (k := 20)).mpr (by omega)
    omega
theorem dec_len {n : Nat} (h : n < 1000000) : (decOf (n : Int)).length ≤ 1921 := by
  unfold decOf
  exact int_text_len_1921 (small_log h)
end L2.DL.LW


set_option Elab.async false
set_option linter.all false
set_option maxRecDepth 100000
set_option maxHeartbeats 4000000
namespace L2.DL.LW
open PySem PySem.Spec PyProof.Rows
theorem iteAnd {Q : D → Prop} {a b : Bool} : (if a = true then Q (.bl b) else Q (.bl false)) = Q (.bl (a && b)) := by cases a <;> simp
theorem iteOr {Q : D → Prop} {a b : Bool} : (if a = true then Q (.bl true) else Q (.bl b)) = Q (.bl (a || b)) := by cases a <;> simp
theorem ex_eq {α : Sort u} {a : α} {p : α → Prop} : (∃ x, a = x ∧ p x) ↔ p a := ⟨fun ⟨_, e, h⟩ => e ▸ h, fun h => ⟨a, rfl, h⟩⟩
local macro_rules | `(tactic| walk_at "ev") => `(tactic| simp only [dsNil, dsSeq, dsDrop, dsRet, dsRetF, dsRetN, dsRetO, dsIf, dsSet, dsOwn, dsFrz, dsPar, dsMul, setK, dkE, dkF, dkNil, rLenSet, rSortD, rMaxD, dFnK, dsAug, augD, dsApp, dsAsg, dsFor, dsBreak, dsCont, dgName, dgTup, dgCons, dgNil, dVar, dPeek, dC, d1, d2, d3, dAnd, dOr, dNot, dTest, dTestB, truD, dtAnd, dtOr, dtNot, dIf, dLst, dTup, dCall, dFn, daCons, daNil, rAddD, rMulD, rMulF, rII, rEqDD, rNeDD, rOrdD, rInDD, rIxD, rSlD, dSl, dSlF, doSome, doNone, rLenD, rIntD, rMM, rAllD, rListD, rTupD, rStrI, rIsiD, rIsiLT, rNegD, dJoin, rJoinD, diSeq, diRng1, diRng2, diEnum, diZip, itemsD, dLc, lcF, dtsNil, dLc2, lcF2, Sl.dat, tyN, isNon, knownD, isIntD, isBoolD, isStrD, isListD, isTupD, isSeqD,
  List.getElem?_cons_succ, List.getElem?_cons_zero, List.set_cons_succ, List.set_cons_zero, List.cons_append, List.nil_append, List.append_nil, List.replicate_succ, List.replicate_zero, List.length_cons, List.length_nil, Nat.reduceAdd, Nat.reduceSub, Int.reduceToNat, Int.reducePow, wipeS, List.map_cons, List.map_nil, Option.bind_some, Option.some.injEq, D.int.injEq, D.bl.injEq, D.str.injEq, D.lst.injEq, D.tup.injEq, Sl.val.injEq, Sl.own.injEq, List.cons.injEq, and_true, true_and, ex_eq, exists_eq_left, exists_eq_left', exists_eq, exists_eq', and_assoc, exists_and_left, if_true, if_false, ite_true, ite_false, Bool.false_eq_true, Bool.not_true, Bool.not_false, reduceCtorEq, ↓reduceIte, Option.isSome_some, Option.isSome_none, false_and, and_false, exists_false, D.ins.injEq, D.raw.injEq, V.ref.injEq, eq_self, dFld, dsFld, dMeth, dOp2, dRadd, dGet, dEqI, rIsiC, rIsiX, dFmt, dFmtR, dJoined, dJs, dOwn1, rStrO, rLenO, rReprS, rListS, dSS, rSS, dEqX, dNeX, okOther, dsDput, dGetR, dInR, dsFrzL, dLk, diKeys, dDc, dcF, dDc2, dcF2, dsIns, rEqDic, rLenDic, D.dic.injEq, id, getF, putN, putV, permL_cons, permL_nil, Option.toList_some, iteAnd, iteOr, wpFor, wpMap])
local macro_rules | `(tactic| walk_at "yes") => `(tactic| repeat (refine ⟨by first | decide | decide +kernel | omega, ?_⟩))
local macro_rules | `(tactic| walk_at "sd") => `(tactic| first | omega | (show _ ≤ 16777216; omega) | (show _ < 16777216; omega) | (show _ ≤ 16777216; simp only [repL_length, List.length_append, List.length_map, List.length_range, List.length_cons, List.length_nil, List.length_drop, List.length_take, Int.reduceToNat]; omega) | (show _ < 16777216; simp only [repL_length, List.length_append, List.length_map, List.length_range, List.length_cons, List.length_nil, List.length_drop, List.length_take, Int.reduceToNat]; omega) | (simp only [repL_length, List.length_append, List.length_map, List.length_range, List.length_cons, List.length_nil, List.length_drop, List.length_take, Int.reduceToNat]; omega) | decide | with_reducible assumption)
local macro_rules | `(tactic| walk_at "au") => `(tactic| repeat (refine ⟨by walk_at "sd", ?_⟩))
local macro_rules | `(tactic| walk_at "tg") => `(tactic| simp only [dgName, dgTup, dgCons, dgNil, itemsD, List.set_cons_succ, List.set_cons_zero, Option.some.injEq, D.tup.injEq, exists_eq_left', List.cons.injEq, and_true, true_and, List.length_cons, List.length_nil, Nat.reduceAdd])
local macro_rules | `(tactic| walk_at "lm") => `(tactic| simp only [lamS, wipeO, List.map_cons, List.map_nil, List.set_cons_succ, List.set_cons_zero])

def topS (i : Nat) : Stmt := PySem.Challenge.pw_lastslip_k76_whole_automata_as_texts.main.body.getD i (.Pass ⟨0, 0, 0, 0⟩)
def bodyC : Stmt → List Stmt
  | .ClassDef _ _ _ b _ _ _ _ _ _ _ => b
  | _ => []
def clsS (i j : Nat) : Stmt := (bodyC (topS i)).getD j (.Pass ⟨0, 0, 0, 0⟩)
abbrev s__law_draws : Stmt := topS 29
abbrev N__law_draws : List Str := ["_law_script", "_law_seed", "_law_cell"]
theorem sc__law_draws : FnScope N__law_draws ["_law_script"] (defScope s__law_draws) := ⟨rfl, rfl, rfl, by decide +kernel, rfl, by decide +kernel, by decide +kernel⟩
abbrev s__law_pull : Stmt := topS 30
abbrev N__law_pull : List Str := ["_law_bag", "_law_sides", "_law_cell", "_law_digit", "_law_seed"]
theorem sc__law_pull : FnScope N__law_pull ["_law_bag", "_law_sides"] (defScope s__law_pull) := ⟨rfl, rfl, rfl, by decide +kernel, rfl, by decide +kernel, by decide +kernel⟩
abbrev s__law_any : Stmt := topS 31
abbrev N__law_any : List Str := ["_law_bag", "_law_rows_here"]
theorem sc__law_any : FnScope N__law_any ["_law_bag", "_law_rows_here"] (defScope s__law_any) := ⟨rfl, rfl, rfl, by decide +kernel, rfl, by decide +kernel, by decide +kernel⟩
abbrev s_is_number : Stmt := topS 13
abbrev N_is_number : List Str := ["value", "least", "most"]
theorem sc_is_number : FnScope N_is_number ["value", "least", "most"] (defScope s_is_number) := ⟨rfl, rfl, rfl, by decide +kernel, rfl, by decide +kernel, by decide +kernel⟩
abbrev s_is_word : Stmt := topS 14
abbrev N_is_word : List Str := ["value", "most", "letter"]
theorem sc_is_word : FnScope N_is_word ["value", "most"] (defScope s_is_word) := ⟨rfl, rfl, rfl, by decide +kernel, rfl, by decide +kernel, by decide +kernel⟩
abbrev s_is_alphabet : Stmt := topS 15
abbrev N_is_alphabet : List Str := ["value", "at"]
theorem sc_is_alphabet : FnScope N_is_alphabet ["value"] (defScope s_is_alphabet) := ⟨rfl, rfl, rfl, by decide +kernel, rfl, by decide +kernel, by decide +kernel⟩
abbrev s__law_alphabet : Stmt := topS 33
abbrev N__law_alphabet : List Str := ["_law_bag", "_law_most", "_law_abc", "_law_many", "_law_first", "_law_second", "_law_at"]
theorem sc__law_alphabet : FnScope N__law_alphabet ["_law_bag", "_law_most"] (defScope s__law_alphabet) := ⟨rfl, rfl, rfl, by decide +kernel, rfl, by decide +kernel, by decide +kernel⟩
abbrev s_is_transition : Stmt := topS 20
abbrev N_is_transition : List Str := ["value", "alphabet", "size", "source", "letter", "target", "word"]
theorem sc_is_transition : FnScope N_is_transition ["value", "alphabet", "size"] (defScope s_is_transition) := ⟨rfl, rfl, rfl, by decide +kernel, rfl, by decide +kernel, by decide +kernel⟩
abbrev s_Automaton___init__ : Stmt := clsS 21 1
abbrev N_Automaton___init__ : List Str := ["self", "alphabet", "size", "transitions", "initial", "state", "letter", "targets", "seen", "at", "row", "key"]
theorem sc_Automaton___init__ : FnScope N_Automaton___init__ ["self", "alphabet", "size", "transitions", "initial"] (defScope s_Automaton___init__) := ⟨rfl, rfl, rfl, by decide +kernel, rfl, by decide +kernel, by decide +kernel⟩
abbrev s_Automaton_transitions : Stmt := clsS 21 7
abbrev N_Automaton_transitions : List Str := ["self", "key", "pair"]
theorem sc_Automaton_transitions : FnScope N_Automaton_transitions ["self"] (defScope s_Automaton_transitions) := ⟨rfl, rfl, rfl, by decide +kernel, rfl, by decide +kernel, by decide +kernel⟩
abbrev s_Automaton___eq__ : Stmt := clsS 21 14
abbrev N_Automaton___eq__ : List Str := ["self", "other"]
theorem sc_Automaton___eq__ : FnScope N_Automaton___eq__ ["self", "other"] (defScope s_Automaton___eq__) := ⟨rfl, rfl, rfl, by decide +kernel, rfl, by decide +kernel, by decide +kernel⟩
abbrev s__law_mixed : Stmt := topS 32
abbrev N__law_mixed : List Str := ["_law_bag", "_law_rows_here", "_law_found", "_law_row"]
theorem sc__law_mixed : FnScope N__law_mixed ["_law_bag", "_law_rows_here"] (defScope s__law_mixed) := ⟨rfl, rfl, rfl, by decide +kernel, rfl, by decide +kernel, by decide +kernel⟩
abbrev s__law_rows : Stmt := topS 34
abbrev N__law_rows : List Str := ["_law_bag", "_law_alphabet_here", "_law_size", "_law_guesses", "_law_safe", "_law_rows_here", "_law_state", "_law_letter", "_law_many", "_law_goals", "_law_goal"]
theorem sc__law_rows : FnScope N__law_rows ["_law_bag", "_law_alphabet_here", "_law_size", "_law_guesses", "_law_safe"] (defScope s__law_rows) := ⟨rfl, rfl, rfl, by decide +kernel, rfl, by decide +kernel, by decide +kernel⟩
abbrev s__law_spec : Stmt := topS 35
abbrev N__law_spec : List Str := ["_law_bag", "_law_most", "_law_guesses", "_law_alphabet_here", "_law_size", "_law_rows_here"]
theorem sc__law_spec : FnScope N__law_spec ["_law_bag", "_law_most", "_law_guesses"] (defScope s__law_spec) := ⟨rfl, rfl, rfl, by decide +kernel, rfl, by decide +kernel, by decide +kernel⟩
abbrev s__law_made : Stmt := topS 36
abbrev N__law_made : List Str := ["_law_spec_here"]
theorem sc__law_made : FnScope N__law_made ["_law_spec_here"] (defScope s__law_made) := ⟨rfl, rfl, rfl, by decide +kernel, rfl, by decide +kernel, by decide +kernel⟩
abbrev s_is_count : Stmt := topS 24
abbrev N_is_count : List Str := ["word", "most", "sign"]
theorem sc_is_count : FnScope N_is_count ["word", "most"] (defScope s_is_count) := ⟨rfl, rfl, rfl, by decide +kernel, rfl, by decide +kernel, by decide +kernel⟩
abbrev s_head_value : Stmt := topS 25
abbrev N_head_value : List Str := ["line", "word"]
theorem sc_head_value : FnScope N_head_value ["line", "word"] (defScope s_head_value) := ⟨rfl, rfl, rfl, by decide +kernel, rfl, by decide +kernel, by decide +kernel⟩
abbrev s_read_row : Stmt := topS 26
abbrev N_read_row : List Str := ["line", "alphabet", "size", "words"]
theorem sc_read_row : FnScope N_read_row ["line", "alphabet", "size"] (defScope s_read_row) := ⟨rfl, rfl, rfl, by decide +kernel, rfl, by decide +kernel, by decide +kernel⟩
abbrev s_read_automaton : Stmt := topS 27
abbrev N_read_automaton : List Str := ["text", "lines", "alphabet", "told", "first", "rows", "at", "line", "row"]
theorem sc_read_automaton : FnScope N_read_automaton ["text"] (defScope s_read_automaton) := ⟨rfl, rfl, rfl, by decide +kernel, rfl, by decide +kernel, by decide +kernel⟩
abbrev s_automaton_text : Stmt := topS 23
abbrev N_automaton_text : List Str := ["automaton", "rows", "source", "letter", "target", "word", "row"]
theorem sc_automaton_text : FnScope N_automaton_text ["automaton"] (defScope s_automaton_text) := ⟨rfl, rfl, rfl, by decide +kernel, rfl, by decide +kernel, by decide +kernel⟩
abbrev s__law_text_of : Stmt := topS 37
abbrev N__law_text_of : List Str := ["_law_spec_here", "_law_rows_here", "_law_row"]
theorem sc__law_text_of : FnScope N__law_text_of ["_law_spec_here"] (defScope s__law_text_of) := ⟨rfl, rfl, rfl, by decide +kernel, rfl, by decide +kernel, by decide +kernel⟩
abbrev s_law : Stmt := topS 38
abbrev N_law : List Str := ["_law_script", "_law_bag", "_law_turn", "_law_most", "_law_spec_here", "_law_made_z", "_law_text_z"]
theorem sc_law : FnScope N_law ["_law_script"] (defScope s_law) := ⟨rfl, rfl, rfl, by decide +kernel, rfl, by decide +kernel, by decide +kernel⟩
structure Adr where
  f__law_draws : Addr
  fd__law_draws : FuncData
  f__law_pull : Addr
  fd__law_pull : FuncData
  f__law_any : Addr
  fd__law_any : FuncData
  f_is_number : Addr
  fd_is_number : FuncData
  f_is_word : Addr
  fd_is_word : FuncData
  f_is_alphabet : Addr
  fd_is_alphabet : FuncData
  f__law_alphabet : Addr
  fd__law_alphabet : FuncData
  f_is_transition : Addr
  fd_is_transition : FuncData
  f_Automaton___init__ : Addr
  fd_Automaton___init__ : FuncData
  f_Automaton_transitions : Addr
  fd_Automaton_transitions : FuncData
  f_Automaton___eq__ : Addr
  fd_Automaton___eq__ : FuncData
  f__law_mixed : Addr
  fd__law_mixed : FuncData
  f__law_rows : Addr
  fd__law_rows : FuncData
  f__law_spec : Addr
  fd__law_spec : FuncData
  f__law_made : Addr
  fd__law_made : FuncData
  f_is_count : Addr
  fd_is_count : FuncData
  f_head_value : Addr
  fd_head_value : FuncData
  f_read_row : Addr
  fd_read_row : FuncData
  f_read_automaton : Addr
  fd_read_automaton : FuncData
  f_automaton_text : Addr
  fd_automaton_text : FuncData
  f__law_text_of : Addr
  fd__law_text_of : FuncData
  f_law : Addr
  fd_law : FuncData
  C_Automaton : Addr
structure Txt (K : PySem.W.Frag) (mg : Str → Option Value) (a : Adr) : Prop where
  F__law_draws : FunD K "_law_draws" "_law_draws" (defArgs s__law_draws) (defBody s__law_draws) (defScope s__law_draws) [] [] a.f__law_draws a.fd__law_draws
  g__law_draws : mg "_law_draws" = some (.ref a.f__law_draws)
  F__law_pull : FunD K "_law_pull" "_law_pull" (defArgs s__law_pull) (defBody s__law_pull) (defScope s__law_pull) [] [] a.f__law_pull a.fd__law_pull
  g__law_pull : mg "_law_pull" = some (.ref a.f__law_pull)
  F__law_any : FunD K "_law_any" "_law_any" (defArgs s__law_any) (defBody s__law_any) (defScope s__law_any) [] [] a.f__law_any a.fd__law_any
  g__law_any : mg "_law_any" = some (.ref a.f__law_any)
  F_is_number : FunD K "is_number" "is_number" (defArgs s_is_number) (defBody s_is_number) (defScope s_is_number) [] [] a.f_is_number a.fd_is_number
  g_is_number : mg "is_number" = some (.ref a.f_is_number)
  F_is_word : FunD K "is_word" "is_word" (defArgs s_is_word) (defBody s_is_word) (defScope s_is_word) [V.int 200] [] a.f_is_word a.fd_is_word
  g_is_word : mg "is_word" = some (.ref a.f_is_word)
  F_is_alphabet : FunD K "is_alphabet" "is_alphabet" (defArgs s_is_alphabet) (defBody s_is_alphabet) (defScope s_is_alphabet) [] [] a.f_is_alphabet a.fd_is_alphabet
  g_is_alphabet : mg "is_alphabet" = some (.ref a.f_is_alphabet)
  F__law_alphabet : FunD K "_law_alphabet" "_law_alphabet" (defArgs s__law_alphabet) (defBody s__law_alphabet) (defScope s__law_alphabet) [] [] a.f__law_alphabet a.fd__law_alphabet
  g__law_alphabet : mg "_law_alphabet" = some (.ref a.f__law_alphabet)
  F_is_transition : FunD K "is_transition" "is_transition" (defArgs s_is_transition) (defBody s_is_transition) (defScope s_is_transition) [] [] a.f_is_transition a.fd_is_transition
  g_is_transition : mg "is_transition" = some (.ref a.f_is_transition)
  F_Automaton___init__ : FunD K "__init__" "Automaton.__init__" (defArgs s_Automaton___init__) (defBody s_Automaton___init__) (defScope s_Automaton___init__) [] [("initial", V.int 0)] a.f_Automaton___init__ a.fd_Automaton___init__
  m_Automaton___init__ : Meth K a.C_Automaton "__init__" a.f_Automaton___init__
  F_Automaton_transitions : FunD K "transitions" "Automaton.transitions" (defArgs s_Automaton_transitions) (defBody s_Automaton_transitions) (defScope s_Automaton_transitions) [] [] a.f_Automaton_transitions a.fd_Automaton_transitions
  m_Automaton_transitions : Meth K a.C_Automaton "transitions" a.f_Automaton_transitions
  F_Automaton___eq__ : FunD K "__eq__" "Automaton.__eq__" (defArgs s_Automaton___eq__) (defBody s_Automaton___eq__) (defScope s_Automaton___eq__) [] [] a.f_Automaton___eq__ a.fd_Automaton___eq__
  m_Automaton___eq__ : Meth K a.C_Automaton "__eq__" a.f_Automaton___eq__
  F__law_mixed : FunD K "_law_mixed" "_law_mixed" (defArgs s__law_mixed) (defBody s__law_mixed) (defScope s__law_mixed) [] [] a.f__law_mixed a.fd__law_mixed
  g__law_mixed : mg "_law_mixed" = some (.ref a.f__law_mixed)
  F__law_rows : FunD K "_law_rows" "_law_rows" (defArgs s__law_rows) (defBody s__law_rows) (defScope s__law_rows) [] [] a.f__law_rows a.fd__law_rows
  g__law_rows : mg "_law_rows" = some (.ref a.f__law_rows)
  F__law_spec : FunD K "_law_spec" "_law_spec" (defArgs s__law_spec) (defBody s__law_spec) (defScope s__law_spec) [] [] a.f__law_spec a.fd__law_spec
  g__law_spec : mg "_law_spec" = some (.ref a.f__law_spec)
  F__law_made : FunD K "_law_made" "_law_made" (defArgs s__law_made) (defBody s__law_made) (defScope s__law_made) [] [] a.f__law_made a.fd__law_made
  g__law_made : mg "_law_made" = some (.ref a.f__law_made)
  F_is_count : FunD K "is_count" "is_count" (defArgs s_is_count) (defBody s_is_count) (defScope s_is_count) [] [] a.f_is_count a.fd_is_count
  g_is_count : mg "is_count" = some (.ref a.f_is_count)
  F_head_value : FunD K "head_value" "head_value" (defArgs s_head_value) (defBody s_head_value) (defScope s_head_value) [] [] a.f_head_value a.fd_head_value
  g_head_value : mg "head_value" = some (.ref a.f_head_value)
  F_read_row : FunD K "read_row" "read_row" (defArgs s_read_row) (defBody s_read_row) (defScope s_read_row) [] [] a.f_read_row a.fd_read_row
  g_read_row : mg "read_row" = some (.ref a.f_read_row)
  F_read_automaton : FunD K "read_automaton" "read_automaton" (defArgs s_read_automaton) (defBody s_read_automaton) (defScope s_read_automaton) [] [] a.f_read_automaton a.fd_read_automaton
  g_read_automaton : mg "read_automaton" = some (.ref a.f_read_automaton)
  F_automaton_text : FunD K "automaton_text" "automaton_text" (defArgs s_automaton_text) (defBody s_automaton_text) (defScope s_automaton_text) [] [] a.f_automaton_text a.fd_automaton_text
  g_automaton_text : mg "automaton_text" = some (.ref a.f_automaton_text)
  F__law_text_of : FunD K "_law_text_of" "_law_text_of" (defArgs s__law_text_of) (defBody s__law_text_of) (defScope s__law_text_of) [] [] a.f__law_text_of a.fd__law_text_of
  g__law_text_of : mg "_law_text_of" = some (.ref a.f__law_text_of)
  F_law : FunD K "law" "law" (defArgs s_law) (defBody s_law) (defScope s_law) [] [] a.f_law a.fd_law
  g_law : mg "law" = some (.ref a.f_law)
  g_Automaton : mg "Automaton" = some (.ref a.C_Automaton)
  cl_Automaton : Cls K a.C_Automaton
  is_Automaton : IsX K a.C_Automaton
  mk_Automaton : Mk K a.C_Automaton a.f_Automaton___init__
  no_Automaton_alphabet : NoAttr K a.C_Automaton "alphabet"
  no_Automaton_size : NoAttr K a.C_Automaton "size"
  no_Automaton_initial : NoAttr K a.C_Automaton "initial"
  no_Automaton_own_moves : NoAttr K a.C_Automaton "own_moves"
  eq_Automaton : EqX K a.C_Automaton a.f_Automaton___eq__
  c_LETTERS : ∃ t, mg "LETTERS" = some (.str "abcdefghijklmnopqrstuvwxyz" t)
  c_MOST_LETTERS : ∃ t, mg "MOST_LETTERS" = some (.int 200 t)
  c_MOST_STATES : ∃ t, mg "MOST_STATES" = some (.int 65 t)
  c_SAFE : ∃ t, mg "SAFE" = some (.str "safe" t)
  c_SLIP : ∃ t, mg "SLIP" = some (.str "slip" t)
  n_all : mg "all" = none
  n_bool : mg "bool" = none
  n_enumerate : mg "enumerate" = none
  n_int : mg "int" = none
  n_isinstance : mg "isinstance" = none
  n_len : mg "len" = none
  n_list : mg "list" = none
  n_min : mg "min" = none
  n_range : mg "range" = none
  n_sorted : mg "sorted" = none
  n_str : mg "str" = none
  n_tuple : mg "tuple" = none
section
variable {P : Program} {w : World} {K : PySem.W.Frag} {mg : Str → Option Value} {base : Heap} {a : Adr}
theorem k__law_draws (T : Txt K mg a) : PySem.W.keepIn K (.ref a.f__law_draws) = true := T.F__law_draws.kp
theorem b0__law_draws (T : Txt K mg a) : ∃ dsv, Vals [] dsv ∧ Binds K a.fd__law_draws ["_law_script"] dsv := ⟨[], .nil, T.F__law_draws.bindsN fun _ _ _ _ _ _ us hl => match us, hl with | [_], _ => rfl⟩
theorem k__law_pull (T : Txt K mg a) : PySem.W.keepIn K (.ref a.f__law_pull) = true := T.F__law_pull.kp
theorem b0__law_pull (T : Txt K mg a) : ∃ dsv, Vals [] dsv ∧ Binds K a.fd__law_pull ["_law_bag", "_law_sides"] dsv := ⟨[], .nil, T.F__law_pull.bindsN fun _ _ _ _ _ _ us hl => match us, hl with | [_, _], _ => rfl⟩
theorem k__law_any (T : Txt K mg a) : PySem.W.keepIn K (.ref a.f__law_any) = true := T.F__law_any.kp
theorem b0__law_any (T : Txt K mg a) : ∃ dsv, Vals [] dsv ∧ Binds K a.fd__law_any ["_law_bag", "_law_rows_here"] dsv := ⟨[], .nil, T.F__law_any.bindsN fun _ _ _ _ _ _ us hl => match us, hl with | [_, _], _ => rfl⟩
theorem k_is_number (T : Txt K mg a) : PySem.W.keepIn K (.ref a.f_is_number) = true := T.F_is_number.kp
theorem b0_is_number (T : Txt K mg a) : ∃ dsv, Vals [] dsv ∧ Binds K a.fd_is_number ["value", "least", "most"] dsv := ⟨[], .nil, T.F_is_number.bindsN fun _ _ _ _ _ _ us hl => match us, hl with | [_, _, _], _ => rfl⟩
theorem k_is_word (T : Txt K mg a) : PySem.W.keepIn K (.ref a.f_is_word) = true := T.F_is_word.kp
theorem b0_is_word (T : Txt K mg a) : ∃ dsv, Vals [] dsv ∧ Binds K a.fd_is_word ["value", "most"] dsv := T.F_is_word.binds1 2 1 (by intro h; cases h) rfl fun _ _ _ _ _ _ _ us its hl hi => match us, its, hl, hi with | [_, _], [_], _, _ => ⟨_, rfl, rfl⟩
theorem b1_is_word (T : Txt K mg a) : ∃ dsv, Vals [V.int 200] dsv ∧ Binds K a.fd_is_word ["value", "most"] dsv := T.F_is_word.binds1 1 0 (by intro h; cases h) rfl fun _ _ _ _ _ _ _ us its hl hi => match us, its, hl, hi with | [_], [_], _, _ => ⟨_, rfl, rfl⟩
theorem k_is_alphabet (T : Txt K mg a) : PySem.W.keepIn K (.ref a.f_is_alphabet) = true := T.F_is_alphabet.kp
theorem b0_is_alphabet (T : Txt K mg a) : ∃ dsv, Vals [] dsv ∧ Binds K a.fd_is_alphabet ["value"] dsv := ⟨[], .nil, T.F_is_alphabet.bindsN fun _ _ _ _ _ _ us hl => match us, hl with | [_], _ => rfl⟩
theorem k__law_alphabet (T : Txt K mg a) : PySem.W.keepIn K (.ref a.f__law_alphabet) = true := T.F__law_alphabet.kp
theorem b0__law_alphabet (T : Txt K mg a) : ∃ dsv, Vals [] dsv ∧ Binds K a.fd__law_alphabet ["_law_bag", "_law_most"] dsv := ⟨[], .nil, T.F__law_alphabet.bindsN fun _ _ _ _ _ _ us hl => match us, hl with | [_, _], _ => rfl⟩
theorem k_is_transition (T : Txt K mg a) : PySem.W.keepIn K (.ref a.f_is_transition) = true := T.F_is_transition.kp
theorem b0_is_transition (T : Txt K mg a) : ∃ dsv, Vals [] dsv ∧ Binds K a.fd_is_transition ["value", "alphabet", "size"] dsv := ⟨[], .nil, T.F_is_transition.bindsN fun _ _ _ _ _ _ us hl => match us, hl with | [_, _, _], _ => rfl⟩
theorem k_Automaton___init__ (T : Txt K mg a) : PySem.W.keepIn K (.ref a.f_Automaton___init__) = true := T.F_Automaton___init__.kp
theorem b0_Automaton___init__ (T : Txt K mg a) : ∃ dsv, Vals [V.int 0] dsv ∧ Binds K a.fd_Automaton___init__ ["self", "alphabet", "size", "transitions", "initial"] dsv := T.F_Automaton___init__.binds0 4 (by intro h; cases h) rfl fun _ _ _ _ _ _ us ks h1 h2 => match us, ks, h1, h2 with | [_, _, _, _], [_], _, _ => ⟨_, _, _, _, _, _, rfl, rfl, rfl⟩
theorem k_Automaton_transitions (T : Txt K mg a) : PySem.W.keepIn K (.ref a.f_Automaton_transitions) = true := T.F_Automaton_transitions.kp
theorem b0_Automaton_transitions (T : Txt K mg a) : ∃ dsv, Vals [] dsv ∧ Binds K a.fd_Automaton_transitions ["self"] dsv := ⟨[], .nil, T.F_Automaton_transitions.bindsN fun _ _ _ _ _ _ us hl => match us, hl with | [_], _ => rfl⟩
theorem k_Automaton___eq__ (T : Txt K mg a) : PySem.W.keepIn K (.ref a.f_Automaton___eq__) = true := T.F_Automaton___eq__.kp
theorem b0_Automaton___eq__ (T : Txt K mg a) : ∃ dsv, Vals [] dsv ∧ Binds K a.fd_Automaton___eq__ ["self", "other"] dsv := ⟨[], .nil, T.F_Automaton___eq__.bindsN fun _ _ _ _ _ _ us hl => match us, hl with | [_, _], _ => rfl⟩
theorem k__law_mixed (T : Txt K mg a) : PySem.W.keepIn K (.ref a.f__law_mixed) = true := T.F__law_mixed.kp
theorem b0__law_mixed (T : Txt K mg a) : ∃ dsv, Vals [] dsv ∧ Binds K a.fd__law_mixed ["_law_bag", "_law_rows_here"] dsv := ⟨[], .nil, T.F__law_mixed.bindsN fun _ _ _ _ _ _ us hl => match us, hl with | [_, _], _ => rfl⟩
theorem k__law_rows (T : Txt K mg a) : PySem.W.keepIn K (.ref a.f__law_rows) = true := T.F__law_rows.kp
theorem b0__law_rows (T : Txt K mg a) : ∃ dsv, Vals [] dsv ∧ Binds K a.fd__law_rows ["_law_bag", "_law_alphabet_here", "_law_size", "_law_guesses", "_law_safe"] dsv := ⟨[], .nil, T.F__law_rows.bindsN fun _ _ _ _ _ _ us hl => match us, hl with | [_, _, _, _, _], _ => rfl⟩
theorem k__law_spec (T : Txt K mg a) : PySem.W.keepIn K (.ref a.f__law_spec) = true := T.F__law_spec.kp
theorem b0__law_spec (T : Txt K mg a) : ∃ dsv, Vals [] dsv ∧ Binds K a.fd__law_spec ["_law_bag", "_law_most", "_law_guesses"] dsv := ⟨[], .nil, T.F__law_spec.bindsN fun _ _ _ _ _ _ us hl => match us, hl with | [_, _, _], _ => rfl⟩
theorem k__law_made (T : Txt K mg a) : PySem.W.keepIn K (.ref a.f__law_made) = true := T.F__law_made.kp
theorem b0__law_made (T : Txt K mg a) : ∃ dsv, Vals [] dsv ∧ Binds K a.fd__law_made ["_law_spec_here"] dsv := ⟨[], .nil, T.F__law_made.bindsN fun _ _ _ _ _ _ us hl => match us, hl with | [_], _ => rfl⟩
theorem k_is_count (T : Txt K mg a) : PySem.W.keepIn K (.ref a.f_is_count) = true := T.F_is_count.kp
theorem b0_is_count (T : Txt K mg a) : ∃ dsv, Vals [] dsv ∧ Binds K a.fd_is_count ["word", "most"] dsv := ⟨[], .nil, T.F_is_count.bindsN fun _ _ _ _ _ _ us hl => match us, hl with | [_, _], _ => rfl⟩
theorem k_head_value (T : Txt K mg a) : PySem.W.keepIn K (.ref a.f_head_value) = true := T.F_head_value.kp
theorem b0_head_value (T : Txt K mg a) : ∃ dsv, Vals [] dsv ∧ Binds K a.fd_head_value ["line", "word"] dsv := ⟨[], .nil, T.F_head_value.bindsN fun _ _ _ _ _ _ us hl => match us, hl with | [_, _], _ => rfl⟩
theorem k_read_row (T : Txt K mg a) : PySem.W.keepIn K (.ref a.f_read_row) = true := T.F_read_row.kp
theorem b0_read_row (T : Txt K mg a) : ∃ dsv, Vals [] dsv ∧ Binds K a.fd_read_row ["line", "alphabet", "size"] dsv := ⟨[], .nil, T.F_read_row.bindsN fun _ _ _ _ _ _ us hl => match us, hl with | [_, _, _], _ => rfl⟩
theorem k_read_automaton (T : Txt K mg a) : PySem.W.keepIn K (.ref a.f_read_automaton) = true := T.F_read_automaton.kp
theorem b0_read_automaton (T : Txt K mg a) : ∃ dsv, Vals [] dsv ∧ Binds K a.fd_read_automaton ["text"] dsv := ⟨[], .nil, T.F_read_automaton.bindsN fun _ _ _ _ _ _ us hl => match us, hl with | [_], _ => rfl⟩
theorem k_automaton_text (T : Txt K mg a) : PySem.W.keepIn K (.ref a.f_automaton_text) = true := T.F_automaton_text.kp
theorem b0_automaton_text (T : Txt K mg a) : ∃ dsv, Vals [] dsv ∧ Binds K a.fd_automaton_text ["automaton"] dsv := ⟨[], .nil, T.F_automaton_text.bindsN fun _ _ _ _ _ _ us hl => match us, hl with | [_], _ => rfl⟩
theorem k__law_text_of (T : Txt K mg a) : PySem.W.keepIn K (.ref a.f__law_text_of) = true := T.F__law_text_of.kp
theorem b0__law_text_of (T : Txt K mg a) : ∃ dsv, Vals [] dsv ∧ Binds K a.fd__law_text_of ["_law_spec_here"] dsv := ⟨[], .nil, T.F__law_text_of.bindsN fun _ _ _ _ _ _ us hl => match us, hl with | [_], _ => rfl⟩
theorem k_law (T : Txt K mg a) : PySem.W.keepIn K (.ref a.f_law) = true := T.F_law.kp
theorem b0_law (T : Txt K mg a) : ∃ dsv, Vals [] dsv ∧ Binds K a.fd_law ["_law_script"] dsv := ⟨[], .nil, T.F_law.bindsN fun _ _ _ _ _ _ us hl => match us, hl with | [_], _ => rfl⟩
theorem kb0_Automaton___init__ (T : Txt K mg a) : KBp K a.fd_Automaton___init__ ["self", "alphabet", "size", "transitions", "initial"] 4 ["initial"] [0, 1, 2, 3, 4] := kbp_none T.F_Automaton___init__ _ _ _ fun _ _ _ _ _ _ us ws h1 h2 => match us, ws, h1, h2 with | [_, _, _, _], [_], _, _ => rfl
theorem kb1_read_automaton (T : Txt K mg a) : KBp K a.fd_read_automaton ["text"] 0 ["text"] [0] := kbp_none T.F_read_automaton _ _ _ fun _ _ _ _ _ _ us ws h1 h2 => match us, ws, h1, h2 with | [], [_], _, _ => rfl
theorem kb2_automaton_text (T : Txt K mg a) : KBp K a.fd_automaton_text ["automaton"] 0 ["automaton"] [0] := kbp_none T.F_automaton_text _ _ _ fun _ _ _ _ _ _ us ws h1 h2 => match us, ws, h1, h2 with | [], [_], _, _ => rfl

def spLaw (K : PySem.W.Frag) : Sp := fun vs H Q _ => ∃ (s : Addr) (ns : List Int), vs = [.ref s] ∧ SqL K H s (ns.map V.int) ∧ ns.length ≤ 63 ∧ ∀ H', Q (.bl true) H'

/-! ### _law_draws -/
def tf__law_draws : TDF := fun ds Q => ds = [.raw .non] ∧ False
theorem ar__law_draws : ∀ ds Q, tf__law_draws ds Q → ds.length = 1 := by
  rintro ds Q ⟨rfl, _⟩
  rfl

theorem cutV_map (ns : List Int) (lo hi : Option Int) : cutV (ns.map V.int) lo hi = (cut ns lo hi).map V.int := by
  unfold cutV cut
  rw [List.length_map, List.map_take, List.map_drop]
theorem cut_len {α : Type} (xs : List α) (lo hi : Option Int) : (cut xs lo hi).length ≤ xs.length := by
  unfold cut
  rw [List.length_take, List.length_drop]
  omega
def spDraws (K : PySem.W.Frag) : Sp := fun vs H Q _ => ∃ (s : Addr) (ns : List Int), vs = [.ref s] ∧ SqL K H s (ns.map V.int) ∧ ns.length ≤ 63 ∧ ∀ H' p l, Grow H H' → BagAt H' p l → Q (.ref p) H'
theorem ok__law_draws (T : Txt K mg a) : FnOk P w K mg base CX0 1 a.f__law_draws a.fd__law_draws ["_law_script"] (spDraws K) := by
  refine T.F__law_draws.ok sc__law_draws (fun vs H Q E h => ?_) (fun cdv A outer s H vs Q E hr h => ?_)
  · obtain ⟨s, ns, rfl, _⟩ := h
    rfl
  · obtain ⟨sc, ns, rfl, hS, hlen, q⟩ := h
    refine ⟨_, PSs.nox (pss_cons (ps_set (i := 1) sc__law_draws.nd rfl (Or.inl rfl) pe_int)
      (pss_cons (ps_for PassesOwn.never rfl (pi_list (pe_slice sl_list (pv 0) po_none (po_some pe_int))) (pg_name (i := 2) sc__law_draws.nd rfl (Or.inl rfl))
        (pss_one (ps_set (i := 1) sc__law_draws.nd rfl (Or.inl rfl) (pe_op op_mod (pe_callTy call_int1 (by rfl) T.n_int (by decide +kernel) (pa_cons (pe_op op_add (pe_op op_add (pe_op op_mul (pv 1) pe_int) (pe_op op_mod (pe_callTy call_int1 (by rfl) T.n_int (by decide +kernel) (pa_cons (pv 2) pa_nil)) pe_int)) pe_int) pa_nil)) pe_int))))
      (pss_one (ps_ret (pe_lst (pa_cons (pe_callTy call_list_of (by rfl) T.n_list (by decide +kernel) (pa_cons (pe_slice sl_list (pv 0) po_none (po_some pe_int)) pa_nil)) (pa_cons pe_int (pa_cons pe_int (pa_cons (pv 1) (pa_cons pe_int pa_nil)))))))))), ?_⟩
    refine ⟨.ref sc, rfl, 63, rfl, sc, _, rfl, hS, fun c hc => ?_⟩
    have g1 : Grow H (upd H c (.lst (cutV (ns.map V.int) none (some 63)))) := fun b o e => by rw [upd_ne (ne_of_none e hc)]; exact e
    generalize hH1 : upd H c (.lst (cutV (ns.map V.int) none (some 63))) = H1 at g1
    have hc1 : H1 c = some (.lst ((cut ns none (some 63)).map V.int)) := by rw [← hH1, upd_same, cutV_map]
    refine ⟨c, rfl, ⟨_, .of hc1⟩, for_list (xs := (cut ns none (some 63)).map V.int) (fun i σ H2 => ∃ (sd : Int) (c2 : Option V), σ = [some (.ref sc), some (.int sd), c2] ∧ H2 = H1 ∧ 0 ≤ sd ∧ sd < 2147483549) ⟨12013, none, rfl, rfl, by decide, by decide⟩ (fun i σ H2 _ hP => ?_) (fun i x σ H2 hx hP => ?_) (fun σ H2 hP => ?_)⟩
    · obtain ⟨_, _, _, rfl, _⟩ := hP
      exact .of hc1
    · obtain ⟨sd, c2, rfl, rfl, s0, s1⟩ := hP
      obtain ⟨n, rfl⟩ : ∃ n, x = .int n := by
        have := List.mem_of_getElem? hx
        simp only [List.mem_map] at this
        obtain ⟨n, _, rfl⟩ := this
        exact ⟨n, rfl⟩
      refine ⟨.int sd, rfl, sd, 44017, rfl, rfl, .inr ⟨by decide, by decide⟩, .int n, rfl, .inl ⟨n, rfl, n, 2147483353, rfl, rfl, (by show (0 : Int) < 2147483353; decide), _, _, rfl, rfl, _, 91, rfl, rfl, .inl ⟨_, rfl, _, 2147483549, rfl, rfl, (by show (0 : Int) < 2147483549; decide), ?_⟩⟩⟩
      exact ⟨_, some (.int n), rfl, rfl, Int.emod_nonneg _ (by decide), Int.emod_lt_of_pos _ (by decide)⟩
    · obtain ⟨sd, c2, rfl, rfl, s0, s1⟩ := hP
      have hS1 : SqL K H2 sc (ns.map V.int) := by
        rcases hS with hS | hS
        · rcases hS with e | ⟨o, e⟩
          · exact .inl (.inl (g1 _ _ e))
          · exact .inl (.inr ⟨o, g1 _ _ e⟩)
        · exact .inr hS
      refine ⟨.ref sc, rfl, 63, rfl, sc, _, rfl, hS1, fun c3 hc3 => ?_⟩
      refine ⟨c3, _, rfl, .inl (.of upd_same), fun l hl => ?_⟩
      refine ⟨.int sd, rfl, (by show 5 ≤ sizeLine; decide), fun p hp => ?_⟩
      have n1 : p ≠ l := by
        rintro rfl
        rw [upd_same] at hp
        cases hp
      refine q _ p l (fun b o e => ?_) ⟨n1, cut ns none (some 63), 0, 0, sd, 0, upd_same, ?_, Nat.le_trans (cut_len _ _ _) hlen, by decide, by decide, s0, s1, by decide⟩
      · have e1 := g1 b o e
        have m1 := ne_of_none e1 hc3
        have e2 : upd H2 c3 (.lst (cutV (ns.map V.int) none (some 63))) b = some o := by rw [upd_ne m1]; exact e1
        have m2 := ne_of_none e2 hl
        have e3 : upd (upd H2 c3 (.lst (cutV (ns.map V.int) none (some 63)))) l (.lst (cutV (ns.map V.int) none (some 63))) b = some o := by rw [upd_ne m2]; exact e2
        rw [upd_ne (ne_of_none e3 hp)]; exact e3
      · rw [upd_ne (Ne.symm n1), upd_same, cutV_map]

/-! ### _law_pull -/
def tf__law_pull : TDF := fun ds Q => ∃ (s : Int), ds = [.bag, .int s] ∧ (0 < s ∧ s < 1073741824) ∧ ∀ n : Int, 0 ≤ n → n < s → Q (.int n)
theorem ar__law_pull : ∀ ds Q, tf__law_pull ds Q → ds.length = 2 := by
  rintro ds Q ⟨_, rfl, _⟩
  rfl

structure BS (H0 H : Hp) (a l : Addr) (ns : List Int) (at_ big seed cnt : Int) : Prop where
  ba : H a = some (.lst [.ref l, .int at_, .int big, .int seed, .int cnt])
  bl : H l = some (.lst (ns.map .int))
  oth : ∀ b o, b ≠ a → H0 b = some o → H b = some o
theorem BS.set {H0 H : Hp} {a l : Addr} {ns : List Int} {at_ big seed cnt at2 big2 seed2 cnt2 : Int} (h : BS H0 H a l ns at_ big seed cnt) (ne : a ≠ l) : BS H0 (upd H a (.lst [.ref l, .int at2, .int big2, .int seed2, .int cnt2])) a l ns at2 big2 seed2 cnt2 :=
  ⟨upd_same, by rw [upd_ne (Ne.symm ne)]; exact h.bl, fun b o n e => by rw [upd_ne n]; exact h.oth b o n e⟩
theorem BS.new {H0 H : Hp} {a l : Addr} {ns : List Int} {at_ big seed cnt : Int} (h : BS H0 H a l ns at_ big seed cnt) {p : Addr} {o : HO} (hp : H p = none) : BS H0 (upd H p o) a l ns at_ big seed cnt :=
  ⟨by rw [upd_ne (ne_of_none h.ba hp)]; exact h.ba, by rw [upd_ne (ne_of_none h.bl hp)]; exact h.bl, fun b u n e => by rw [upd_ne (ne_of_none (h.oth b u n e) hp)]; exact h.oth b u n e⟩
theorem seq_by {t u : TS} {D : Ends} {σ : St} {H : Hp} (R : St → Hp → Prop) (hu : ∀ σ2 H2, R σ2 H2 → u D σ2 H2) (ht : ∀ nx : St → Hp → Prop, (∀ σ2 H2, R σ2 H2 → nx σ2 H2) → t { D with nx := nx } σ H) : tSeq t u D σ H := ht _ hu
theorem ok__law_pull (T : Txt K mg a) : FnOk P w K mg base CX0 1 a.f__law_pull a.fd__law_pull ["_law_bag", "_law_sides"] (spE 2 tf__law_pull) := by
  refine T.F__law_pull.ok sc__law_pull (fun vs H Q E h => h.1) (fun cdv A outer s H vs Q E hr h => ?_)
  obtain ⟨hl, z, M, ds, Qd, Am, r, ⟨sd, rfl, ⟨hs0, hs1⟩, hq⟩, k⟩ := h
  rcases r with _ | ⟨r1, r2⟩
  rcases r2 with _ | ⟨r2, r3⟩
  cases r3
  cases r2
  cases r1 with
  | @bag b l ez =>
    have hB := Am.bag.bg b l ez
    obtain ⟨ne, ns, at_, big, seed, cnt, ba, bl, hns, h1, h2, h3, h4, h5⟩ := hB
    have B0 : BS H H b l ns at_ big seed cnt := ⟨ba, bl, fun _ _ _ e => e⟩
    have fin : ∀ (H' : Hp) (at_ big seed cnt n : Int), BS H H' b l ns at_ big seed cnt → 0 ≤ at_ → 0 ≤ big → 0 ≤ seed → seed < 2147483549 → 0 ≤ cnt → 0 ≤ n → n < sd → Q (.int n) H' := fun H' at_ big seed cnt n B g1 g2 g3 g4 g5 n0 n1 => by
      refine k (.int n) (.int n) H' (hq n n0 n1) (fun c o e nb => B.oth c o (fun h => nb (.inl ⟨l, by rw [h]; exact ez⟩)) e) ⟨fun p q e => ?_, fun P e => ?_, Am.bag.ap⟩ (.int n)
      · rw [ez] at e
        cases e
        exact ⟨ne, ns, at_, big, seed, cnt, B.ba, B.bl, hns, g1, g2, g3, g4, g5⟩
      · obtain ⟨ps, e1, e2, e3⟩ := Am.bag.tb P e
        have nP : P ≠ b := fun q => (Am.bag.ap b l P ez e).1 q.symm
        refine ⟨ps, B.oth P _ nP e1, e2, fun pos cv hc => ?_⟩
        obtain ⟨c, f1, f2⟩ := e3 pos cv hc
        refine ⟨c, f1, B.oth c _ (fun q => ?_) f2⟩
        subst q
        rw [ba] at f2
        cases f2
    refine ⟨_, PSs.nox (pss_cons (ps_asg (pe_op op_add (pe_ix ix_list (pv 0) pe_int (fun _ _ => rfl)) pe_int) (pg_sub (pv 0) pe_int set_list))
      (pss_cons (ps_if (PW.pt (pw_and (pt_cmpR op_eq (pe_ix ix_list (pv 0) pe_int (fun _ _ => rfl)) pe_int (nomark _)) (pw_and1 (pt_cmpR op_lt (pe_ix ix_list (pv 0) pe_int (fun _ _ => rfl)) (pe_callB call_len_seq (by rfl) T.n_len PySem.boot_len (pa_cons (pe_ix ix_list (pv 0) pe_int (fun _ _ => rfl)) pa_nil)) (nomark _)))))
        (pss_cons (ps_asg (pe_tup (pa_cons (pe_ix ix_list (pe_ix ix_list (pv 0) pe_int (fun _ _ => rfl)) (pe_ix ix_list (pv 0) pe_int (fun _ _ => rfl)) (fun _ _ => rfl)) (pa_cons (pe_op op_add (pe_ix ix_list (pv 0) pe_int (fun _ _ => rfl)) pe_int) pa_nil)))
            (pg_tup rfl (pgs_cons (pg_name (i := 2) sc__law_pull.nd rfl (Or.inl rfl)) (pgs_cons (pg_sub (pv 0) pe_int set_list) pgs_nil))))
        (pss_cons (ps_if (pt_cmpR op_ge (pv 2) (pe_op op_pow pe_int pe_int) (nomark _)) (pss_one (ps_asg (pv 2) (pg_sub (pv 0) pe_int set_list))) pss_nil)
        (pss_one (ps_asg (pe_op op_mod (pe_callTy call_int1 (by rfl) T.n_int (by decide +kernel) (pa_cons (pe_op op_add (pe_op op_add (pe_op op_mul (pe_ix ix_list (pv 0) pe_int (fun _ _ => rfl)) pe_int) (pe_op op_mul (pe_op op_mod (pe_callTy call_int1 (by rfl) T.n_int (by decide +kernel) (pa_cons (pv 2) pa_nil)) pe_int) pe_int)) pe_int) pa_nil)) pe_int) (pg_sub (pv 0) pe_int set_list)))))
        pss_nil)
      (pss_cons (ps_if (pt_cmpR op_gt (pe_ix ix_list (pv 0) pe_int (fun _ _ => rfl)) pe_int (nomark _))
        (pss_cons (ps_asg (pe_tup (pa_cons (pe_op op_mod (pe_callTy call_int1 (by rfl) T.n_int (by decide +kernel) (pa_cons (pe_ix ix_list (pv 0) pe_int (fun _ _ => rfl)) pa_nil)) (pv 1)) (pa_cons (pe_op op_fdiv (pe_ix ix_list (pv 0) pe_int (fun _ _ => rfl)) (pv 1)) pa_nil)))
            (pg_tup rfl (pgs_cons (pg_name (i := 3) sc__law_pull.nd rfl (Or.inl rfl)) (pgs_cons (pg_sub (pv 0) pe_int set_list) pgs_nil))))
          (pss_one (ps_ret (pv 3)))) pss_nil)
      (pss_cons (ps_set (i := 4) sc__law_pull.nd rfl (Or.inl rfl) (pe_ix ix_list (pv 0) pe_int (fun _ _ => rfl)))
      (pss_cons (ps_asg (pe_op op_mod (pe_callTy call_int1 (by rfl) T.n_int (by decide +kernel) (pa_cons (pe_op op_add (pe_op op_add (pe_op op_add (pe_op op_pow (pv 4) pe_int) (pe_op op_mul (pv 4) pe_int)) (pe_op op_mul (pe_ix ix_list (pv 0) pe_int (fun _ _ => rfl)) pe_int)) pe_int) pa_nil)) pe_int) (pg_sub (pv 0) pe_int set_list))
      (pss_one (ps_ret (pe_op op_mod (pe_callTy call_int1 (by rfl) T.n_int (by decide +kernel) (pa_cons (pe_op op_add (pe_op op_fdiv (pe_ix ix_list (pv 0) pe_int (fun _ _ => rfl)) pe_int) (pe_op op_mul (pe_op op_mod (pe_callTy call_int1 (by rfl) T.n_int (by decide +kernel) (pa_cons (pe_ix ix_list (pv 0) pe_int (fun _ _ => rfl)) pa_nil)) pe_int) pe_int)) pa_nil)) (pv 1))))))))), ?_⟩
    -- bag[4] = bag[4] + 1
    refine ⟨.ref b, rfl, b, _, 4, _, rfl, rfl, .of ba, rfl, _, _, rfl, rfl, .ref b, rfl, b, _, 4, 4, rfl, rfl, ba, rfl, ?_⟩
    have B1 := B0.set (at2 := at_) (big2 := big) (seed2 := seed) (cnt2 := cnt + 1) ne
    have hcnt : 0 ≤ cnt + 1 := by omega
    dsimp only
    refine seq_by (fun σ2 H2 => ∃ (at2 big2 seed2 : Int) (c2 : Option V), σ2 = [some (.ref b), some (.int sd), c2, none, none] ∧ BS H H2 b l ns at2 big2 seed2 (cnt + 1) ∧ 0 ≤ at2 ∧ 0 ≤ big2 ∧ 0 ≤ seed2 ∧ seed2 < 2147483549) (fun σ2 H2 hR => ?_) (fun nx hnx => ?_)
    · obtain ⟨at2, big2, seed2, c2, rfl, B2, g1, g2, g3, g4⟩ := hR
      refine ⟨.ref b, rfl, b, _, 2, _, rfl, rfl, .of B2.ba, rfl, _, _, rfl, rfl, _, rfl, ?_⟩
      refine ite2 (fun e1 => ?_) (fun e1 => ?_)
      · refine ⟨.ref b, rfl, b, _, 2, _, rfl, rfl, .of B2.ba, rfl, .inl ⟨big2, rfl, .int sd, rfl, big2, sd, rfl, rfl, hs0, .ref b, rfl, b, _, 2, _, rfl, rfl, .of B2.ba, rfl, .int sd, rfl, big2, sd, rfl, rfl, ⟨hs0, hs1⟩, (by show 2 ≤ sizeLine; decide), fun tp htp => ?_⟩⟩
        have B3 := B2.new (o := .tup [.int (big2 % sd), .int (big2 / sd)]) htp
        refine ⟨tp, _, rfl, .of upd_same, rfl, _, _, rfl, _, _, rfl, .ref b, rfl, b, _, 2, 2, rfl, rfl, B3.ba, rfl, rfl, ?_⟩
        have B4 := B3.set (at2 := at2) (big2 := big2 / sd) (seed2 := seed2) (cnt2 := cnt + 1) ne
        exact ⟨.int (big2 % sd), rfl, fin _ _ _ _ _ _ B4 g1 (Int.ediv_nonneg g2 (by omega)) g3 g4 hcnt (Int.emod_nonneg _ (by omega)) (Int.emod_lt_of_pos _ hs0)⟩
      · refine ⟨.ref b, rfl, b, _, 3, _, rfl, rfl, .of B2.ba, rfl, ?_⟩
        have hpow : CPow seed2 3 := ⟨by decide, by decide, by omega⟩
        refine ⟨.int seed2, rfl, seed2, 3, rfl, rfl, hpow, .int seed2, rfl, seed2, 36979, rfl, rfl, .inr ⟨by decide, by decide⟩, _, _, rfl, rfl, .ref b, rfl, b, _, 4, _, rfl, rfl, .of B2.ba, rfl, _, 1299827, rfl, rfl, .inr ⟨by decide, by decide⟩, _, _, rfl, rfl, _, 50021, rfl, rfl, .inl ⟨_, rfl, _, 2147483549, rfl, rfl, (by show (0 : Int) < 2147483549; decide), .ref b, rfl, b, _, 3, 3, rfl, rfl, B2.ba, rfl, ?_⟩⟩
        have B4 := B2.set (at2 := at2) (big2 := big2) (seed2 := (seed2 ^ (3 : Int).toNat + seed2 * 36979 + (cnt + 1) * 1299827 + 50021) % 2147483549) (cnt2 := cnt + 1) ne
        have hm : 0 ≤ (seed2 ^ (3 : Int).toNat + seed2 * 36979 + (cnt + 1) * 1299827 + 50021) % 2147483549 ∧ (seed2 ^ (3 : Int).toNat + seed2 * 36979 + (cnt + 1) * 1299827 + 50021) % 2147483549 < 2147483549 := ⟨Int.emod_nonneg _ (by decide), Int.emod_lt_of_pos _ (by decide)⟩
        refine ⟨.ref b, rfl, b, _, 3, _, rfl, rfl, .of B4.ba, rfl, _, 89, rfl, rfl, ⟨by decide, by decide⟩, .ref b, rfl, b, _, 3, _, rfl, rfl, .of B4.ba, rfl, .inl ⟨_, rfl, _, 7907, rfl, rfl, (by show (0 : Int) < 7907; decide), _, 61, rfl, rfl, .inr ⟨by decide, by decide⟩, _, _, rfl, rfl, .inl ⟨_, rfl, .int sd, rfl, _, sd, rfl, rfl, hs0, ?_⟩⟩⟩
        exact fin _ _ _ _ _ _ B4 g1 g2 hm.1 hm.2 hcnt (Int.emod_nonneg _ (by omega)) (Int.emod_lt_of_pos _ hs0)
    refine ⟨.ref b, rfl, b, _, 2, _, rfl, rfl, .of B1.ba, rfl, rfl, _, rfl, ?_⟩
    have e18 : ((10 : Int) ^ (18 : Int).toNat) = 1000000000000000000 := by decide
    refine ite2 (fun e1 => ?_) (fun e1 => ?_)
    · refine ⟨.ref b, rfl, b, _, 1, _, rfl, rfl, .of B1.ba, rfl, .ref b, rfl, b, _, 0, _, rfl, rfl, .of B1.ba, rfl, l, _, rfl, .inl (.of B1.bl), _, _, rfl, rfl, _, rfl, ?_⟩
      refine ite2 (fun e2 => ?_) (fun e2 => ?_)
      · have hlt : at_ < ((ns.map V.int).length : Int) := of_decide_eq_true e2
        rw [List.length_map] at hlt
        have hat : at_.toNat < ns.length := by omega
        have hix : atI (ns.map V.int) at_ = some (.int ns[at_.toNat]) := by
          have := atI_nat (xs := ns.map V.int) (j := at_.toNat) (v := .int ns[at_.toNat]) (by rw [List.getElem?_map, List.getElem?_eq_getElem hat]; rfl)
          rw [Int.toNat_of_nonneg h1] at this
          exact this
        generalize ns[at_.toNat] = cell at hix
        -- cell, bag[1] = bag[0][bag[1]], bag[1] + 1
        refine ⟨.ref b, rfl, b, _, 0, _, rfl, rfl, .of B1.ba, rfl, .ref b, rfl, b, _, 1, _, rfl, rfl, .of B1.ba, rfl, l, _, at_, .int cell, rfl, rfl, .of B1.bl, hix, .ref b, rfl, b, _, 1, _, rfl, rfl, .of B1.ba, rfl, _, _, rfl, rfl, (by show 2 ≤ sizeLine; decide), fun tp htp => ?_⟩
        have B2 := B1.new (o := .tup [.int cell, .int (at_ + 1)]) htp
        refine ⟨tp, _, rfl, .of upd_same, rfl, _, _, rfl, _, _, rfl, .ref b, rfl, b, _, 1, 1, rfl, rfl, B2.ba, rfl, rfl, ?_⟩
        have B3 := B2.set (at2 := at_ + 1) (big2 := big) (seed2 := seed) (cnt2 := cnt + 1) ne
        -- if cell >= 10 ** 18
        refine ⟨.int cell, rfl, 10, 18, rfl, rfl, ⟨by decide, by decide, by decide⟩, cell, _, rfl, rfl, _, rfl, ?_⟩
        have hmod : ∀ x : Int, 0 ≤ x % 2147483549 ∧ x % 2147483549 < 2147483549 := fun x => ⟨Int.emod_nonneg _ (by decide), Int.emod_lt_of_pos _ (by decide)⟩
        refine ite2 (fun e3 => ?_) (fun e3 => ?_)
        · have hcell : (1000000000000000000 : Int) ≤ cell := by rw [← e18]; exact of_decide_eq_true e3
          refine ⟨.int cell, rfl, .ref b, rfl, b, _, 2, 2, rfl, rfl, B3.ba, rfl, ?_⟩
          have B4 := B3.set (at2 := at_ + 1) (big2 := cell) (seed2 := seed) (cnt2 := cnt + 1) ne
          refine ⟨.ref b, rfl, b, _, 3, _, rfl, rfl, .of B4.ba, rfl, seed, 39217, rfl, rfl, .inr ⟨by decide, by decide⟩, .int cell, rfl, .inl ⟨cell, rfl, cell, 2147483353, rfl, rfl, (by show (0 : Int) < 2147483353; decide), _, 41231, rfl, rfl, .inr ⟨by decide, by decide⟩, _, _, rfl, rfl, _, 71, rfl, rfl, .inl ⟨_, rfl, _, 2147483549, rfl, rfl, (by show (0 : Int) < 2147483549; decide), .ref b, rfl, b, _, 3, 3, rfl, rfl, B4.ba, rfl, ?_⟩⟩⟩
          have hm := hmod (seed * 39217 + cell % 2147483353 * 41231 + 71)
          have B5 := B4.set (at2 := at_ + 1) (big2 := cell) (seed2 := (seed * 39217 + cell % 2147483353 * 41231 + 71) % 2147483549) (cnt2 := cnt + 1) ne
          exact hnx _ _ ⟨at_ + 1, cell, _, some (.int cell), rfl, B5, by omega, by omega, hm.1, hm.2⟩
        · refine ⟨.ref b, rfl, b, _, 3, _, rfl, rfl, .of B3.ba, rfl, seed, 39217, rfl, rfl, .inr ⟨by decide, by decide⟩, .int cell, rfl, .inl ⟨cell, rfl, cell, 2147483353, rfl, rfl, (by show (0 : Int) < 2147483353; decide), _, 41231, rfl, rfl, .inr ⟨by decide, by decide⟩, _, _, rfl, rfl, _, 71, rfl, rfl, .inl ⟨_, rfl, _, 2147483549, rfl, rfl, (by show (0 : Int) < 2147483549; decide), .ref b, rfl, b, _, 3, 3, rfl, rfl, B3.ba, rfl, ?_⟩⟩⟩
          have hm := hmod (seed * 39217 + cell % 2147483353 * 41231 + 71)
          have B5 := B3.set (at2 := at_ + 1) (big2 := big) (seed2 := (seed * 39217 + cell % 2147483353 * 41231 + 71) % 2147483549) (cnt2 := cnt + 1) ne
          exact hnx _ _ ⟨at_ + 1, big, _, some (.int cell), rfl, B5, by omega, by omega, hm.1, hm.2⟩
      · exact hnx _ _ ⟨at_, big, seed, none, rfl, B1, h1, h2, h3, h4⟩
    · exact hnx _ _ ⟨at_, big, seed, none, rfl, B1, h1, h2, h3, h4⟩

/-! ### _law_any -/
def tf__law_any : TDF := fun ds Q => ∃ (r : D) (rs : List D), ds = [.bag, r] ∧ itemsD r = some rs ∧ 0 < rs.length ∧ rs.length < 16777216 ∧ ∀ d ∈ rs, Q d
theorem ar__law_any : ∀ ds Q, tf__law_any ds Q → ds.length = 2 := by
  rintro ds Q ⟨_, _, rfl, _⟩
  rfl
local macro_rules | `(tactic| walk_at "go") => `(tactic| simp only [tf__law_draws, tf__law_pull, tf__law_any, fn_alphabet_size, fn_alphabet_initial, fn_alphabet_own_moves, fn_size_alphabet, fn_size_initial, fn_size_own_moves, fn_initial_alphabet, fn_initial_size, fn_initial_own_moves, fn_own_moves_alphabet, fn_own_moves_size, fn_own_moves_initial, ati0, ati1, ati2, ati3, dLRg, dM1, rEndsD, rSplitD, rStartsD, rLeTD, dsNil, dsSeq, dsDrop, dsRet, dsRetF, dsRetN, dsRetO, dsIf, dsSet, dsOwn, dsFrz, dsPar, dsMul, setK, dkE, dkF, dkNil, rLenSet, rSortD, rMaxD, dFnK, dsAug, augD, dsApp, dsAsg, dsFor, dsBreak, dsCont, dgName, dgTup, dgCons, dgNil, dVar, dPeek, dC, d1, d2, d3, dAnd, dOr, dNot, dTest, dTestB, truD, dtAnd, dtOr, dtNot, dIf, dLst, dTup, dCall, dFn, daCons, daNil, rAddD, rMulD, rMulF, rII, rEqDD, rNeDD, rOrdD, rInDD, rIxD, rSlD, dSl, dSlF, doSome, doNone, rLenD, rIntD, rMM, rAllD, rListD, rTupD, rStrI, rIsiD, rIsiLT, rNegD, dJoin, rJoinD, diSeq, diRng1, diRng2, diEnum, diZip, itemsD, dLc, lcF, dtsNil, dLc2, lcF2, Sl.dat, tyN, isNon, knownD, isIntD, isBoolD, isStrD, isListD, isTupD, isSeqD,
  List.getElem?_cons_succ, List.getElem?_cons_zero, List.set_cons_succ, List.set_cons_zero, List.cons_append, List.nil_append, List.append_nil, List.replicate_succ, List.replicate_zero, List.length_cons, List.length_nil, Nat.reduceAdd, Nat.reduceSub, Int.reduceToNat, Int.reducePow, wipeS, List.map_cons, List.map_nil, Option.bind_some, Option.some.injEq, D.int.injEq, D.bl.injEq, D.str.injEq, D.lst.injEq, D.tup.injEq, Sl.val.injEq, Sl.own.injEq, List.cons.injEq, and_true, true_and, ex_eq, exists_eq_left, exists_eq_left', exists_eq, exists_eq', and_assoc, exists_and_left, if_true, if_false, ite_true, ite_false, Bool.false_eq_true, Bool.not_true, Bool.not_false, reduceCtorEq, ↓reduceIte, Option.isSome_some, Option.isSome_none, false_and, and_false, exists_false, D.ins.injEq, D.raw.injEq, V.ref.injEq, eq_self, dFld, dsFld, dMeth, dOp2, dRadd, dGet, dEqI, rIsiC, rIsiX, dFmt, dFmtR, dJoined, dJs, dOwn1, rStrO, rLenO, rReprS, rListS, dSS, rSS, dEqX, dNeX, okOther, dsDput, dGetR, dInR, dsFrzL, dLk, diKeys, dDc, dcF, dDc2, dcF2, dsIns, rEqDic, rLenDic, D.dic.injEq, id, getF, putN, putV, permL_cons, permL_nil, Option.toList_some, iteAnd, iteOr, wpFor, wpMap])
theorem atI_some {α : Type} {xs : List α} {i : Int} (h0 : 0 ≤ i) (h1 : i < xs.length) : ∃ d, atI xs i = some d := by
  have hl : i.toNat < xs.length := by omega
  have := atI_nat (xs := xs) (j := i.toNat) (List.getElem?_eq_getElem hl)
  rw [Int.toNat_of_nonneg h0] at this
  exact ⟨_, this⟩
theorem atI_mem {α : Type} {xs : List α} {i : Int} {d : α} (h : atI xs i = some d) : d ∈ xs := by
  unfold atI at h
  cases e : ixN xs.length i with
  | none => rw [e] at h; cases h
  | some j => rw [e] at h; exact List.mem_of_getElem? h

theorem ok__law_any (T : Txt K mg a) : FnOk P w K mg base CX0 2 a.f__law_any a.fd__law_any ["_law_bag", "_law_rows_here"] (spE 2 tf__law_any) := by
  refine ok_E T.F__law_any sc__law_any rfl (fun cdv A outer s H E hr => ⟨_, (ds_one (ds_ret (de_item (dp_var (pv 1)) (PE.toP (de_fn (ok__law_pull T) (hr.mono (by first | decide | omega)) T.g__law_pull (k__law_pull T) (b0__law_pull T) (fun _ _ _ => .nil) (da_cons (de_var (pv 0)) (da_cons (de_len T.n_len (dap_cons (dp_var (pv 1)) dap_nil)) da_nil)) ar__law_pull))))), fun ds Qd hd h => ?_⟩)
  obtain ⟨r, rs, rfl, h⟩ := h
  simp only [List.map_cons, List.map_nil]

  obtain ⟨e1, e2, e3, q⟩ := h
  cases r <;> simp only [itemsD, reduceCtorEq, Option.some.injEq] at e1 <;> subst e1 <;> walk_at "go"
  · rename_i s
    simp only [List.length_map] at e2 e3
    have hs : s.length ≤ sizeLine := by show s.length ≤ 16777216; omega
    refine ⟨hs, by omega, by omega, fun n h0 h1 => ⟨hs, ?_⟩⟩
    obtain ⟨d, hd⟩ := atI_some (xs := s) h0 (by omega)
    exact ⟨d, hd, q _ (List.mem_map.mpr ⟨d, atI_mem hd, rfl⟩)⟩
  all_goals
    rename_i s
    refine ⟨by omega, by omega, fun n h0 h1 => ?_⟩
    obtain ⟨d, hd⟩ := atI_some (xs := s) h0 (by omega)
    exact ⟨d, hd, q d (atI_mem hd)⟩
/-! ### is_number -/
def tf_is_number : TDF := fun ds Q => ∃ (d : D) (lo : Int) (hi : Int), ds = [d, .int lo, .int hi] ∧ (tyN d).isSome = true ∧ Q (.bl (isNumD d lo hi))
theorem ar_is_number : ∀ ds Q, tf_is_number ds Q → ds.length = 3 := by
  rintro ds Q ⟨_, _, _, rfl, _⟩
  rfl
theorem ok_is_number (T : Txt K mg a) : FnOk P w K mg base CX0 1 a.f_is_number a.fd_is_number ["value", "least", "most"] (spE 3 tf_is_number) := by
  refine ok_E T.F_is_number sc_is_number rfl (fun cdv A outer s H E hr => ⟨_, (ds_one (ds_ret (de_and (PE.toP (de_isi tab_int T.n_isinstance (dap_cons (dp_var (pv 0)) (dap_cons (PE.toP (de_ty (T := "int") T.n_int (by decide +kernel))) dap_nil)))) (de_and (PE.toP (de_not (PE.toP (de_isi tab_bool T.n_isinstance (dap_cons (dp_var (pv 0)) (dap_cons (PE.toP (de_ty (T := "bool") T.n_bool (by decide +kernel))) dap_nil)))))) (de_one (de_lele (dp_var (pv 1)) (dp_var (pv 0)) (dp_var (pv 2)))))))), fun ds Qd hd h => ?_⟩)
  obtain ⟨d, lo, hi, rfl, h⟩ := h
  simp only [List.map_cons, List.map_nil]

  obtain ⟨h1, h⟩ := h
  cases d <;> (try cases h1) <;> walk_at "ev" <;> first | exact h | (simp only [isNumD] at h; trace_state; exact h)
/-! ### is_word -/
def tf_is_word : TDF := fun ds Q => ∃ (d : D) (m : Int), ds = [d, .int m] ∧ ((tyN d).isSome = true ∧ lenOk d) ∧ Q (.bl (isWordD d m))
theorem ar_is_word : ∀ ds Q, tf_is_word ds Q → ds.length = 2 := by
  rintro ds Q ⟨_, _, rfl, _⟩
  rfl
local macro_rules | `(tactic| walk_at "go") => `(tactic| simp only [tf__law_draws, tf__law_pull, tf__law_any, tf_is_number, tf_is_word, fn_alphabet_size, fn_alphabet_initial, fn_alphabet_own_moves, fn_size_alphabet, fn_size_initial, fn_size_own_moves, fn_initial_alphabet, fn_initial_size, fn_initial_own_moves, fn_own_moves_alphabet, fn_own_moves_size, fn_own_moves_initial, ati0, ati1, ati2, ati3, dLRg, dM1, rEndsD, rSplitD, rStartsD, rLeTD, dsNil, dsSeq, dsDrop, dsRet, dsRetF, dsRetN, dsRetO, dsIf, dsSet, dsOwn, dsFrz, dsPar, dsMul, setK, dkE, dkF, dkNil, rLenSet, rSortD, rMaxD, dFnK, dsAug, augD, dsApp, dsAsg, dsFor, dsBreak, dsCont, dgName, dgTup, dgCons, dgNil, dVar, dPeek, dC, d1, d2, d3, dAnd, dOr, dNot, dTest, dTestB, truD, dtAnd, dtOr, dtNot, dIf, dLst, dTup, dCall, dFn, daCons, daNil, rAddD, rMulD, rMulF, rII, rEqDD, rNeDD, rOrdD, rInDD, rIxD, rSlD, dSl, dSlF, doSome, doNone, rLenD, rIntD, rMM, rAllD, rListD, rTupD, rStrI, rIsiD, rIsiLT, rNegD, dJoin, rJoinD, diSeq, diRng1, diRng2, diEnum, diZip, itemsD, dLc, lcF, dtsNil, dLc2, lcF2, Sl.dat, tyN, isNon, knownD, isIntD, isBoolD, isStrD, isListD, isTupD, isSeqD,
  List.getElem?_cons_succ, List.getElem?_cons_zero, List.set_cons_succ, List.set_cons_zero, List.cons_append, List.nil_append, List.append_nil, List.replicate_succ, List.replicate_zero, List.length_cons, List.length_nil, Nat.reduceAdd, Nat.reduceSub, Int.reduceToNat, Int.reducePow, wipeS, List.map_cons, List.map_nil, Option.bind_some, Option.some.injEq, D.int.injEq, D.bl.injEq, D.str.injEq, D.lst.injEq, D.tup.injEq, Sl.val.injEq, Sl.own.injEq, List.cons.injEq, and_true, true_and, ex_eq, exists_eq_left, exists_eq_left', exists_eq, exists_eq', and_assoc, exists_and_left, if_true, if_false, ite_true, ite_false, Bool.false_eq_true, Bool.not_true, Bool.not_false, reduceCtorEq, ↓reduceIte, Option.isSome_some, Option.isSome_none, false_and, and_false, exists_false, D.ins.injEq, D.raw.injEq, V.ref.injEq, eq_self, dFld, dsFld, dMeth, dOp2, dRadd, dGet, dEqI, rIsiC, rIsiX, dFmt, dFmtR, dJoined, dJs, dOwn1, rStrO, rLenO, rReprS, rListS, dSS, rSS, dEqX, dNeX, okOther, dsDput, dGetR, dInR, dsFrzL, dLk, diKeys, dDc, dcF, dDc2, dcF2, dsIns, rEqDic, rLenDic, D.dic.injEq, id, getF, putN, putV, permL_cons, permL_nil, Option.toList_some, iteAnd, iteOr, wpFor, wpMap])
theorem ok_is_word (T : Txt K mg a) : FnOk P w K mg base CX0 1 a.f_is_word a.fd_is_word ["value", "most"] (spE 2 tf_is_word) := by
  refine ok_E T.F_is_word sc_is_word rfl (fun cdv A outer s H E hr => ⟨_, (ds_one (ds_ret (de_and (PE.toP (de_isi tab_str T.n_isinstance (dap_cons (dp_var (pv 0)) (dap_cons (PE.toP (de_ty (T := "str") T.n_str (by decide +kernel))) dap_nil)))) (de_and (PE.toP (de_le (PE.toP (de_len T.n_len (dap_cons (dp_var (pv 0)) dap_nil))) (dp_var (pv 1)))) (de_one (de_all T.n_all (dap_cons (PE.toP (PE.toE (df_lc (own := [("letter", 2)]) (di_seq (de_var (pv 0))) sc_is_word.nd (blkOk_by (own := [("letter", 2)]) (N := N_is_word) (sc := defScope s_is_word) (by decide +kernel)) (fun _ _ _ _ _ => (dg_name (i := 2) sc_is_word.nd rfl (Or.inl rfl))) (fun _ _ _ _ _ => dts_nil) (fun _ _ _ _ _ => (de_in (u65 hr) (dp_var (pv 2)) (PE.toP (de_gstr T.c_LETTERS))))))) dap_nil))))))), fun ds Qd hd h => ?_⟩)
  obtain ⟨d, m, rfl, h⟩ := h
  simp only [List.map_cons, List.map_nil]

  obtain ⟨⟨h1, h2⟩, h⟩ := h
  cases d <;> (try cases h1) <;> walk_at "go" <;> first | exact h | skip
  rename_i s
  refine ⟨h2, ?_⟩
  simp only [letters_eq]
  by_cases c : (s.length : Int) ≤ m
  · rw [if_pos (decide_eq_true c)]
    refine ⟨by simpa [lenOk] using h2, wpMap_map (fun d => .bl (match d with | .str x => inStr x abcL | _ => false)) (fun d hd k q => ?_) ⟨s.map lowL, ?_, ?_⟩⟩
    · obtain ⟨e, _, rfl⟩ := List.mem_map.mp hd
      exact q
    · rw [List.map_map]
      exact bools_map lowL s
    · simp only [isWordD, decide_eq_true c, Bool.true_and] at h
      rw [List.all_map]
      exact h
  · rw [if_neg (by simp; omega)]
    simpa only [isWordD, decide_eq_false c, Bool.false_and] using h
/-! ### is_alphabet -/
def tf_is_alphabet : TDF := fun ds Q => ∃ (d : D), ds = [d] ∧ ((tyN d).isSome = true ∧ lenOk d) ∧ Q (.bl (isAlphaD d))
theorem ar_is_alphabet : ∀ ds Q, tf_is_alphabet ds Q → ds.length = 1 := by
  rintro ds Q ⟨_, rfl, _⟩
  rfl
local macro_rules | `(tactic| walk_at "go") => `(tactic| simp only [tf__law_draws, tf__law_pull, tf__law_any, tf_is_number, tf_is_word, tf_is_alphabet, fn_alphabet_size, fn_alphabet_initial, fn_alphabet_own_moves, fn_size_alphabet, fn_size_initial, fn_size_own_moves, fn_initial_alphabet, fn_initial_size, fn_initial_own_moves, fn_own_moves_alphabet, fn_own_moves_size, fn_own_moves_initial, ati0, ati1, ati2, ati3, dLRg, dM1, rEndsD, rSplitD, rStartsD, rLeTD, dsNil, dsSeq, dsDrop, dsRet, dsRetF, dsRetN, dsRetO, dsIf, dsSet, dsOwn, dsFrz, dsPar, dsMul, setK, dkE, dkF, dkNil, rLenSet, rSortD, rMaxD, dFnK, dsAug, augD, dsApp, dsAsg, dsFor, dsBreak, dsCont, dgName, dgTup, dgCons, dgNil, dVar, dPeek, dC, d1, d2, d3, dAnd, dOr, dNot, dTest, dTestB, truD, dtAnd, dtOr, dtNot, dIf, dLst, dTup, dCall, dFn, daCons, daNil, rAddD, rMulD, rMulF, rII, rEqDD, rNeDD, rOrdD, rInDD, rIxD, rSlD, dSl, dSlF, doSome, doNone, rLenD, rIntD, rMM, rAllD, rListD, rTupD, rStrI, rIsiD, rIsiLT, rNegD, dJoin, rJoinD, diSeq, diRng1, diRng2, diEnum, diZip, itemsD, dLc, lcF, dtsNil, dLc2, lcF2, Sl.dat, tyN, isNon, knownD, isIntD, isBoolD, isStrD, isListD, isTupD, isSeqD,
  List.getElem?_cons_succ, List.getElem?_cons_zero, List.set_cons_succ, List.set_cons_zero, List.cons_append, List.nil_append, List.append_nil, List.replicate_succ, List.replicate_zero, List.length_cons, List.length_nil, Nat.reduceAdd, Nat.reduceSub, Int.reduceToNat, Int.reducePow, wipeS, List.map_cons, List.map_nil, Option.bind_some, Option.some.injEq, D.int.injEq, D.bl.injEq, D.str.injEq, D.lst.injEq, D.tup.injEq, Sl.val.injEq, Sl.own.injEq, List.cons.injEq, and_true, true_and, ex_eq, exists_eq_left, exists_eq_left', exists_eq, exists_eq', and_assoc, exists_and_left, if_true, if_false, ite_true, ite_false, Bool.false_eq_true, Bool.not_true, Bool.not_false, reduceCtorEq, ↓reduceIte, Option.isSome_some, Option.isSome_none, false_and, and_false, exists_false, D.ins.injEq, D.raw.injEq, V.ref.injEq, eq_self, dFld, dsFld, dMeth, dOp2, dRadd, dGet, dEqI, rIsiC, rIsiX, dFmt, dFmtR, dJoined, dJs, dOwn1, rStrO, rLenO, rReprS, rListS, dSS, rSS, dEqX, dNeX, okOther, dsDput, dGetR, dInR, dsFrzL, dLk, diKeys, dDc, dcF, dDc2, dcF2, dsIns, rEqDic, rLenDic, D.dic.injEq, id, getF, putN, putV, permL_cons, permL_nil, Option.toList_some, iteAnd, iteOr, wpFor, wpMap])
theorem ok_is_alphabet (T : Txt K mg a) : FnOk P w K mg base CX0 2 a.f_is_alphabet a.fd_is_alphabet ["value"] (spE 1 tf_is_alphabet) := by
  refine ok_E T.F_is_alphabet sc_is_alphabet rfl (fun cdv A outer s H E hr => ⟨_, (ds_cons (ds_if (PW.pt (dt_or (dt_not (dt_val (PE.toP (de_isi tab_str T.n_isinstance (dap_cons (dp_var (pv 0)) (dap_cons (PE.toP (de_ty (T := "str") T.n_str (by decide +kernel))) dap_nil)))))) (dt_or1 (dt_not (dt_lele (PE.toP (de_int)) (PE.toP (de_len T.n_len (dap_cons (dp_var (pv 0)) dap_nil))) (PE.toP (de_int))))))) (ds_one (ds_ret (de_bl))) ds_nil)
      (ds_one (ds_ret (de_and (PE.toP (de_fn (ok_is_word T) (hr.mono (by first | decide | omega)) T.g_is_word (k_is_word T) (b1_is_word T) (fun _ _ _ => (.cons (.int _) .nil)) (da_cons (de_var (pv 0)) da_nil) ar_is_word)) (de_one (de_all T.n_all (dap_cons (PE.toP (PE.toE (df_lc (own := [("at", 1)]) (di_range2 T.n_range (dap_cons (PE.toP (de_int)) (dap_cons (PE.toP (de_len T.n_len (dap_cons (dp_var (pv 0)) dap_nil))) dap_nil))) sc_is_alphabet.nd (blkOk_by (own := [("at", 1)]) (N := N_is_alphabet) (sc := defScope s_is_alphabet) (by decide +kernel)) (fun _ _ _ _ _ => (dg_name (i := 1) sc_is_alphabet.nd rfl (Or.inl rfl))) (fun _ _ _ _ _ => dts_nil) (fun _ _ _ _ _ => (de_lt (PE.toP (de_item (dp_var (pv 0)) (PE.toP (de_sub (dp_var (pv 1)) (PE.toP (de_int)))))) (PE.toP (de_item (dp_var (pv 0)) (dp_var (pv 1))))))))) dap_nil))))))), fun ds Qd hd h => ?_⟩)
  obtain ⟨d, rfl, h⟩ := h
  simp only [List.map_cons, List.map_nil]

  obtain ⟨⟨h1, h2⟩, h⟩ := h
  cases d <;> (try cases h1) <;> walk_at "go" <;> first | exact h | skip
  rename_i s
  refine ⟨h2, ?_⟩
  match s, h2, h with
  | [], _, h => exact h
  | [x], h2, h =>
    simp only [isAlphaD] at h
    simp only [isWordD]
    cases e : lowL x
    · simp [e, lenOk, sizeLine] at h ⊢
      exact h
    · simp [e, lenOk, sizeLine] at h ⊢
      exact ⟨[], rfl, h⟩
  | [x, y], h2, h =>
    simp only [isAlphaD] at h
    simp only [isWordD]
    cases e : lowL x <;> cases e2 : lowL y
    case true.true =>
      simp [e, e2, lenOk, sizeLine] at h ⊢
      exact ⟨by show 2 ≤ 16777216; decide, x, rfl, by show 2 ≤ 16777216; decide, y, rfl, [decide ([x] < [y])], rfl, by rw [lt1]; simpa using h⟩
    all_goals
      simp [e, e2, lenOk, sizeLine] at h ⊢
      exact h
  | [x, y, z], h2, h =>
    simp only [isAlphaD] at h
    simp only [isWordD]
    cases e : lowL x <;> cases e2 : lowL y <;> cases e3 : lowL z
    case true.true.true =>
      simp [e, e2, e3, lenOk, sizeLine] at h ⊢
      exact ⟨by show 3 ≤ 16777216; decide, x, rfl, by show 3 ≤ 16777216; decide, y, rfl, by show 3 ≤ 16777216; decide, y, rfl, by show 3 ≤ 16777216; decide, z, rfl, [decide ([x] < [y]), decide ([y] < [z])], rfl, by rw [lt1, lt1]; simpa using h⟩
    all_goals
      simp [e, e2, e3, lenOk, sizeLine] at h ⊢
      exact h
  | x :: y :: z :: u :: r, h2, h =>
    simp only [isAlphaD] at h
    rw [if_pos (by simp; omega), if_pos (by simp; omega)]
    exact h
/-! ### _law_alphabet -/
def tf__law_alphabet : TDF := fun ds Q => ∃ (m : Int), ds = [.bag, .int m] ∧ (1 ≤ m ∧ m ≤ 3) ∧ ∀ s : List Nat, isAlphaD (.str s) = true → s.length ≤ m → Q (.str s)
theorem ar__law_alphabet : ∀ ds Q, tf__law_alphabet ds Q → ds.length = 2 := by
  rintro ds Q ⟨_, rfl, _⟩
  rfl
local macro_rules | `(tactic| walk_at "go") => `(tactic| simp only [tf__law_draws, tf__law_pull, tf__law_any, tf_is_number, tf_is_word, tf_is_alphabet, tf__law_alphabet, fn_alphabet_size, fn_alphabet_initial, fn_alphabet_own_moves, fn_size_alphabet, fn_size_initial, fn_size_own_moves, fn_initial_alphabet, fn_initial_size, fn_initial_own_moves, fn_own_moves_alphabet, fn_own_moves_size, fn_own_moves_initial, ati0, ati1, ati2, ati3, dLRg, dM1, rEndsD, rSplitD, rStartsD, rLeTD, dsNil, dsSeq, dsDrop, dsRet, dsRetF, dsRetN, dsRetO, dsIf, dsSet, dsOwn, dsFrz, dsPar, dsMul, setK, dkE, dkF, dkNil, rLenSet, rSortD, rMaxD, dFnK, dsAug, augD, dsApp, dsAsg, dsFor, dsBreak, dsCont, dgName, dgTup, dgCons, dgNil, dVar, dPeek, dC, d1, d2, d3, dAnd, dOr, dNot, dTest, dTestB, truD, dtAnd, dtOr, dtNot, dIf, dLst, dTup, dCall, dFn, daCons, daNil, rAddD, rMulD, rMulF, rII, rEqDD, rNeDD, rOrdD, rInDD, rIxD, rSlD, dSl, dSlF, doSome, doNone, rLenD, rIntD, rMM, rAllD, rListD, rTupD, rStrI, rIsiD, rIsiLT, rNegD, dJoin, rJoinD, diSeq, diRng1, diRng2, diEnum, diZip, itemsD, dLc, lcF, dtsNil, dLc2, lcF2, Sl.dat, tyN, isNon, knownD, isIntD, isBoolD, isStrD, isListD, isTupD, isSeqD,
  List.getElem?_cons_succ, List.getElem?_cons_zero, List.set_cons_succ, List.set_cons_zero, List.cons_append, List.nil_append, List.append_nil, List.replicate_succ, List.replicate_zero, List.length_cons, List.length_nil, Nat.reduceAdd, Nat.reduceSub, Int.reduceToNat, Int.reducePow, wipeS, List.map_cons, List.map_nil, Option.bind_some, Option.some.injEq, D.int.injEq, D.bl.injEq, D.str.injEq, D.lst.injEq, D.tup.injEq, Sl.val.injEq, Sl.own.injEq, List.cons.injEq, and_true, true_and, ex_eq, exists_eq_left, exists_eq_left', exists_eq, exists_eq', and_assoc, exists_and_left, if_true, if_false, ite_true, ite_false, Bool.false_eq_true, Bool.not_true, Bool.not_false, reduceCtorEq, ↓reduceIte, Option.isSome_some, Option.isSome_none, false_and, and_false, exists_false, D.ins.injEq, D.raw.injEq, V.ref.injEq, eq_self, dFld, dsFld, dMeth, dOp2, dRadd, dGet, dEqI, rIsiC, rIsiX, dFmt, dFmtR, dJoined, dJs, dOwn1, rStrO, rLenO, rReprS, rListS, dSS, rSS, dEqX, dNeX, okOther, dsDput, dGetR, dInR, dsFrzL, dLk, diKeys, dDc, dcF, dDc2, dcF2, dsIns, rEqDic, rLenDic, D.dic.injEq, id, getF, putN, putV, permL_cons, permL_nil, Option.toList_some, iteAnd, iteOr, wpFor, wpMap])
theorem ok__law_alphabet (T : Txt K mg a) : FnOk P w K mg base CX0 3 a.f__law_alphabet a.fd__law_alphabet ["_law_bag", "_law_most"] (spE 2 tf__law_alphabet) := by
  refine ok_E T.F__law_alphabet sc__law_alphabet rfl (fun cdv A outer s H E hr => ⟨_, (ds_cons (ds_set (i := 2) sc__law_alphabet.nd rfl (Or.inr rfl) (de_str))
      (ds_cons (ds_set (i := 3) sc__law_alphabet.nd rfl (Or.inl rfl) (de_min2 T.n_min (dap_cons (dp_var (pv 1)) (dap_cons (PE.toP (de_fn (ok__law_any T) (hr.mono (by first | decide | omega)) T.g__law_any (k__law_any T) (b0__law_any T) (fun _ _ _ => .nil) (da_cons (de_var (pv 0)) (da_cons (PE.toE (df_lst (da_cons (de_int) (da_cons (de_int) (da_cons (de_int) (da_cons (de_int) (da_cons (de_int) (da_cons (de_int) da_nil)))))))) da_nil)) ar__law_any)) dap_nil))))
      (ds_cons (ds_set (i := 4) sc__law_alphabet.nd rfl (Or.inl rfl) (de_fn (ok__law_pull T) (hr.mono (by first | decide | omega)) T.g__law_pull (k__law_pull T) (b0__law_pull T) (fun _ _ _ => .nil) (da_cons (de_var (pv 0)) (da_cons (de_int) da_nil)) ar__law_pull))
      (ds_cons (ds_set (i := 5) sc__law_alphabet.nd rfl (Or.inl rfl) (de_add (PE.toP (de_add (dp_var (pv 4)) (PE.toP (de_int)))) (PE.toP (de_fn (ok__law_pull T) (hr.mono (by first | decide | omega)) T.g__law_pull (k__law_pull T) (b0__law_pull T) (fun _ _ _ => .nil) (da_cons (de_var (pv 0)) (da_cons (de_int) da_nil)) ar__law_pull))))
      (ds_one (ds_ret (de_join (PE.toP (de_str)) (PE.toP (PE.toE (df_lc (own := [("_law_at", 6)]) (di_seq (de_slice (PE.toP (PE.toE (df_lst (da_cons (de_var (pv 4)) (da_cons (de_var (pv 5)) (da_cons (de_add (PE.toP (de_add (dp_var (pv 5)) (PE.toP (de_int)))) (PE.toP (de_fn (ok__law_pull T) (hr.mono (by first | decide | omega)) T.g__law_pull (k__law_pull T) (b0__law_pull T) (fun _ _ _ => .nil) (da_cons (de_var (pv 0)) (da_cons (de_int) da_nil)) ar__law_pull))) da_nil)))))) do_none (do_some (dp_var (pv 3))))) sc__law_alphabet.nd (blkOk_by (own := [("_law_at", 6)]) (N := N__law_alphabet) (sc := defScope s__law_alphabet) (by decide +kernel)) (fun _ _ _ _ _ => (dg_name (i := 6) sc__law_alphabet.nd rfl (Or.inl rfl))) (fun _ _ _ _ _ => dts_nil) (fun _ _ _ _ _ => (de_item (dp_var (pv 2)) (dp_var (pv 6)))))))))))))), fun ds Qd hd h => ?_⟩)
  obtain ⟨m, rfl, h⟩ := h
  simp only [List.map_cons, List.map_nil]

  obtain ⟨⟨h1, h2⟩, h⟩ := h
  walk_at "go"
  refine ⟨by decide, by decide, by decide, fun d hd => ?_⟩
  obtain ⟨i, rfl, hi1, hi2⟩ : ∃ i : Int, d = .int i ∧ 1 ≤ i ∧ i ≤ 3 := by
    simp only [List.mem_cons, List.not_mem_nil, or_false] at hd
    rcases hd with rfl | rfl | rfl | rfl | rfl | rfl
    all_goals exact ⟨_, rfl, by decide, by decide⟩
  refine ⟨by decide, by decide, fun n h0 h3 => ⟨by decide, by decide, fun n1 h4 h5 => ⟨by decide, by decide, fun n2 h6 h7 => ⟨by decide, _, rfl, ?_⟩⟩⟩⟩
  have hm : (if i < m then i else m) ≤ m := by split <;> omega
  have hm1 : 1 ≤ (if i < m then i else m) := by split <;> omega
  generalize (if i < m then i else m) = many at hm hm1
  rw [letters_eq, empty_eq]
  have hL : abcL.length ≤ sizeLine := by decide
  have a1 := atI_abc (n := n) (by omega) (by omega)
  have a2 := atI_abc (n := n + 1 + n1) (by omega) (by omega)
  have a3 := atI_abc (n := n + 1 + n1 + 1 + n2) (by omega) (by omega)
  obtain e | e | e : many = 1 ∨ many = 2 ∨ many = 3 := by omega
  · subst e
    rw [show ∀ a b c : D, cut [a, b, c] none (some 1) = [a] from fun _ _ _ => rfl]
    refine ⟨by show 1 ≤ 16777216; decide, hL, _, a1, _, rfl, by show 1 ≤ 16777216; decide, h _ ?_ (by simpa [joinL] using hm)⟩
    simp [isAlphaD, joinL, lowL_iff]
    omega
  · subst e
    rw [show ∀ a b c : D, cut [a, b, c] none (some 2) = [a, b] from fun _ _ _ => rfl]
    refine ⟨by show 2 ≤ 16777216; decide, hL, _, a1, hL, _, a2, _, rfl, by show 2 ≤ 16777216; decide, h _ ?_ (by simpa [joinL] using hm)⟩
    simp [isAlphaD, joinL, lowL_iff]
    omega
  · subst e
    rw [show ∀ a b c : D, cut [a, b, c] none (some 3) = [a, b, c] from fun _ _ _ => rfl]
    refine ⟨by show 3 ≤ 16777216; decide, hL, _, a1, hL, _, a2, hL, _, a3, _, rfl, by show 3 ≤ 16777216; decide, h _ ?_ (by simpa [joinL] using hm)⟩
    simp [isAlphaD, joinL, lowL_iff]
    omega
/-! ### is_transition -/
def tf_is_transition : TDF := fun ds Q => ∃ (r : Row) (al : List Nat) (n : Nat), ds = [rowD r, .str al, .int n] ∧ (1 ≤ n ∧ r.s < n ∧ r.t < n ∧ r.l ∈ al ∧ al.length ≤ 3 ∧ LowS al) ∧ Q (.bl true)
theorem ar_is_transition : ∀ ds Q, tf_is_transition ds Q → ds.length = 3 := by
  rintro ds Q ⟨_, _, _, rfl, _⟩
  rfl
local macro_rules | `(tactic| walk_at "go") => `(tactic| simp only [tf__law_draws, tf__law_pull, tf__law_any, tf_is_number, tf_is_word, tf_is_alphabet, tf__law_alphabet, tf_is_transition, fn_alphabet_size, fn_alphabet_initial, fn_alphabet_own_moves, fn_size_alphabet, fn_size_initial, fn_size_own_moves, fn_initial_alphabet, fn_initial_size, fn_initial_own_moves, fn_own_moves_alphabet, fn_own_moves_size, fn_own_moves_initial, ati0, ati1, ati2, ati3, dLRg, dM1, rEndsD, rSplitD, rStartsD, rLeTD, dsNil, dsSeq, dsDrop, dsRet, dsRetF, dsRetN, dsRetO, dsIf, dsSet, dsOwn, dsFrz, dsPar, dsMul, setK, dkE, dkF, dkNil, rLenSet, rSortD, rMaxD, dFnK, dsAug, augD, dsApp, dsAsg, dsFor, dsBreak, dsCont, dgName, dgTup, dgCons, dgNil, dVar, dPeek, dC, d1, d2, d3, dAnd, dOr, dNot, dTest, dTestB, truD, dtAnd, dtOr, dtNot, dIf, dLst, dTup, dCall, dFn, daCons, daNil, rAddD, rMulD, rMulF, rII, rEqDD, rNeDD, rOrdD, rInDD, rIxD, rSlD, dSl, dSlF, doSome, doNone, rLenD, rIntD, rMM, rAllD, rListD, rTupD, rStrI, rIsiD, rIsiLT, rNegD, dJoin, rJoinD, diSeq, diRng1, diRng2, diEnum, diZip, itemsD, dLc, lcF, dtsNil, dLc2, lcF2, Sl.dat, tyN, isNon, knownD, isIntD, isBoolD, isStrD, isListD, isTupD, isSeqD,
  List.getElem?_cons_succ, List.getElem?_cons_zero, List.set_cons_succ, List.set_cons_zero, List.cons_append, List.nil_append, List.append_nil, List.replicate_succ, List.replicate_zero, List.length_cons, List.length_nil, Nat.reduceAdd, Nat.reduceSub, Int.reduceToNat, Int.reducePow, wipeS, List.map_cons, List.map_nil, Option.bind_some, Option.some.injEq, D.int.injEq, D.bl.injEq, D.str.injEq, D.lst.injEq, D.tup.injEq, Sl.val.injEq, Sl.own.injEq, List.cons.injEq, and_true, true_and, ex_eq, exists_eq_left, exists_eq_left', exists_eq, exists_eq', and_assoc, exists_and_left, if_true, if_false, ite_true, ite_false, Bool.false_eq_true, Bool.not_true, Bool.not_false, reduceCtorEq, ↓reduceIte, Option.isSome_some, Option.isSome_none, false_and, and_false, exists_false, D.ins.injEq, D.raw.injEq, V.ref.injEq, eq_self, dFld, dsFld, dMeth, dOp2, dRadd, dGet, dEqI, rIsiC, rIsiX, dFmt, dFmtR, dJoined, dJs, dOwn1, rStrO, rLenO, rReprS, rListS, dSS, rSS, dEqX, dNeX, okOther, dsDput, dGetR, dInR, dsFrzL, dLk, diKeys, dDc, dcF, dDc2, dcF2, dsIns, rEqDic, rLenDic, D.dic.injEq, id, getF, putN, putV, permL_cons, permL_nil, Option.toList_some, iteAnd, iteOr, wpFor, wpMap])
theorem ok_is_transition (T : Txt K mg a) : FnOk P w K mg base CX0 2 a.f_is_transition a.fd_is_transition ["value", "alphabet", "size"] (spE 3 tf_is_transition) := by
  refine ok_E T.F_is_transition sc_is_transition rfl (fun cdv A outer s H E hr => ⟨_, (ds_cons (ds_if (PW.pt (dt_or (dt_not (dt_val (PE.toP (de_isi tab_tup T.n_isinstance (dap_cons (dp_var (pv 0)) (dap_cons (PE.toP (de_ty (T := "tuple") T.n_tuple (by decide +kernel))) dap_nil)))))) (dt_or1 (dt_ne hr.units (PE.toP (de_len T.n_len (dap_cons (dp_var (pv 0)) dap_nil))) (PE.toP (de_int)))))) (ds_one (ds_ret (de_bl))) ds_nil)
      (ds_cons (ds_asg (de_var (pv 0)) (dg_tup (n := 4) (dgs_cons (dg_name (i := 3) sc_is_transition.nd rfl (Or.inl rfl)) (dgs_cons (dg_name (i := 4) sc_is_transition.nd rfl (Or.inl rfl)) (dgs_cons (dg_name (i := 5) sc_is_transition.nd rfl (Or.inl rfl)) (dgs_cons (dg_name (i := 6) sc_is_transition.nd rfl (Or.inl rfl)) dgs_nil))))))
      (ds_cons (ds_if (PW.pt (dt_or (dt_not (dt_val (PE.toP (de_isi tab_str T.n_isinstance (dap_cons (dp_var (pv 4)) (dap_cons (PE.toP (de_ty (T := "str") T.n_str (by decide +kernel))) dap_nil)))))) (dt_or (dt_ne hr.units (PE.toP (de_len T.n_len (dap_cons (dp_var (pv 4)) dap_nil))) (PE.toP (de_int))) (dt_or1 (dt_notIn (u65 hr) (dp_var (pv 4)) (dp_var (pv 1))))))) (ds_one (ds_ret (de_bl))) ds_nil)
      (ds_cons (ds_if (PW.pt (dt_or (dt_not (dt_val (PE.toP (de_isi tab_str T.n_isinstance (dap_cons (dp_var (pv 6)) (dap_cons (PE.toP (de_ty (T := "str") T.n_str (by decide +kernel))) dap_nil)))))) (dt_or1 (dt_notIn (u65 hr) (dp_var (pv 6)) (PE.toP (de_tup (da_cons (de_gstr T.c_SAFE) (da_cons (de_gstr T.c_SLIP) da_nil)))))))) (ds_one (ds_ret (de_bl))) ds_nil)
      (ds_one (ds_ret (de_and (PE.toP (de_fn (ok_is_number T) (hr.mono (by first | decide | omega)) T.g_is_number (k_is_number T) (b0_is_number T) (fun _ _ _ => .nil) (da_cons (de_var (pv 3)) (da_cons (de_int) (da_cons (de_sub (dp_var (pv 2)) (PE.toP (de_int))) da_nil))) ar_is_number)) (de_one (de_fn (ok_is_number T) (hr.mono (by first | decide | omega)) T.g_is_number (k_is_number T) (b0_is_number T) (fun _ _ _ => .nil) (da_cons (de_var (pv 5)) (da_cons (de_int) (da_cons (de_sub (dp_var (pv 2)) (PE.toP (de_int))) da_nil))) ar_is_number))))))))), fun ds Qd hd h => ?_⟩)
  obtain ⟨r, al, n, rfl, h⟩ := h
  simp only [List.map_cons, List.map_nil]

  obtain ⟨⟨h1, h2, h3, h4, h5, h6⟩, h⟩ := h
  unfold rowD
  have hL : al.length ≤ sizeLine := by show _ ≤ 16777216; omega
  refine seq_cut fun R hR => ?_
  walk_at "go"
  refine ⟨by decide, by decide, ?_⟩
  rw [if_neg (by decide)]
  subst hR
  refine seq_cut fun R hR => ?_
  walk_at "go"
  subst hR
  refine seq_cut fun R hR => ?_
  walk_at "go"
  refine ⟨by decide, by decide, by decide, ?_⟩
  rw [if_neg (by decide), inStr_mem, if_neg (by simp [h4])]
  subst hR
  refine seq_cut fun R hR => ?_
  walk_at "go"
  refine ⟨by decide, by cases r.w <;> decide, by decide +kernel, ?_⟩
  rw [safe_eq, slip_eq, if_neg (by cases r.w <;> decide)]
  subst hR
  walk_at "go"
  have e1 : isNumD (D.int r.s) 0 ((n : Int) - 1) = true := by simp only [isNumD, Bool.and_eq_true, decide_eq_true_eq]; omega
  have e2 : isNumD (D.int r.t) 0 ((n : Int) - 1) = true := by simp only [isNumD, Bool.and_eq_true, decide_eq_true_eq]; omega
  rw [e1, e2]
  exact h
/-! ### Automaton___init__ -/
def tf_Automaton___init__ (a : Adr) : TDF := fun ds Q => ∃ (al : List Nat) (n : Nat) (rs : List Row) (i : Nat), ds = [.str al, .int n, .lst (rs.map rowD), .int i] ∧ GoodA al n i rs ∧ Q (autD a.C_Automaton al n i rs)
theorem ar_Automaton___init__ {a : Adr} : ∀ ds Q, tf_Automaton___init__ a ds Q → ds.length = 4 := by
  rintro ds Q ⟨_, _, _, _, rfl, _⟩
  rfl
local macro_rules | `(tactic| walk_at "go") => `(tactic| simp only [tf__law_draws, tf__law_pull, tf__law_any, tf_is_number, tf_is_word, tf_is_alphabet, tf__law_alphabet, tf_is_transition, tf_Automaton___init__, fn_alphabet_size, fn_alphabet_initial, fn_alphabet_own_moves, fn_size_alphabet, fn_size_initial, fn_size_own_moves, fn_initial_alphabet, fn_initial_size, fn_initial_own_moves, fn_own_moves_alphabet, fn_own_moves_size, fn_own_moves_initial, ati0, ati1, ati2, ati3, dLRg, dM1, rEndsD, rSplitD, rStartsD, rLeTD, dsNil, dsSeq, dsDrop, dsRet, dsRetF, dsRetN, dsRetO, dsIf, dsSet, dsOwn, dsFrz, dsPar, dsMul, setK, dkE, dkF, dkNil, rLenSet, rSortD, rMaxD, dFnK, dsAug, augD, dsApp, dsAsg, dsFor, dsBreak, dsCont, dgName, dgTup, dgCons, dgNil, dVar, dPeek, dC, d1, d2, d3, dAnd, dOr, dNot, dTest, dTestB, truD, dtAnd, dtOr, dtNot, dIf, dLst, dTup, dCall, dFn, daCons, daNil, rAddD, rMulD, rMulF, rII, rEqDD, rNeDD, rOrdD, rInDD, rIxD, rSlD, dSl, dSlF, doSome, doNone, rLenD, rIntD, rMM, rAllD, rListD, rTupD, rStrI, rIsiD, rIsiLT, rNegD, dJoin, rJoinD, diSeq, diRng1, diRng2, diEnum, diZip, itemsD, dLc, lcF, dtsNil, dLc2, lcF2, Sl.dat, tyN, isNon, knownD, isIntD, isBoolD, isStrD, isListD, isTupD, isSeqD,
  List.getElem?_cons_succ, List.getElem?_cons_zero, List.set_cons_succ, List.set_cons_zero, List.cons_append, List.nil_append, List.append_nil, List.replicate_succ, List.replicate_zero, List.length_cons, List.length_nil, Nat.reduceAdd, Nat.reduceSub, Int.reduceToNat, Int.reducePow, wipeS, List.map_cons, List.map_nil, Option.bind_some, Option.some.injEq, D.int.injEq, D.bl.injEq, D.str.injEq, D.lst.injEq, D.tup.injEq, Sl.val.injEq, Sl.own.injEq, List.cons.injEq, and_true, true_and, ex_eq, exists_eq_left, exists_eq_left', exists_eq, exists_eq', and_assoc, exists_and_left, if_true, if_false, ite_true, ite_false, Bool.false_eq_true, Bool.not_true, Bool.not_false, reduceCtorEq, ↓reduceIte, Option.isSome_some, Option.isSome_none, false_and, and_false, exists_false, D.ins.injEq, D.raw.injEq, V.ref.injEq, eq_self, dFld, dsFld, dMeth, dOp2, dRadd, dGet, dEqI, rIsiC, rIsiX, dFmt, dFmtR, dJoined, dJs, dOwn1, rStrO, rLenO, rReprS, rListS, dSS, rSS, dEqX, dNeX, okOther, dsDput, dGetR, dInR, dsFrzL, dLk, diKeys, dDc, dcF, dDc2, dcF2, dsIns, rEqDic, rLenDic, D.dic.injEq, id, getF, putN, putV, permL_cons, permL_nil, Option.toList_some, iteAnd, iteOr, wpFor, wpMap])
theorem ok_Automaton___init__ (T : Txt K mg a) : FnOk P w K mg base CX0 3 a.f_Automaton___init__ a.fd_Automaton___init__ ["self", "alphabet", "size", "transitions", "initial"] (spI a.C_Automaton 4 (tf_Automaton___init__ a)) := by
  refine ok_I T.F_Automaton___init__ sc_Automaton___init__ rfl (fun cdv A outer s H E hr => ⟨_, (ds_cons (ds_if (dt_not (dt_val (PE.toP (de_fn (ok_is_alphabet T) (hr.mono (by first | decide | omega)) T.g_is_alphabet (k_is_alphabet T) (b0_is_alphabet T) (fun _ _ _ => .nil) (da_cons (de_var (pv 1)) da_nil) ar_is_alphabet)))) (ds_one ds_never) ds_nil)
      (ds_cons (ds_if (dt_not (dt_val (PE.toP (de_fn (ok_is_number T) (hr.mono (by first | decide | omega)) T.g_is_number (k_is_number T) (b0_is_number T) (fun _ _ _ => .nil) (da_cons (de_var (pv 2)) (da_cons (de_int) (da_cons (de_gint T.c_MOST_STATES) da_nil))) ar_is_number)))) (ds_one ds_never) ds_nil)
      (ds_cons (ds_if (dt_not (dt_val (PE.toP (de_isiLT T.n_isinstance (dap_cons (dp_var (pv 3)) (dap_cons (PE.toP (de_tup (da_cons (de_ty (T := "list") T.n_list (by decide +kernel)) (da_cons (de_ty (T := "tuple") T.n_tuple (by decide +kernel)) da_nil)))) dap_nil)))))) (ds_one ds_never) ds_nil)
      (ds_cons (ds_own (i := 7) sc_Automaton___init__.nd rfl (Or.inr rfl) (df_dc2 (own := [("state", 5), ("letter", 6)]) (vs1 := [6]) (u1 hr) true (di_range1 T.n_range (dap_cons (dp_var (pv 2)) dap_nil)) sc_Automaton___init__.nd (blkOk_by (own := [("state", 5), ("letter", 6)]) (N := N_Automaton___init__) (sc := defScope s_Automaton___init__) (by decide +kernel)) (by decide) (fun _ _ _ _ _ => (dg_name (i := 5) sc_Automaton___init__.nd rfl (Or.inl rfl))) (fun _ _ _ _ _ => dts_nil) (di1_seq (fun _ _ _ _ _ => (de_var (pv 1)))) (fun _ _ _ _ _ => (dg_name (i := 6) sc_Automaton___init__.nd rfl (Or.inl rfl))) (fun _ _ _ _ _ => dts_nil) (fun _ _ _ _ _ => (de_tup (da_cons (de_var (pv 5)) (da_cons (de_var (pv 6)) da_nil)))) (fun _ _ _ _ _ => (PE.toE (df_lst da_nil)))))
      (ds_cons (ds_own (i := 8) sc_Automaton___init__.nd rfl (Or.inl rfl) df_dnewT)
      (ds_cons (ds_for (di_enum T.n_enumerate (da_cons (de_var (pv 3)) da_nil)) (dg_tup (n := 2) (dgs_cons (dg_name (i := 9) sc_Automaton___init__.nd rfl (Or.inl rfl)) (dgs_cons (dg_name (i := 10) sc_Automaton___init__.nd rfl (Or.inl rfl)) dgs_nil))) (ds_cons (ds_if (PW.pt (dt_or (dt_not (dt_val (PE.toP (de_fn (ok_is_transition T) (hr.mono (by first | decide | omega)) T.g_is_transition (k_is_transition T) (b0_is_transition T) (fun _ _ _ => .nil) (da_cons (de_var (pv 10)) (da_cons (de_var (pv 1)) (da_cons (de_var (pv 2)) da_nil))) ar_is_transition)))) (dt_or1 (dt_din (u65 hr) (PE.toP (de_slice (dp_var (pv 10)) do_none (do_some (PE.toP (de_int))))) (dp_var (pv 8)))))) (ds_one ds_never) ds_nil)
      (ds_cons (ds_dput (u65 hr) (pv 8) (PE.toP (de_slice (dp_var (pv 10)) do_none (do_some (PE.toP (de_int))))) (de_bl))
      (ds_one (ds_dput (u65 hr) (pv 7) (PE.toP (de_slice (dp_var (pv 10)) do_none (do_some (PE.toP (de_int))))) (de_add (PE.toP (de_dget (u65 hr) (dp_var (pv 7)) (PE.toP (de_slice (dp_var (pv 10)) do_none (do_some (PE.toP (de_int))))))) (PE.toP (PE.toE (df_lst (da_cons (de_slice (dp_var (pv 10)) (do_some (PE.toP (de_int))) do_none) da_nil))))))))))
      (ds_cons (ds_if (dt_not (dt_val (PE.toP (de_fn (ok_is_number T) (hr.mono (by first | decide | omega)) T.g_is_number (k_is_number T) (b0_is_number T) (fun _ _ _ => .nil) (da_cons (de_var (pv 4)) (da_cons (de_int) (da_cons (de_sub (dp_var (pv 2)) (PE.toP (de_int))) da_nil))) ar_is_number)))) (ds_one ds_never) ds_nil)
      (ds_frzL 7 (ds_cons (ds_for (di_keys (de_var (pv 7))) (dg_tup (n := 2) (dgs_cons (dg_name (i := 5) sc_Automaton___init__.nd rfl (Or.inl rfl)) (dgs_cons (dg_name (i := 6) sc_Automaton___init__.nd rfl (Or.inl rfl)) dgs_nil))) (ds_one (ds_if (dt_eq hr.units (PE.toP (de_dget (u65 hr) (dp_var (pv 7)) (PE.toP (de_tup (da_cons (de_var (pv 5)) (da_cons (de_var (pv 6)) da_nil)))))) (PE.toP (PE.toE (df_lst da_nil)))) (ds_one ds_never) ds_nil)))
      (ds_cons (ds_fld (pv 0) (de_var (pv 1)) T.cl_Automaton T.no_Automaton_alphabet)
      (ds_cons (ds_fld (pv 0) (de_var (pv 2)) T.cl_Automaton T.no_Automaton_size)
      (ds_cons (ds_fld (pv 0) (de_var (pv 4)) T.cl_Automaton T.no_Automaton_initial)
      (ds_one (ds_fld (pv 0) (PE.lockF (df_dc (own := [("key", 11)]) (u1 hr) true (di_keys (de_var (pv 7))) sc_Automaton___init__.nd (blkOk_by (own := [("key", 11)]) (N := N_Automaton___init__) (sc := defScope s_Automaton___init__) (by decide +kernel)) (fun _ _ _ _ _ => (dg_name (i := 11) sc_Automaton___init__.nd rfl (Or.inl rfl))) (fun _ _ _ _ _ => dts_nil) (fun _ _ _ _ _ => (de_var (pv 11))) (fun _ _ _ _ _ => (PE.toE (df_sorted (u70 hr) T.n_sorted (dap_cons (PE.toP (de_dget (u65 hr) (dp_var (pv 7)) (dp_var (pv 11)))) dap_nil)))))) T.cl_Automaton T.no_Automaton_own_moves)))))))))))))), fun ds Qd y hd h => ?_⟩)
  obtain ⟨al, n, rs, i, rfl, h⟩ := h
  simp only [List.map_cons, List.map_nil]

  obtain ⟨hg, h⟩ := h
  have h3 := (alpha_len hg.alp)
  have hL : al.length ≤ sizeLine := by show _ ≤ 16777216; omega
  refine seq_cut fun R hR => ?_
  walk_at "go"
  refine ⟨hL, ?_⟩
  rw [hg.alp, if_neg (by decide)]
  subst hR
  refine seq_cut fun R hR => ?_
  walk_at "go"
  rw [show isNumD (D.int n) 1 65 = true by have := hg.lo; have := hg.hi; simp only [isNumD, Bool.and_eq_true, decide_eq_true_eq]; omega, if_neg (by decide)]
  subst hR
  refine seq_cut fun R hR => ?_
  walk_at "go"
  refine ⟨by decide, ?_⟩
  subst hR
  refine seq_cut fun R hR => ?_
  walk_at "go"
  have hn0 := hg.hi
  refine ⟨by omega, by omega, 3, by simp only [List.length_map, List.length_range]; show _ ≤ 16777216; omega, ?_⟩
  refine wpMap_det (fun d => al.map fun c => D.tup [D.tup [d, D.str [c]], D.lst []]) (fun d hd k q => ⟨by rw [List.length_map]; exact h3, wpMap_map (fun e => .tup [.tup [d, e], .lst []]) (fun e he k q => ⟨by decide, by decide, ?_, q⟩) (by rw [List.map_map]; exact q)⟩) ?_
  · obtain ⟨j, _, rfl⟩ := List.mem_map.mp hd
    obtain ⟨c, _, rfl⟩ := List.mem_map.mp he
    rfl
  rw [comp_keys, dfold_map (kf := keyA) (vf := fun _ => D.lst []) (keysA_pw hg.alp n)]
  subst hR
  refine seq_cut fun R hR => ?_
  walk_at "go"
  subst hR
  refine seq_cut fun R hR => ?_
  refine for_cutG fun G hG => ?_
  walk_at "go"
  refine hG _ ?_
  clear hG
  refine wpFor_inv (fun j S => ∃ c5 c6 c9 c10, S = [.own (.ins a.C_Automaton [""] [.raw (.ref y)]), .val (.str al), .val (.int n), .val (.lst (rs.map rowD)), .val (.int i), c5, c6,
      .own (.dic true false ((keysA al n).map keyA) ((keysA al n).map fun k => .lst ((atA (rs.take j) k).map pairD))), .own (.dic true false (((rs.take j).map k3).map key3) (((rs.take j).map k3).map fun _ => .bl true)), c9, c10, .no]) 0 ⟨_, _, _, _, rfl⟩ (fun j d S De' hj hI hnx _ _ _ _ => ?_) (fun S hI => ?_)
  · obtain ⟨c5, c6, c9, c10, rfl⟩ := hI
    obtain ⟨r, hr0, rfl⟩ := enum_row hj
    have hmem := List.mem_of_getElem? hr0
    rw [Nat.zero_add] at hnx ⊢
    walk_at "tg"
    refine ⟨_, _, ⟨rfl, rfl⟩, _, _, rfl, rfl, ?_⟩
    refine seq_cut fun R2 hR2 => ?_
    walk_at "go"
    have hnot : k3 r ∉ (rs.take j).map k3 := nodup_at hg.nd hr0
    refine ⟨r, rfl, n, rfl, hg.lo, hg.src r hmem, hg.tgt r hmem, hg.let' r hmem, h3, alpha_lowS hg.alp, ?_⟩
    have e3 : D.tup (cut [D.int r.s, D.str [r.l], D.int r.t, D.str (wC r.w)] none (some 3)) = key3 (k3 r) := rfl
    simp only [rowD]
    rw [e3, dget_map (kf := key3) (vf := fun _ => D.bl true) key3_eq, if_neg hnot]
    refine ⟨fun q => absurd q.2 (by simp [HT.sIx]), rfl, ?_⟩
    rw [if_neg (by decide)]
    subst hR2
    refine seq_cut fun R2 hR2 => ?_
    walk_at "go"
    have hlen := hg.len
    refine ⟨by simp [HT.sIx], rfl, by show _ < 16777216; rw [List.length_map, List.length_map, List.length_take]; omega, ?_⟩
    obtain ⟨p1, p2⟩ := dput_new (kf := key3) (vf := fun _ => D.bl true) (v := D.bl true) key3_eq hnot
    rw [e3, p1, p2]
    subst hR2
    walk_at "go"
    have e2 : D.tup (cut [D.int r.s, D.str [r.l], D.int r.t, D.str (wC r.w)] none (some 2)) = keyA (r.s, r.l) := rfl
    have e4 : D.tup (cut [D.int r.s, D.str [r.l], D.int r.t, D.str (wC r.w)] (some 2) none) = pairD r := rfl
    have hin : (r.s, r.l) ∈ keysA al n := keysA_mem.mpr ⟨hg.src r hmem, hg.let' r hmem⟩
    have hat : (atA (rs.take j) (r.s, r.l)).length ≤ 80000 := Nat.le_trans (List.length_filter_le _ _) (by rw [List.length_take]; omega)
    rw [e2, e4]
    refine ⟨by simp [HT.sIx], rfl, .lst ((atA (rs.take j) (r.s, r.l)).map pairD), ?_, by simp [HT.sIx], by decide, ?_⟩
    · rw [dget_map (kf := keyA) (vf := fun k => D.lst ((atA (rs.take j) k).map pairD)) keyA_eq, if_pos hin]
    refine ⟨by show _ ≤ 16777216; simp only [List.length_map, List.length_cons, List.length_nil]; omega, by simp [HT.sIx], rfl, ?_, ?_⟩
    · show _ < 16777216
      rw [List.length_map, keysA_len]
      have := Nat.mul_le_mul hg.hi h3
      omega
    obtain ⟨q1, q2⟩ := dput_map (kf := keyA) (vf := fun k => D.lst ((atA (rs.take j) k).map pairD)) (v := .lst ((atA (rs.take j) (r.s, r.l)).map pairD ++ [pairD r])) keyA_eq hin
    rw [q1, q2]
    refine hnx _ ⟨c5, c6, .val (.int j), .val (rowD r), ?_⟩
    have g1 : ((keysA al n).map fun a => if a = (r.s, r.l) then D.lst ((atA (rs.take j) (r.s, r.l)).map pairD ++ [pairD r]) else D.lst ((atA (rs.take j) a).map pairD)) = (keysA al n).map fun k => D.lst ((atA (rs.take (j + 1)) k).map pairD) := by
      refine List.map_congr_left fun k _ => ?_
      rw [atA_take hr0]
      by_cases hk : k = (r.s, r.l)
      · subst hk; simp
      · rw [if_neg hk, if_neg (Ne.symm hk)]
    have g2 : (rs.take (j + 1)).map k3 = (rs.take j).map k3 ++ [k3 r] := by rw [List.take_add_one, hr0]; simp
    rw [g1, g2, List.map_append (f := fun _ => D.bl true)]
    rfl
  · obtain ⟨c5, c6, c9, c10, rfl⟩ := hI
    rw [Nat.zero_add, enumD_length, List.length_map, List.take_length]
    show R _
    subst hR
    refine seq_cut fun R hR => ?_
    walk_at "go"
    rw [show isNumD (D.int i) 0 ((n : Int) - 1) = true by have := hg.ini; simp only [isNumD, Bool.and_eq_true, decide_eq_true_eq]; omega, if_neg (by decide)]
    subst hR
    walk_at "go"
    clear G
    refine wpFor_inv (fun j S => ∃ c5 c6, S = [.own (.ins a.C_Automaton [""] [.raw (.ref y)]), .val (.str al), .val (.int n), .val (.lst (rs.map rowD)), .val (.int i), c5, c6,
      .val (.dic true true ((keysA al n).map keyA) ((keysA al n).map fun k => .lst ((atA rs k).map pairD))), .own (.dic true false ((rs.map k3).map key3) ((rs.map k3).map fun _ => .bl true)), c9, c10, .no]) 0 ⟨_, _, rfl⟩ (fun j d S De' hj hI hnx _ _ _ _ => ?_) (fun S hI => ?_)
    · obtain ⟨c5, c6, rfl⟩ := hI
      obtain ⟨k, hk, rfl⟩ := List.mem_map.mp (List.mem_of_getElem? hj)
      walk_at "tg"
      refine ⟨_, rfl, rfl, _, _, rfl, _, _, rfl, rfl, ?_⟩
      walk_at "go"
      refine ⟨by decide, rfl, ?_⟩
      rw [show D.tup [D.int k.1, D.str [k.2]] = keyA k from rfl, dget_map (kf := keyA) (vf := fun k => D.lst ((atA rs k).map pairD)) keyA_eq, if_pos hk]
      refine ⟨_, rfl, by decide, pairs_ok _, rfl, ?_⟩
      rw [pairs_ne (hg.full k hk), if_neg (by decide)]
      exact hnx _ ⟨_, _, rfl⟩
    · obtain ⟨c5, c6, rfl⟩ := hI
      show dsSeq _ _ _ _
      walk_at "go"
      have hkl : (keysA al n).length ≤ 195 := by rw [keysA_len]; have := Nat.mul_le_mul hg.hi h3; omega
      refine ⟨by decide, by decide, by decide, by show _ ≤ 16777216; rw [List.length_map]; omega, ?_⟩
      refine wpMap_on (kf := keyA) (fun k => .tup [keyA k, movA rs k]) (fun k hk q hq => ?_) ?_
      · refine ⟨rfl, ?_⟩
        rw [dget_map (kf := keyA) (vf := fun k => D.lst ((atA rs k).map pairD)) keyA_eq, if_pos hk]
        exact ⟨_, rfl, pairs_can (Nat.le_trans (List.length_filter_le _ _) hg.len), rfl, hq⟩
      rw [dfold_map (kf := keyA) (vf := movA rs) (keysA_pw hg.alp n)]
      refine ⟨by decide, by decide, ?_⟩
      exact h
end
end L2.DL.LW


set_option Elab.async false
set_option linter.all false
set_option maxRecDepth 100000
set_option maxHeartbeats 4000000
namespace L2.DL.LW
open PySem PySem.Spec PyProof.Rows
local macro_rules | `(tactic| walk_at "ev") => `(tactic| simp only [dsNil, dsSeq, dsDrop, dsRet, dsRetF, dsRetN, dsRetO, dsIf, dsSet, dsOwn, dsFrz, dsPar, dsMul, setK, dkE, dkF, dkNil, rLenSet, rSortD, rMaxD, dFnK, dsAug, augD, dsApp, dsAsg, dsFor, dsBreak, dsCont, dgName, dgTup, dgCons, dgNil, dVar, dPeek, dC, d1, d2, d3, dAnd, dOr, dNot, dTest, dTestB, truD, dtAnd, dtOr, dtNot, dIf, dLst, dTup, dCall, dFn, daCons, daNil, rAddD, rMulD, rMulF, rII, rEqDD, rNeDD, rOrdD, rInDD, rIxD, rSlD, dSl, dSlF, doSome, doNone, rLenD, rIntD, rMM, rAllD, rListD, rTupD, rStrI, rIsiD, rIsiLT, rNegD, dJoin, rJoinD, diSeq, diRng1, diRng2, diEnum, diZip, itemsD, dLc, lcF, dtsNil, dLc2, lcF2, Sl.dat, tyN, isNon, knownD, isIntD, isBoolD, isStrD, isListD, isTupD, isSeqD,
  List.getElem?_cons_succ, List.getElem?_cons_zero, List.set_cons_succ, List.set_cons_zero, List.cons_append, List.nil_append, List.append_nil, List.replicate_succ, List.replicate_zero, List.length_cons, List.length_nil, Nat.reduceAdd, Nat.reduceSub, Int.reduceToNat, Int.reducePow, wipeS, List.map_cons, List.map_nil, Option.bind_some, Option.some.injEq, D.int.injEq, D.bl.injEq, D.str.injEq, D.lst.injEq, D.tup.injEq, Sl.val.injEq, Sl.own.injEq, List.cons.injEq, and_true, true_and, ex_eq, exists_eq_left, exists_eq_left', exists_eq, exists_eq', and_assoc, exists_and_left, if_true, if_false, ite_true, ite_false, Bool.false_eq_true, Bool.not_true, Bool.not_false, reduceCtorEq, ↓reduceIte, Option.isSome_some, Option.isSome_none, false_and, and_false, exists_false, D.ins.injEq, D.raw.injEq, V.ref.injEq, eq_self, dFld, dsFld, dMeth, dOp2, dRadd, dGet, dEqI, rIsiC, rIsiX, dFmt, dFmtR, dJoined, dJs, dOwn1, rStrO, rLenO, rReprS, rListS, dSS, rSS, dEqX, dNeX, okOther, dsDput, dGetR, dInR, dsFrzL, dLk, diKeys, dDc, dcF, dDc2, dcF2, dsIns, rEqDic, rLenDic, D.dic.injEq, id, getF, putN, putV, permL_cons, permL_nil, Option.toList_some, iteAnd, iteOr, wpFor, wpMap])
local macro_rules | `(tactic| walk_at "yes") => `(tactic| repeat (refine ⟨by first | decide | decide +kernel | omega, ?_⟩))
local macro_rules | `(tactic| walk_at "sd") => `(tactic| first | omega | (show _ ≤ 16777216; omega) | (show _ < 16777216; omega) | (show _ ≤ 16777216; simp only [repL_length, List.length_append, List.length_map, List.length_range, List.length_cons, List.length_nil, List.length_drop, List.length_take, Int.reduceToNat]; omega) | (show _ < 16777216; simp only [repL_length, List.length_append, List.length_map, List.length_range, List.length_cons, List.length_nil, List.length_drop, List.length_take, Int.reduceToNat]; omega) | (simp only [repL_length, List.length_append, List.length_map, List.length_range, List.length_cons, List.length_nil, List.length_drop, List.length_take, Int.reduceToNat]; omega) | decide | with_reducible assumption)
local macro_rules | `(tactic| walk_at "au") => `(tactic| repeat (refine ⟨by walk_at "sd", ?_⟩))
local macro_rules | `(tactic| walk_at "tg") => `(tactic| simp only [dgName, dgTup, dgCons, dgNil, itemsD, List.set_cons_succ, List.set_cons_zero, Option.some.injEq, D.tup.injEq, exists_eq_left', List.cons.injEq, and_true, true_and, List.length_cons, List.length_nil, Nat.reduceAdd])
local macro_rules | `(tactic| walk_at "lm") => `(tactic| simp only [lamS, wipeO, List.map_cons, List.map_nil, List.set_cons_succ, List.set_cons_zero])

section
variable {P : Program} {w : World} {K : PySem.W.Frag} {mg : Str → Option Value} {base : Heap} {a : Adr}
/-! ### Automaton_transitions -/
def tf_Automaton_transitions (a : Adr) : TDF := fun ds Q => ∃ (al : List Nat) (n : Nat) (i : Nat) (rs : List Row), ds = [autD a.C_Automaton al n i rs] ∧ GoodA al n i rs ∧ Q (.lst (sortD (rs.map rowD)))
theorem ar_Automaton_transitions {a : Adr} : ∀ ds Q, tf_Automaton_transitions a ds Q → ds.length = 1 := by
  rintro ds Q ⟨_, _, _, _, rfl, _⟩
  rfl
local macro_rules | `(tactic| walk_at "go") => `(tactic| simp only [tf__law_draws, tf__law_pull, tf__law_any, tf_is_number, tf_is_word, tf_is_alphabet, tf__law_alphabet, tf_is_transition, tf_Automaton___init__, tf_Automaton_transitions, fn_alphabet_size, fn_alphabet_initial, fn_alphabet_own_moves, fn_size_alphabet, fn_size_initial, fn_size_own_moves, fn_initial_alphabet, fn_initial_size, fn_initial_own_moves, fn_own_moves_alphabet, fn_own_moves_size, fn_own_moves_initial, ati0, ati1, ati2, ati3, dLRg, dM1, rEndsD, rSplitD, rStartsD, rLeTD, dsNil, dsSeq, dsDrop, dsRet, dsRetF, dsRetN, dsRetO, dsIf, dsSet, dsOwn, dsFrz, dsPar, dsMul, setK, dkE, dkF, dkNil, rLenSet, rSortD, rMaxD, dFnK, dsAug, augD, dsApp, dsAsg, dsFor, dsBreak, dsCont, dgName, dgTup, dgCons, dgNil, dVar, dPeek, dC, d1, d2, d3, dAnd, dOr, dNot, dTest, dTestB, truD, dtAnd, dtOr, dtNot, dIf, dLst, dTup, dCall, dFn, daCons, daNil, rAddD, rMulD, rMulF, rII, rEqDD, rNeDD, rOrdD, rInDD, rIxD, rSlD, dSl, dSlF, doSome, doNone, rLenD, rIntD, rMM, rAllD, rListD, rTupD, rStrI, rIsiD, rIsiLT, rNegD, dJoin, rJoinD, diSeq, diRng1, diRng2, diEnum, diZip, itemsD, dLc, lcF, dtsNil, dLc2, lcF2, Sl.dat, tyN, isNon, knownD, isIntD, isBoolD, isStrD, isListD, isTupD, isSeqD,
  List.getElem?_cons_succ, List.getElem?_cons_zero, List.set_cons_succ, List.set_cons_zero, List.cons_append, List.nil_append, List.append_nil, List.replicate_succ, List.replicate_zero, List.length_cons, List.length_nil, Nat.reduceAdd, Nat.reduceSub, Int.reduceToNat, Int.reducePow, wipeS, List.map_cons, List.map_nil, Option.bind_some, Option.some.injEq, D.int.injEq, D.bl.injEq, D.str.injEq, D.lst.injEq, D.tup.injEq, Sl.val.injEq, Sl.own.injEq, List.cons.injEq, and_true, true_and, ex_eq, exists_eq_left, exists_eq_left', exists_eq, exists_eq', and_assoc, exists_and_left, if_true, if_false, ite_true, ite_false, Bool.false_eq_true, Bool.not_true, Bool.not_false, reduceCtorEq, ↓reduceIte, Option.isSome_some, Option.isSome_none, false_and, and_false, exists_false, D.ins.injEq, D.raw.injEq, V.ref.injEq, eq_self, dFld, dsFld, dMeth, dOp2, dRadd, dGet, dEqI, rIsiC, rIsiX, dFmt, dFmtR, dJoined, dJs, dOwn1, rStrO, rLenO, rReprS, rListS, dSS, rSS, dEqX, dNeX, okOther, dsDput, dGetR, dInR, dsFrzL, dLk, diKeys, dDc, dcF, dDc2, dcF2, dsIns, rEqDic, rLenDic, D.dic.injEq, id, getF, putN, putV, permL_cons, permL_nil, Option.toList_some, iteAnd, iteOr, wpFor, wpMap])
theorem ok_Automaton_transitions (T : Txt K mg a) : FnOk P w K mg base CX0 1 a.f_Automaton_transitions a.fd_Automaton_transitions ["self"] (spE 1 (tf_Automaton_transitions a)) := by
  refine ok_E T.F_Automaton_transitions sc_Automaton_transitions rfl (fun cdv A outer s H E hr => ⟨_, (ds_one (ds_ret (PE.toE (df_sorted (u70 hr) T.n_sorted (dap_cons (PE.toP (PE.toE (df_lc2 (own := [("key", 1), ("pair", 2)]) (vs1 := [2]) (di_keys (de_fld (dp_var (pv 0)) T.cl_Automaton T.no_Automaton_own_moves)) sc_Automaton_transitions.nd (blkOk_by (own := [("key", 1), ("pair", 2)]) (N := N_Automaton_transitions) (sc := defScope s_Automaton_transitions) (by decide +kernel)) (by decide) (fun _ _ _ _ _ => (dg_name (i := 1) sc_Automaton_transitions.nd rfl (Or.inl rfl))) (fun _ _ _ _ _ => dts_nil) (di1_seq (fun _ _ _ _ _ => (de_dget (u65 hr) (PE.toP (de_fld (dp_var (pv 0)) T.cl_Automaton T.no_Automaton_own_moves)) (dp_var (pv 1))))) (fun _ _ _ _ _ => (dg_name (i := 2) sc_Automaton_transitions.nd rfl (Or.inl rfl))) (fun _ _ _ _ _ => dts_nil) (fun _ _ _ _ _ => (de_add (dp_var (pv 1)) (dp_var (pv 2))))))) dap_nil))))), fun ds Qd hd h => ?_⟩)
  obtain ⟨al, n, i, rs, rfl, h⟩ := h
  simp only [List.map_cons, List.map_nil]

  obtain ⟨hg, h⟩ := h
  have h3 := alpha_len hg.alp
  have hkl : (keysA al n).length ≤ 195 := by rw [keysA_len]; have := Nat.mul_le_mul hg.hi h3; omega
  unfold autD
  walk_at "go"
  refine ⟨80000, by rw [List.length_map]; show _ ≤ 16777216; omega, ?_⟩
  refine wpMap_onF (kf := keyA) (fun k => (sortD ((atA rs k).map pairD)).map fun p => D.tup ([D.int k.1, D.str [k.2]] ++ unT p)) (fun k hk q hq => ?_) ?_
  · refine ⟨rfl, ?_⟩
    rw [dget_map (kf := keyA) (vf := movA rs) keyA_eq, if_pos hk]
    refine ⟨_, rfl, _, rfl, ?_, ?_⟩
    · rw [sortD_length, List.length_map]
      exact Nat.le_trans (List.length_filter_le _ _) hg.len
    · refine wpMap_map (fun p => D.tup ([D.int k.1, D.str [k.2]] ++ unT p)) (fun d hd k' q' => ?_) hq
      obtain ⟨r, _, rfl⟩ := List.mem_map.mp (sortD_mem.mp hd)
      exact ⟨by simp, by show 4 ≤ 16777216; decide, q'⟩
  · have p := trans_perm hg
    have e := sortD_eq p fun x hx y hy e => by
      obtain ⟨r, _, rfl⟩ := List.mem_map.mp (p.mem_iff.mp hx)
      obtain ⟨q, _, rfl⟩ := List.mem_map.mp (p.mem_iff.mp hy)
      exact tk_row e
    rw [e]
    refine ⟨?_, h⟩
    obtain ⟨L, e2, p2⟩ := perm_map_ex (f := rowD) (L := rs) p
    rw [e2]
    exact rows_can (hg.permA p2)
/-! ### Automaton___eq__ -/
def okAut (C : Addr) (e : D) : Prop := (∃ al n i rs, e = autD C al n i rs ∧ GoodA al n i rs) ∨ (tyN e).isSome = true
open Classical in
noncomputable def eqAut (al : List Nat) (n i : Nat) (rs : List Row) (e : D) : Bool := decide (∃ C rs', e = autD C al n i rs' ∧ GoodA al n i rs' ∧ rs.Perm rs')
theorem autD_inj {C C' : Addr} {al al' : List Nat} {n n' i i' : Nat} {rs rs' : List Row} (h : autD C al n i rs = autD C' al' n' i' rs') : al = al' ∧ n = n' ∧ i = i' ∧ (keysA al n).map (movA rs) = (keysA al' n').map (movA rs') := by
  unfold autD at h
  simp only [D.ins.injEq, List.cons.injEq, D.str.injEq, D.int.injEq, D.dic.injEq, and_true, true_and] at h
  exact ⟨h.2.1, by omega, by omega, h.2.2.2.2.2⟩
open Classical in
theorem eqAut_aut {C : Addr} {al al2 : List Nat} {n n2 i i2 : Nat} {rs rs2 : List Row} (g : GoodA al n i rs) (g2 : GoodA al2 n2 i2 rs2) : eqAut al n i rs (autD C al2 n2 i2 rs2) = (decide (al = al2) && decide (n = n2) && decide (i = i2) && decide (rs.Perm rs2)) := by
  unfold eqAut
  rw [Bool.eq_iff_iff, decide_eq_true_iff]
  simp only [Bool.and_eq_true, decide_eq_true_eq]
  constructor
  · rintro ⟨C', rs', e, g', p⟩
    obtain ⟨rfl, rfl, rfl, e2⟩ := autD_inj e
    refine ⟨⟨⟨rfl, rfl⟩, rfl⟩, p.trans ?_⟩
    rw [perm_at g'.key g2.key]
    intro k hk
    have := List.map_inj_left.mp e2 k hk
    exact (movA_eq.mp (by rw [this]; exact deqv_refl _)).symm
  · rintro ⟨⟨⟨rfl, rfl⟩, rfl⟩, p⟩
    exact ⟨C, rs2, rfl, g2, p⟩
theorem eqAut_no {al : List Nat} {n i : Nat} {rs : List Row} {e : D} (h : (tyN e).isSome = true) : eqAut al n i rs e = false := by
  unfold eqAut
  rw [decide_eq_false_iff_not]
  rintro ⟨C, rs', rfl, _⟩
  cases h
theorem moves_ok {al : List Nat} {n i : Nat} {rs : List Row} (g : GoodA al n i rs) : ((keysA al n).map (movA rs)).all okD = true := by
  rw [List.all_eq_true]
  intro d hd
  obtain ⟨k, _, rfl⟩ := List.mem_map.mp hd
  unfold movA
  refine okD_lst fun d hd => ?_
  obtain ⟨r, _, rfl⟩ := List.mem_map.mp (sortD_mem.mp hd)
  exact ⟨pair_plain r, by rw [pair_dep]; decide⟩

def tf_Automaton___eq__ (a : Adr) : TDF := fun ds Q => ∃ (al : List Nat) (n : Nat) (i : Nat) (rs : List Row) (e : D), ds = [autD a.C_Automaton al n i rs, e] ∧ (GoodA al n i rs ∧ okAut a.C_Automaton e) ∧ Q (.bl (eqAut al n i rs e))
theorem ar_Automaton___eq__ {a : Adr} : ∀ ds Q, tf_Automaton___eq__ a ds Q → ds.length = 2 := by
  rintro ds Q ⟨_, _, _, _, _, rfl, _⟩
  rfl
local macro_rules | `(tactic| walk_at "go") => `(tactic| simp only [tf__law_draws, tf__law_pull, tf__law_any, tf_is_number, tf_is_word, tf_is_alphabet, tf__law_alphabet, tf_is_transition, tf_Automaton___init__, tf_Automaton_transitions, tf_Automaton___eq__, fn_alphabet_size, fn_alphabet_initial, fn_alphabet_own_moves, fn_size_alphabet, fn_size_initial, fn_size_own_moves, fn_initial_alphabet, fn_initial_size, fn_initial_own_moves, fn_own_moves_alphabet, fn_own_moves_size, fn_own_moves_initial, ati0, ati1, ati2, ati3, dLRg, dM1, rEndsD, rSplitD, rStartsD, rLeTD, dsNil, dsSeq, dsDrop, dsRet, dsRetF, dsRetN, dsRetO, dsIf, dsSet, dsOwn, dsFrz, dsPar, dsMul, setK, dkE, dkF, dkNil, rLenSet, rSortD, rMaxD, dFnK, dsAug, augD, dsApp, dsAsg, dsFor, dsBreak, dsCont, dgName, dgTup, dgCons, dgNil, dVar, dPeek, dC, d1, d2, d3, dAnd, dOr, dNot, dTest, dTestB, truD, dtAnd, dtOr, dtNot, dIf, dLst, dTup, dCall, dFn, daCons, daNil, rAddD, rMulD, rMulF, rII, rEqDD, rNeDD, rOrdD, rInDD, rIxD, rSlD, dSl, dSlF, doSome, doNone, rLenD, rIntD, rMM, rAllD, rListD, rTupD, rStrI, rIsiD, rIsiLT, rNegD, dJoin, rJoinD, diSeq, diRng1, diRng2, diEnum, diZip, itemsD, dLc, lcF, dtsNil, dLc2, lcF2, Sl.dat, tyN, isNon, knownD, isIntD, isBoolD, isStrD, isListD, isTupD, isSeqD,
  List.getElem?_cons_succ, List.getElem?_cons_zero, List.set_cons_succ, List.set_cons_zero, List.cons_append, List.nil_append, List.append_nil, List.replicate_succ, List.replicate_zero, List.length_cons, List.length_nil, Nat.reduceAdd, Nat.reduceSub, Int.reduceToNat, Int.reducePow, wipeS, List.map_cons, List.map_nil, Option.bind_some, Option.some.injEq, D.int.injEq, D.bl.injEq, D.str.injEq, D.lst.injEq, D.tup.injEq, Sl.val.injEq, Sl.own.injEq, List.cons.injEq, and_true, true_and, ex_eq, exists_eq_left, exists_eq_left', exists_eq, exists_eq', and_assoc, exists_and_left, if_true, if_false, ite_true, ite_false, Bool.false_eq_true, Bool.not_true, Bool.not_false, reduceCtorEq, ↓reduceIte, Option.isSome_some, Option.isSome_none, false_and, and_false, exists_false, D.ins.injEq, D.raw.injEq, V.ref.injEq, eq_self, dFld, dsFld, dMeth, dOp2, dRadd, dGet, dEqI, rIsiC, rIsiX, dFmt, dFmtR, dJoined, dJs, dOwn1, rStrO, rLenO, rReprS, rListS, dSS, rSS, dEqX, dNeX, okOther, dsDput, dGetR, dInR, dsFrzL, dLk, diKeys, dDc, dcF, dDc2, dcF2, dsIns, rEqDic, rLenDic, D.dic.injEq, id, getF, putN, putV, permL_cons, permL_nil, Option.toList_some, iteAnd, iteOr, wpFor, wpMap])
theorem ok_Automaton___eq__ (T : Txt K mg a) : FnOk P w K mg base CX0 1 a.f_Automaton___eq__ a.fd_Automaton___eq__ ["self", "other"] (spE 2 (tf_Automaton___eq__ a)) := by
  refine ok_E T.F_Automaton___eq__ sc_Automaton___eq__ rfl (fun cdv A outer s H E hr => ⟨_, (ds_cons (ds_if (PW.pt (dt_or (dt_not (dt_val (PE.toP (de_isiX T.is_Automaton T.n_isinstance (dap_cons (dp_var (pv 1)) (dap_cons (PE.toP (de_cls T.g_Automaton)) dap_nil)))))) (dt_or1 (dt_ne hr.units (PE.toP (de_fld (dp_var (pv 0)) T.cl_Automaton T.no_Automaton_alphabet)) (PE.toP (de_fld (dp_var (pv 1)) T.cl_Automaton T.no_Automaton_alphabet)))))) (ds_one (ds_ret (de_bl))) ds_nil)
      (ds_one (ds_ret (de_and (PE.toP (de_eq hr.units (PE.toP (de_fld (dp_var (pv 0)) T.cl_Automaton T.no_Automaton_size)) (PE.toP (de_fld (dp_var (pv 1)) T.cl_Automaton T.no_Automaton_size)))) (de_and (PE.toP (de_eq hr.units (PE.toP (de_fld (dp_var (pv 0)) T.cl_Automaton T.no_Automaton_initial)) (PE.toP (de_fld (dp_var (pv 1)) T.cl_Automaton T.no_Automaton_initial)))) (de_one (de_eqDic (u66 hr) (PE.toP (de_fld (dp_var (pv 0)) T.cl_Automaton T.no_Automaton_own_moves)) (PE.toP (de_fld (dp_var (pv 1)) T.cl_Automaton T.no_Automaton_own_moves))))))))), fun ds Qd hd h => ?_⟩)
  obtain ⟨al, n, i, rs, e, rfl, h⟩ := h
  simp only [List.map_cons, List.map_nil]

  obtain ⟨⟨hg, he⟩, h⟩ := h
  have hal := low_ok (alpha_lowS hg.alp)
  rcases he with ⟨al2, n2, i2, rs2, rfl, hg2⟩ | he
  · rw [eqAut_aut hg hg2] at h
    unfold autD
    walk_at "go"
    refine ⟨hal, low_ok (alpha_lowS hg2.alp), ?_⟩
    by_cases e1 : al = al2
    · subst e1
      refine ite_nd rfl ⟨rfl, rfl, ?_⟩
      by_cases e2 : n = n2
      · subst e2
        refine ite_yes (deqv_refl _) ⟨rfl, rfl, ?_⟩
        by_cases e3 : i = i2
        · subst e3
          refine ite_yes (deqv_refl _) ⟨moves_ok hg, moves_ok hg2, ?_⟩
          rw [eq_moves hg.key hg2.key]
          simpa using h
        · refine ite_no (by rw [deqv_int]; simp; omega) ?_
          simpa [e3] using h
      · refine ite_no (by rw [deqv_int]; simp; omega) ?_
        simpa [e2] using h
    · refine ite_yes (by rw [deqv_str]; simp [e1]) ?_
      simpa [e1] using h
  · have hn : eqAut al n i rs e = false := by
      unfold eqAut
      rw [decide_eq_false_iff_not]
      rintro ⟨C, rs', rfl, _⟩
      cases he
    rw [hn] at h
    cases e <;> (try cases he) <;> unfold autD <;> walk_at "go" <;> exact h
/-! ### _law_mixed -/
theorem ins_perm {ys xs : List D} {d : D} {j : Nat} (p : ys.Perm (xs.take j)) (hj : xs[j]? = some d) (k : Nat) : (ys.take k ++ [d] ++ ys.drop k).Perm (xs.take (j + 1)) := by
  rw [List.take_add_one, hj, Option.toList_some]
  refine List.Perm.trans ?_ (p.append_right [d])
  rw [List.append_assoc, List.singleton_append]
  refine (List.perm_middle).trans ?_
  rw [List.take_append_drop]
  exact List.perm_append_singleton d ys |>.symm

def tf__law_mixed : TDF := fun ds Q => ∃ (xs : List D), ds = [.bag, .lst xs] ∧ xs.length ≤ 100000 ∧ ∀ ys : List D, ys.Perm xs → Q (.lst ys)
theorem ar__law_mixed : ∀ ds Q, tf__law_mixed ds Q → ds.length = 2 := by
  rintro ds Q ⟨_, rfl, _⟩
  rfl
local macro_rules | `(tactic| walk_at "go") => `(tactic| simp only [tf__law_draws, tf__law_pull, tf__law_any, tf_is_number, tf_is_word, tf_is_alphabet, tf__law_alphabet, tf_is_transition, tf_Automaton___init__, tf_Automaton_transitions, tf_Automaton___eq__, tf__law_mixed, fn_alphabet_size, fn_alphabet_initial, fn_alphabet_own_moves, fn_size_alphabet, fn_size_initial, fn_size_own_moves, fn_initial_alphabet, fn_initial_size, fn_initial_own_moves, fn_own_moves_alphabet, fn_own_moves_size, fn_own_moves_initial, ati0, ati1, ati2, ati3, dLRg, dM1, rEndsD, rSplitD, rStartsD, rLeTD, dsNil, dsSeq, dsDrop, dsRet, dsRetF, dsRetN, dsRetO, dsIf, dsSet, dsOwn, dsFrz, dsPar, dsMul, setK, dkE, dkF, dkNil, rLenSet, rSortD, rMaxD, dFnK, dsAug, augD, dsApp, dsAsg, dsFor, dsBreak, dsCont, dgName, dgTup, dgCons, dgNil, dVar, dPeek, dC, d1, d2, d3, dAnd, dOr, dNot, dTest, dTestB, truD, dtAnd, dtOr, dtNot, dIf, dLst, dTup, dCall, dFn, daCons, daNil, rAddD, rMulD, rMulF, rII, rEqDD, rNeDD, rOrdD, rInDD, rIxD, rSlD, dSl, dSlF, doSome, doNone, rLenD, rIntD, rMM, rAllD, rListD, rTupD, rStrI, rIsiD, rIsiLT, rNegD, dJoin, rJoinD, diSeq, diRng1, diRng2, diEnum, diZip, itemsD, dLc, lcF, dtsNil, dLc2, lcF2, Sl.dat, tyN, isNon, knownD, isIntD, isBoolD, isStrD, isListD, isTupD, isSeqD,
  List.getElem?_cons_succ, List.getElem?_cons_zero, List.set_cons_succ, List.set_cons_zero, List.cons_append, List.nil_append, List.append_nil, List.replicate_succ, List.replicate_zero, List.length_cons, List.length_nil, Nat.reduceAdd, Nat.reduceSub, Int.reduceToNat, Int.reducePow, wipeS, List.map_cons, List.map_nil, Option.bind_some, Option.some.injEq, D.int.injEq, D.bl.injEq, D.str.injEq, D.lst.injEq, D.tup.injEq, Sl.val.injEq, Sl.own.injEq, List.cons.injEq, and_true, true_and, ex_eq, exists_eq_left, exists_eq_left', exists_eq, exists_eq', and_assoc, exists_and_left, if_true, if_false, ite_true, ite_false, Bool.false_eq_true, Bool.not_true, Bool.not_false, reduceCtorEq, ↓reduceIte, Option.isSome_some, Option.isSome_none, false_and, and_false, exists_false, D.ins.injEq, D.raw.injEq, V.ref.injEq, eq_self, dFld, dsFld, dMeth, dOp2, dRadd, dGet, dEqI, rIsiC, rIsiX, dFmt, dFmtR, dJoined, dJs, dOwn1, rStrO, rLenO, rReprS, rListS, dSS, rSS, dEqX, dNeX, okOther, dsDput, dGetR, dInR, dsFrzL, dLk, diKeys, dDc, dcF, dDc2, dcF2, dsIns, rEqDic, rLenDic, D.dic.injEq, id, getF, putN, putV, permL_cons, permL_nil, Option.toList_some, iteAnd, iteOr, wpFor, wpMap])
theorem ok__law_mixed (T : Txt K mg a) : FnOk P w K mg base CX0 2 a.f__law_mixed a.fd__law_mixed ["_law_bag", "_law_rows_here"] (spF 2 tf__law_mixed) := by
  refine ok_F T.F__law_mixed sc__law_mixed rfl (fun cdv A outer s H E hr => ⟨_, (ds_cons (ds_own (i := 2) sc__law_mixed.nd rfl (Or.inl rfl) (df_lst da_nil))
      (ds_cons (ds_for (di_seq (de_var (pv 1))) (dg_name (i := 3) sc__law_mixed.nd rfl (Or.inl rfl)) (ds_one (ds_ins (pv 2) (da_cons (de_fn (ok__law_pull T) (hr.mono (by first | decide | omega)) T.g__law_pull (k__law_pull T) (b0__law_pull T) (fun _ _ _ => .nil) (da_cons (de_var (pv 0)) (da_cons (de_add (PE.toP (de_len T.n_len (dap_cons (dp_var (pv 2)) dap_nil))) (PE.toP (de_int))) da_nil)) ar__law_pull) (da_cons (de_var (pv 3)) da_nil)))))
      (ds_one (ds_retO (pv 2))))), fun ds Qd hd h => ?_⟩)
  obtain ⟨xs, rfl, h⟩ := h
  simp only [List.map_cons, List.map_nil]

  obtain ⟨hl, h⟩ := h
  refine seq_cut fun R hR => ?_
  walk_at "go"
  refine ⟨by decide, ?_⟩
  subst hR
  refine seq_cut fun R hR => ?_
  walk_at "go"
  refine wpFor_inv (fun j S => ∃ c3 ys, ys.Perm (xs.take j) ∧ S = [.val .bag, .val (.lst xs), .own (.lst ys), c3]) 0 ⟨_, _, by simp, rfl⟩ (fun j d S De' hj hI hnx _ _ _ _ => ?_) (fun S hI => ?_)
  · obtain ⟨c3, ys, p, rfl⟩ := hI
    have hy : ys.length ≤ 100000 := by rw [p.length_eq, List.length_take]; omega
    walk_at "go"
    refine ⟨by omega, by omega, fun n n0 n1 => ⟨by omega, by omega, by show _ < 16777216; omega, hnx _ ⟨_, _, ?_, rfl⟩⟩⟩
    have e0 : 0 + j = j := Nat.zero_add j
    rw [e0] at p ⊢
    exact ins_perm p hj _
  · obtain ⟨c3, ys, p, rfl⟩ := hI
    rw [Nat.zero_add, List.take_length] at p
    show R _
    subst hR
    walk_at "go"
    exact h ys p
/-! ### _law_rows -/
def tf__law_rows : TDF := fun ds Q => ∃ (al : List Nat) (n : Nat) (g : Bool) (sf : Int), ds = [.bag, .str al, .int n, .bl g, .int sf] ∧ (isAlphaD (.str al) = true ∧ n ≤ 65 ∧ 0 < sf ∧ sf < 1073741824) ∧ ∀ rs : List Row, Part n g (keysA al n) rs → Q (.lst (rs.map rowD))
theorem ar__law_rows : ∀ ds Q, tf__law_rows ds Q → ds.length = 5 := by
  rintro ds Q ⟨_, _, _, _, rfl, _⟩
  rfl
local macro_rules | `(tactic| walk_at "go") => `(tactic| simp only [tf__law_draws, tf__law_pull, tf__law_any, tf_is_number, tf_is_word, tf_is_alphabet, tf__law_alphabet, tf_is_transition, tf_Automaton___init__, tf_Automaton_transitions, tf_Automaton___eq__, tf__law_mixed, tf__law_rows, fn_alphabet_size, fn_alphabet_initial, fn_alphabet_own_moves, fn_size_alphabet, fn_size_initial, fn_size_own_moves, fn_initial_alphabet, fn_initial_size, fn_initial_own_moves, fn_own_moves_alphabet, fn_own_moves_size, fn_own_moves_initial, ati0, ati1, ati2, ati3, dLRg, dM1, rEndsD, rSplitD, rStartsD, rLeTD, dsNil, dsSeq, dsDrop, dsRet, dsRetF, dsRetN, dsRetO, dsIf, dsSet, dsOwn, dsFrz, dsPar, dsMul, setK, dkE, dkF, dkNil, rLenSet, rSortD, rMaxD, dFnK, dsAug, augD, dsApp, dsAsg, dsFor, dsBreak, dsCont, dgName, dgTup, dgCons, dgNil, dVar, dPeek, dC, d1, d2, d3, dAnd, dOr, dNot, dTest, dTestB, truD, dtAnd, dtOr, dtNot, dIf, dLst, dTup, dCall, dFn, daCons, daNil, rAddD, rMulD, rMulF, rII, rEqDD, rNeDD, rOrdD, rInDD, rIxD, rSlD, dSl, dSlF, doSome, doNone, rLenD, rIntD, rMM, rAllD, rListD, rTupD, rStrI, rIsiD, rIsiLT, rNegD, dJoin, rJoinD, diSeq, diRng1, diRng2, diEnum, diZip, itemsD, dLc, lcF, dtsNil, dLc2, lcF2, Sl.dat, tyN, isNon, knownD, isIntD, isBoolD, isStrD, isListD, isTupD, isSeqD,
  List.getElem?_cons_succ, List.getElem?_cons_zero, List.set_cons_succ, List.set_cons_zero, List.cons_append, List.nil_append, List.append_nil, List.replicate_succ, List.replicate_zero, List.length_cons, List.length_nil, Nat.reduceAdd, Nat.reduceSub, Int.reduceToNat, Int.reducePow, wipeS, List.map_cons, List.map_nil, Option.bind_some, Option.some.injEq, D.int.injEq, D.bl.injEq, D.str.injEq, D.lst.injEq, D.tup.injEq, Sl.val.injEq, Sl.own.injEq, List.cons.injEq, and_true, true_and, ex_eq, exists_eq_left, exists_eq_left', exists_eq, exists_eq', and_assoc, exists_and_left, if_true, if_false, ite_true, ite_false, Bool.false_eq_true, Bool.not_true, Bool.not_false, reduceCtorEq, ↓reduceIte, Option.isSome_some, Option.isSome_none, false_and, and_false, exists_false, D.ins.injEq, D.raw.injEq, V.ref.injEq, eq_self, dFld, dsFld, dMeth, dOp2, dRadd, dGet, dEqI, rIsiC, rIsiX, dFmt, dFmtR, dJoined, dJs, dOwn1, rStrO, rLenO, rReprS, rListS, dSS, rSS, dEqX, dNeX, okOther, dsDput, dGetR, dInR, dsFrzL, dLk, diKeys, dDc, dcF, dDc2, dcF2, dsIns, rEqDic, rLenDic, D.dic.injEq, id, getF, putN, putV, permL_cons, permL_nil, Option.toList_some, iteAnd, iteOr, wpFor, wpMap])
theorem ok__law_rows (T : Txt K mg a) : FnOk P w K mg base CX0 3 a.f__law_rows a.fd__law_rows ["_law_bag", "_law_alphabet_here", "_law_size", "_law_guesses", "_law_safe"] (spE 5 tf__law_rows) := by
  refine ok_E T.F__law_rows sc__law_rows rfl (fun cdv A outer s H E hr => ⟨_, (ds_cons (ds_set (i := 5) sc__law_rows.nd rfl (Or.inl rfl) (PE.toE (df_lst da_nil)))
      (ds_cons (ds_for (di_range1 T.n_range (dap_cons (dp_var (pv 2)) dap_nil)) (dg_name (i := 6) sc__law_rows.nd rfl (Or.inr rfl)) (ds_one (ds_for (di_seq (de_var (pv 1))) (dg_name (i := 7) sc__law_rows.nd rfl (Or.inr rfl)) (ds_cons (ds_set (i := 8) sc__law_rows.nd rfl (Or.inl rfl) (de_add (PE.toP (de_int)) (PE.toP (de_if (dt_val (dp_var (pv 3))) (de_mul (PE.toP (de_fn (ok__law_pull T) (hr.mono (by first | decide | omega)) T.g__law_pull (k__law_pull T) (b0__law_pull T) (fun _ _ _ => .nil) (da_cons (de_var (pv 0)) (da_cons (de_int) da_nil)) ar__law_pull)) (PE.toP (de_fn (ok__law_pull T) (hr.mono (by first | decide | omega)) T.g__law_pull (k__law_pull T) (b0__law_pull T) (fun _ _ _ => .nil) (da_cons (de_var (pv 0)) (da_cons (de_int) da_nil)) ar__law_pull))) (de_int)))))
      (ds_cons (ds_set (i := 9) sc__law_rows.nd rfl (Or.inl rfl) (de_slice (PE.toP (PE.toE (df_fn (ok__law_mixed T) (hr.mono (by first | decide | omega)) T.g__law_mixed (k__law_mixed T) (b0__law_mixed T) (fun _ _ _ => .nil) (da_cons (de_var (pv 0)) (da_cons (PE.toE (df_listRange T.n_list T.n_range (dp_var (pv 2)))) da_nil)) ar__law_mixed))) do_none (do_some (dp_var (pv 8)))))
      (ds_one (ds_set (i := 5) sc__law_rows.nd rfl (Or.inl rfl) (de_add (dp_var (pv 5)) (PE.toP (PE.toE (df_lc (own := [("_law_goal", 10)]) (di_seq (de_var (pv 9))) sc__law_rows.nd (blkOk_by (own := [("_law_goal", 10)]) (N := N__law_rows) (sc := defScope s__law_rows) (by decide +kernel)) (fun _ _ _ _ _ => (dg_name (i := 10) sc__law_rows.nd rfl (Or.inl rfl))) (fun _ _ _ _ _ => dts_nil) (fun _ _ _ _ _ => (de_tup (da_cons (de_var (pv 6)) (da_cons (de_var (pv 7)) (da_cons (de_var (pv 10)) (da_cons (de_if (dt_eq hr.units (PE.toP (de_fn (ok__law_pull T) (hr.mono (by first | decide | omega)) T.g__law_pull (k__law_pull T) (b0__law_pull T) (fun _ _ _ => .nil) (da_cons (de_var (pv 0)) (da_cons (de_var (pv 4)) da_nil)) ar__law_pull)) (PE.toP (de_int))) (de_str) (de_str)) da_nil)))))))))))))))))
      (ds_one (ds_ret (de_var (pv 5)))))), fun ds Qd hd h => ?_⟩)
  obtain ⟨al, n, g, sf, rfl, h⟩ := h
  simp only [List.map_cons, List.map_nil]

  obtain ⟨⟨ha, hn, s0, s1⟩, h⟩ := h
  have h3 := alpha_len ha
  have hL : al.length ≤ sizeLine := by show _ ≤ 16777216; omega
  have slip0 : (Str.ofString "slip").cps.toList = wC false := slip_eq
  have safe0 : (Str.ofString "safe").cps.toList = wC true := safe_eq
  refine seq_cut fun R hR => ?_
  walk_at "go"
  refine ⟨by decide, ?_⟩
  subst hR
  refine seq_cut fun R hR => ?_
  refine for_cutG fun G hG => ?_
  walk_at "go"
  refine ⟨by omega, by omega, hG _ ?_⟩
  clear hG G
  refine wpFor_inv (fun j S => ∃ rs c6 c7 c8 c9, Part n g (keysA al j) rs ∧ S = [.val .bag, .val (.str al), .val (.int n), .val (.bl g), .val (.int sf), .val (.lst (rs.map rowD)), c6, c7, c8, c9, .no]) 0 ⟨[], _, _, _, _, by simpa [keysA] using Part.nil, rfl⟩ (fun j d S De' hj hI hnx _ _ _ _ => ?_) (fun S hI => ?_)
  · obtain ⟨rs, c6, c7, c8, c9, hp, rfl⟩ := hI
    have e0 : 0 + j = j := Nat.zero_add j
    rw [e0] at hp hnx
    have hjn : j < n := by
      have := (List.getElem?_eq_some_iff.mp hj).1
      rw [List.length_map, List.length_range] at this
      omega
    obtain rfl : d = .int j := by
      rw [List.getElem?_map, List.getElem?_range (by omega)] at hj
      simpa using hj.symm
    walk_at "tg"
    refine for_cutG fun G hG => ?_
    walk_at "go"
    refine hG _ ?_
    clear hG G
    refine wpFor_inv (fun m S => ∃ rs c7 c8 c9, Part n g (keysA al j ++ (al.take m).map fun l => (j, l)) rs ∧ S = [.val .bag, .val (.str al), .val (.int n), .val (.bl g), .val (.int sf), .val (.lst (rs.map rowD)), .val (.int j), c7, c8, c9, .no]) 0 ⟨rs, _, _, _, by simpa using hp, rfl⟩ (fun m d S De2 hm hI hnx2 _ _ _ _ => ?_) (fun S hI => ?_)
    · clear rs hp
      obtain ⟨rs, c7, c8, c9, hp, rfl⟩ := hI
      have e0 : 0 + m = m := Nat.zero_add m
      rw [e0] at hp hnx2
      rw [List.getElem?_map] at hm
      obtain ⟨l, hm', rfl⟩ := Option.map_eq_some_iff.mp hm
      have hlen : rs.length ≤ 1200 := by
        have h1 := hp.len
        have h2 : (keysA al j ++ (al.take m).map fun l => (j, l)).length ≤ 198 := by
          rw [List.length_append, List.length_map, List.length_take, keysA_len]
          have := Nat.mul_le_mul (show j ≤ 65 by omega) h3
          omega
        omega
      walk_at "tg"
      refine seq_cut fun R2 hR2 => ?_
      have join : ∀ mny : Nat, 1 ≤ mny → mny ≤ 3 → (g = false → mny = 1) → R2 [.val .bag, .val (.str al), .val (.int n), .val (.bl g), .val (.int sf), .val (.lst (rs.map rowD)), .val (.int j), .val (.str [l]), .val (.int mny), c9, .no] := ?_
      · walk_at "go"
        cases g
        · exact join 1 (by decide) (by decide) (fun _ => rfl)
        · refine ⟨by decide, by decide, fun x x0 x1 => ⟨by decide, by decide, fun y y0 y1 => ?_⟩⟩
          have hxy : ∃ z : Nat, x * y = z ∧ z ≤ 2 := by
            have : x = 0 ∨ x = 1 := by omega
            rcases this with rfl | rfl
            · exact ⟨0, by simp, by decide⟩
            · exact ⟨y.toNat, by omega, by omega⟩
          obtain ⟨z, ez, hz⟩ := hxy
          refine ⟨.inl ⟨by omega, by omega⟩, ?_⟩
          rw [ez, show (1 : Int) + (z : Int) = ((1 + z : Nat) : Int) by omega]
          exact join (1 + z) (by omega) (by omega) (fun q => by cases q)
      intro mny m1 m3 md
      subst hR2
      refine seq_cut fun R2 hR2 => ?_
      walk_at "go"
      refine ⟨by omega, by omega, by rw [List.length_map, List.length_range]; omega, fun ys py => ?_⟩
      obtain ⟨L, rfl, pL⟩ := perm_map_ex (f := fun i : Nat => D.int (0 + (i : Int))) py
      rw [cut_take', ← List.map_take]
      subst hR2
      walk_at "go"
      have hnL : L.length = n := by rw [pL.length_eq, List.length_range]; omega
      refine ⟨by rw [List.length_map, List.length_take]; show _ ≤ 16777216; omega, ?_⟩
      refine wpMap_draw (kf := fun i : Nat => D.int (0 + (i : Int))) (fun (t : Nat) (w : Bool) => rowD ⟨j, l, t, w⟩) (fun t _ k q => ⟨s0, s1, fun x x0 x1 => ⟨rfl, rfl, ?_⟩⟩) (fun ws hw => ?_)
      · have := q (!decide (x = 0))
        rw [deqv_int, slip0, safe0, Int.zero_add]
        by_cases hx : x = 0 <;> simp [hx, rowD] at this ⊢ <;> exact ⟨by show 4 ≤ 16777216; decide, this⟩
      · refine ⟨by rw [List.length_map, List.length_zipWith, hw, List.length_take]; show _ ≤ 16777216; omega, hnx2 _ ⟨rs ++ List.zipWith (fun t w => Row.mk j l t w) (L.take mny) ws, .val (.str [l]), .val (.int mny), .val (.lst ((L.take mny).map fun i : Nat => .int (0 + (i : Int)))), ?_, ?_⟩⟩
        · have hlm : l ∈ al := List.mem_of_getElem? hm'
          have nd := alpha_nd ha
          have := hp.step (k := (j, l)) (ts := L.take mny) (ws := ws) ?_ hw ((pL.nodup_iff.mpr List.nodup_range).sublist (List.take_sublist _ _)) (fun t ht => by have := pL.mem_iff.mp (List.mem_of_mem_take ht); rw [List.mem_range] at this; omega) ?_ (by rw [List.length_take]; omega) (fun q => by rw [List.length_take, hnL, md q]; omega)
          · rw [show m + 1 = m + 1 from rfl, List.take_add_one, hm', Option.toList_some, List.map_append, ← List.append_assoc]
            exact this
          · intro hk
            rcases List.mem_append.mp hk with q | q
            · have := (keysA_mem.mp q).1
              simp at this
            · obtain ⟨l', hl', e⟩ := List.mem_map.mp q
              simp only [Prod.mk.injEq, true_and] at e
              subst e
              have := nodup_at (f := fun x : Nat => x) (by simpa using nd) hm'
              exact this (by simpa using hl')
          · intro e
            have := congrArg List.length e
            rw [List.length_take, List.length_nil, hnL] at this
            omega
        · rw [List.map_append, List.map_zipWith]
    · clear rs hp
      obtain ⟨rs, c7, c8, c9, hp, rfl⟩ := hI
      rw [Nat.zero_add, List.length_map, List.take_length, ← keysA_succ] at hp
      exact hnx _ ⟨rs, _, _, _, _, hp, rfl⟩
  · obtain ⟨rs, c6, c7, c8, c9, hp, rfl⟩ := hI
    rw [Nat.zero_add, List.length_map, List.length_range, Int.toNat_natCast] at hp
    show R _
    subst hR
    walk_at "go"
    exact h rs hp
/-! ### _law_spec -/
def specD (al : List Nat) (n : Nat) (rs : List Row) (i : Nat) : D := .lst [.str al, .int n, .lst (rs.map rowD), .int i]

def tf__law_spec : TDF := fun ds Q => ∃ (m : Nat) (g : Bool), ds = [.bag, .int m, .bl g] ∧ (1 ≤ m ∧ m ≤ 65) ∧ ∀ (al : List Nat) (n i : Nat) (rs : List Row), n ≤ m → GoodA al n i rs → Part n g (keysA al n) rs → Q (specD al n rs i)
theorem ar__law_spec : ∀ ds Q, tf__law_spec ds Q → ds.length = 3 := by
  rintro ds Q ⟨_, _, rfl, _⟩
  rfl
local macro_rules | `(tactic| walk_at "go") => `(tactic| simp only [tf__law_draws, tf__law_pull, tf__law_any, tf_is_number, tf_is_word, tf_is_alphabet, tf__law_alphabet, tf_is_transition, tf_Automaton___init__, tf_Automaton_transitions, tf_Automaton___eq__, tf__law_mixed, tf__law_rows, tf__law_spec, fn_alphabet_size, fn_alphabet_initial, fn_alphabet_own_moves, fn_size_alphabet, fn_size_initial, fn_size_own_moves, fn_initial_alphabet, fn_initial_size, fn_initial_own_moves, fn_own_moves_alphabet, fn_own_moves_size, fn_own_moves_initial, ati0, ati1, ati2, ati3, dLRg, dM1, rEndsD, rSplitD, rStartsD, rLeTD, dsNil, dsSeq, dsDrop, dsRet, dsRetF, dsRetN, dsRetO, dsIf, dsSet, dsOwn, dsFrz, dsPar, dsMul, setK, dkE, dkF, dkNil, rLenSet, rSortD, rMaxD, dFnK, dsAug, augD, dsApp, dsAsg, dsFor, dsBreak, dsCont, dgName, dgTup, dgCons, dgNil, dVar, dPeek, dC, d1, d2, d3, dAnd, dOr, dNot, dTest, dTestB, truD, dtAnd, dtOr, dtNot, dIf, dLst, dTup, dCall, dFn, daCons, daNil, rAddD, rMulD, rMulF, rII, rEqDD, rNeDD, rOrdD, rInDD, rIxD, rSlD, dSl, dSlF, doSome, doNone, rLenD, rIntD, rMM, rAllD, rListD, rTupD, rStrI, rIsiD, rIsiLT, rNegD, dJoin, rJoinD, diSeq, diRng1, diRng2, diEnum, diZip, itemsD, dLc, lcF, dtsNil, dLc2, lcF2, Sl.dat, tyN, isNon, knownD, isIntD, isBoolD, isStrD, isListD, isTupD, isSeqD,
  List.getElem?_cons_succ, List.getElem?_cons_zero, List.set_cons_succ, List.set_cons_zero, List.cons_append, List.nil_append, List.append_nil, List.replicate_succ, List.replicate_zero, List.length_cons, List.length_nil, Nat.reduceAdd, Nat.reduceSub, Int.reduceToNat, Int.reducePow, wipeS, List.map_cons, List.map_nil, Option.bind_some, Option.some.injEq, D.int.injEq, D.bl.injEq, D.str.injEq, D.lst.injEq, D.tup.injEq, Sl.val.injEq, Sl.own.injEq, List.cons.injEq, and_true, true_and, ex_eq, exists_eq_left, exists_eq_left', exists_eq, exists_eq', and_assoc, exists_and_left, if_true, if_false, ite_true, ite_false, Bool.false_eq_true, Bool.not_true, Bool.not_false, reduceCtorEq, ↓reduceIte, Option.isSome_some, Option.isSome_none, false_and, and_false, exists_false, D.ins.injEq, D.raw.injEq, V.ref.injEq, eq_self, dFld, dsFld, dMeth, dOp2, dRadd, dGet, dEqI, rIsiC, rIsiX, dFmt, dFmtR, dJoined, dJs, dOwn1, rStrO, rLenO, rReprS, rListS, dSS, rSS, dEqX, dNeX, okOther, dsDput, dGetR, dInR, dsFrzL, dLk, diKeys, dDc, dcF, dDc2, dcF2, dsIns, rEqDic, rLenDic, D.dic.injEq, id, getF, putN, putV, permL_cons, permL_nil, Option.toList_some, iteAnd, iteOr, wpFor, wpMap])
theorem ok__law_spec (T : Txt K mg a) : FnOk P w K mg base CX0 4 a.f__law_spec a.fd__law_spec ["_law_bag", "_law_most", "_law_guesses"] (spF 3 tf__law_spec) := by
  refine ok_F T.F__law_spec sc__law_spec rfl (fun cdv A outer s H E hr => ⟨_, (ds_cons (ds_set (i := 3) sc__law_spec.nd rfl (Or.inl rfl) (de_fn (ok__law_alphabet T) (hr.mono (by first | decide | omega)) T.g__law_alphabet (k__law_alphabet T) (b0__law_alphabet T) (fun _ _ _ => .nil) (da_cons (de_var (pv 0)) (da_cons (de_int) da_nil)) ar__law_alphabet))
      (ds_cons (ds_set (i := 4) sc__law_spec.nd rfl (Or.inl rfl) (de_add (PE.toP (de_int)) (PE.toP (de_fn (ok__law_pull T) (hr.mono (by first | decide | omega)) T.g__law_pull (k__law_pull T) (b0__law_pull T) (fun _ _ _ => .nil) (da_cons (de_var (pv 0)) (da_cons (de_var (pv 1)) da_nil)) ar__law_pull))))
      (ds_cons (ds_set (i := 5) sc__law_spec.nd rfl (Or.inl rfl) (de_fn (ok__law_rows T) (hr.mono (by first | decide | omega)) T.g__law_rows (k__law_rows T) (b0__law_rows T) (fun _ _ _ => .nil) (da_cons (de_var (pv 0)) (da_cons (de_var (pv 3)) (da_cons (de_var (pv 4)) (da_cons (de_var (pv 2)) (da_cons (de_fn (ok__law_any T) (hr.mono (by first | decide | omega)) T.g__law_any (k__law_any T) (b0__law_any T) (fun _ _ _ => .nil) (da_cons (de_var (pv 0)) (da_cons (PE.toE (df_lst (da_cons (de_int) (da_cons (de_int) (da_cons (de_int) (da_cons (de_int) da_nil)))))) da_nil)) ar__law_any) da_nil))))) ar__law_rows))
      (ds_one (ds_retF (df_lst (da_cons (de_var (pv 3)) (da_cons (de_var (pv 4)) (da_cons (PE.toE (df_fn (ok__law_mixed T) (hr.mono (by first | decide | omega)) T.g__law_mixed (k__law_mixed T) (b0__law_mixed T) (fun _ _ _ => .nil) (da_cons (de_var (pv 0)) (da_cons (de_var (pv 5)) da_nil)) ar__law_mixed)) (da_cons (de_fn (ok__law_pull T) (hr.mono (by first | decide | omega)) T.g__law_pull (k__law_pull T) (b0__law_pull T) (fun _ _ _ => .nil) (da_cons (de_var (pv 0)) (da_cons (de_var (pv 4)) da_nil)) ar__law_pull) da_nil)))))))))), fun ds Qd hd h => ?_⟩)
  obtain ⟨m, g, rfl, h⟩ := h
  simp only [List.map_cons, List.map_nil]

  obtain ⟨⟨m1, m2⟩, h⟩ := h
  refine seq_cut fun R hR => ?_
  walk_at "go"
  refine ⟨by decide, by decide, fun al ha hl => ?_⟩
  subst hR
  refine seq_cut fun R hR => ?_
  walk_at "go"
  refine ⟨by omega, by omega, fun k k0 k1 => ?_⟩
  obtain ⟨n, rfl⟩ : ∃ n : Nat, k = (n : Int) - 1 := ⟨(k + 1).toNat, by omega⟩
  rw [show (1 : Int) + ((n : Int) - 1) = n by omega]
  subst hR
  refine seq_cut fun R hR => ?_
  walk_at "go"
  refine ⟨by decide, by decide, by decide, fun d hd => ?_⟩
  have hd' : ∃ sf : Int, d = .int sf ∧ 0 < sf ∧ sf < 1073741824 := by
    simp only [List.mem_cons, List.not_mem_nil, or_false] at hd
    rcases hd with rfl | rfl | rfl | rfl <;> exact ⟨_, rfl, by decide, by decide⟩
  obtain ⟨sf, rfl, f0, f1⟩ := hd'
  refine ⟨n, rfl, sf, rfl, ha, by omega, f0, f1, fun rs hp => ?_⟩
  subst hR
  walk_at "go"
  have hk : (keysA al n).length ≤ 195 := by rw [keysA_len]; have := Nat.mul_le_mul (show n ≤ 65 by omega) (show al.length ≤ 3 by omega); omega
  have hpl := hp.len
  refine ⟨by rw [List.length_map]; omega, fun ys py => ?_⟩
  obtain ⟨rs', rfl, p'⟩ := perm_map_ex py
  have hp' := hp.perm p'
  refine ⟨by omega, by omega, fun i i0 i1 => ⟨by decide, ?_⟩⟩
  obtain ⟨i, rfl⟩ : ∃ j : Nat, i = j := ⟨i.toNat, by omega⟩
  exact h al n i rs' (by omega) (hp'.good ha (by omega) (by omega) (by omega)) hp'
/-! ### _law_made -/
def tf__law_made (a : Adr) : TDF := fun ds Q => ∃ (al : List Nat) (n : Nat) (rs : List Row) (i : Nat), ds = [specD al n rs i] ∧ GoodA al n i rs ∧ Q (autD a.C_Automaton al n i rs)
theorem ar__law_made {a : Adr} : ∀ ds Q, tf__law_made a ds Q → ds.length = 1 := by
  rintro ds Q ⟨_, _, _, _, rfl, _⟩
  rfl
local macro_rules | `(tactic| walk_at "go") => `(tactic| simp only [tf__law_draws, tf__law_pull, tf__law_any, tf_is_number, tf_is_word, tf_is_alphabet, tf__law_alphabet, tf_is_transition, tf_Automaton___init__, tf_Automaton_transitions, tf_Automaton___eq__, tf__law_mixed, tf__law_rows, tf__law_spec, tf__law_made, fn_alphabet_size, fn_alphabet_initial, fn_alphabet_own_moves, fn_size_alphabet, fn_size_initial, fn_size_own_moves, fn_initial_alphabet, fn_initial_size, fn_initial_own_moves, fn_own_moves_alphabet, fn_own_moves_size, fn_own_moves_initial, ati0, ati1, ati2, ati3, dLRg, dM1, rEndsD, rSplitD, rStartsD, rLeTD, dsNil, dsSeq, dsDrop, dsRet, dsRetF, dsRetN, dsRetO, dsIf, dsSet, dsOwn, dsFrz, dsPar, dsMul, setK, dkE, dkF, dkNil, rLenSet, rSortD, rMaxD, dFnK, dsAug, augD, dsApp, dsAsg, dsFor, dsBreak, dsCont, dgName, dgTup, dgCons, dgNil, dVar, dPeek, dC, d1, d2, d3, dAnd, dOr, dNot, dTest, dTestB, truD, dtAnd, dtOr, dtNot, dIf, dLst, dTup, dCall, dFn, daCons, daNil, rAddD, rMulD, rMulF, rII, rEqDD, rNeDD, rOrdD, rInDD, rIxD, rSlD, dSl, dSlF, doSome, doNone, rLenD, rIntD, rMM, rAllD, rListD, rTupD, rStrI, rIsiD, rIsiLT, rNegD, dJoin, rJoinD, diSeq, diRng1, diRng2, diEnum, diZip, itemsD, dLc, lcF, dtsNil, dLc2, lcF2, Sl.dat, tyN, isNon, knownD, isIntD, isBoolD, isStrD, isListD, isTupD, isSeqD,
  List.getElem?_cons_succ, List.getElem?_cons_zero, List.set_cons_succ, List.set_cons_zero, List.cons_append, List.nil_append, List.append_nil, List.replicate_succ, List.replicate_zero, List.length_cons, List.length_nil, Nat.reduceAdd, Nat.reduceSub, Int.reduceToNat, Int.reducePow, wipeS, List.map_cons, List.map_nil, Option.bind_some, Option.some.injEq, D.int.injEq, D.bl.injEq, D.str.injEq, D.lst.injEq, D.tup.injEq, Sl.val.injEq, Sl.own.injEq, List.cons.injEq, and_true, true_and, ex_eq, exists_eq_left, exists_eq_left', exists_eq, exists_eq', and_assoc, exists_and_left, if_true, if_false, ite_true, ite_false, Bool.false_eq_true, Bool.not_true, Bool.not_false, reduceCtorEq, ↓reduceIte, Option.isSome_some, Option.isSome_none, false_and, and_false, exists_false, D.ins.injEq, D.raw.injEq, V.ref.injEq, eq_self, dFld, dsFld, dMeth, dOp2, dRadd, dGet, dEqI, rIsiC, rIsiX, dFmt, dFmtR, dJoined, dJs, dOwn1, rStrO, rLenO, rReprS, rListS, dSS, rSS, dEqX, dNeX, okOther, dsDput, dGetR, dInR, dsFrzL, dLk, diKeys, dDc, dcF, dDc2, dcF2, dsIns, rEqDic, rLenDic, D.dic.injEq, id, getF, putN, putV, permL_cons, permL_nil, Option.toList_some, iteAnd, iteOr, wpFor, wpMap])
theorem ok__law_made (T : Txt K mg a) : FnOk P w K mg base CX0 5 a.f__law_made a.fd__law_made ["_law_spec_here"] (spF 1 (tf__law_made a)) := by
  refine ok_F T.F__law_made sc__law_made rfl (fun cdv A outer s H E hr => ⟨_, (ds_one (ds_retF (df_makeK (perm := [0, 1, 2, 3]) T.mk_Automaton (ok_Automaton___init__ T) (hr.mono (by first | decide | omega)) T.g_Automaton (kb0_Automaton___init__ T) (da_cons (de_item (dp_var (pv 0)) (PE.toP (de_int))) (da_cons (de_item (dp_var (pv 0)) (PE.toP (de_int))) (da_cons (PE.toE (df_listc T.n_list (dap_cons (PE.toP (de_item (dp_var (pv 0)) (PE.toP (de_int)))) dap_nil))) da_nil))) (dw_cons (de_item (dp_var (pv 0)) (PE.toP (de_int))) dw_nil) ar_Automaton___init__))), fun ds Qd hd h => ?_⟩)
  obtain ⟨al, n, rs, i, rfl, h⟩ := h
  simp only [List.map_cons, List.map_nil]

  obtain ⟨hg, h⟩ := h
  unfold specD
  walk_at "go"
  exact ⟨n, rfl, rs, rfl, i, rfl, hg, h⟩
/-! ### is_count -/
def Asc (s : List Nat) : Prop := ∀ c ∈ s, c < 128
theorem ascii_ok {s : List Nat} (h : Asc s) : okD (.str s) = true := by
  unfold okD
  rw [Bool.and_eq_true]
  refine ⟨?_, rfl⟩
  simp only [plainD, List.all_eq_true, decide_eq_true_eq]
  intro c hc
  have := h c hc
  omega
theorem Asc.app {s t : List Nat} (h : Asc s) (k : Asc t) : Asc (s ++ t) := fun c hc => (List.mem_append.mp hc).elim (h c) (k c)
theorem LowS.asc {s : List Nat} (h : LowS s) : Asc s := fun c hc => by have := lowL_iff.mp (h c hc); omega
def digB (c : Nat) : Bool := decide (48 ≤ c) && decide (c ≤ 57)
/-- a number of one or two figures, written without needless zeros -/
def numOf : List Nat → Nat
  | [a] => a - 48
  | [a, b] => 10 * (a - 48) + (b - 48)
  | _ => 0
def okDig : List Nat → Bool
  | [a] => digB a
  | [a, b] => digB a && digB b && decide (a ≠ 48)
  | _ => false
def isCnt (w : List Nat) (m : Int) : Bool := okDig w && decide (((numOf w : Nat) : Int) ≤ m)
def headV (l w : List Nat) : List Nat := if l.take (w.length + 1) = w ++ [32] then l.drop (w.length + 1) else []
def rowW (al : List Nat) (n : Int) : List (List Nat) → D
  | [x, y, z, w] => if isCnt x (n - 1) && isCnt z (n - 1) && decide (y.length = 1) && inStr y al && (decide (w = wC true) || decide (w = wC false)) then .tup [.int (numOf x), .str y, .int (numOf z), .str w] else .non
  | _ => .non
def rowOf (l al : List Nat) (n : Int) : D := rowW al n (splitL 32 [] l)
theorem rowW_eq (al : List Nat) (n : Int) (x y z w : List Nat) : rowW al n [x, y, z, w] = if isCnt x (n - 1) && isCnt z (n - 1) && decide (y.length = 1) && inStr y al && (decide (w = wC true) || decide (w = wC false)) then .tup [.int (numOf x), .str y, .int (numOf z), .str w] else .non := rfl
theorem rowW_len (al : List Nat) (n : Int) {ws : List (List Nat)} (h : ws.length ≠ 4) : rowW al n ws = .non := by
  match ws, h with
  | [], _ => rfl
  | [_], _ => rfl
  | [_, _], _ => rfl
  | [_, _, _], _ => rfl
  | [_, _, _, _], h => exact absurd rfl h
  | _ :: _ :: _ :: _ :: _ :: _, _ => rfl
def lineR (r : Row) : List Nat := decOf r.s ++ [32] ++ [r.l] ++ [32] ++ decOf r.t ++ [32] ++ wC r.w
def wAl : List Nat := [97, 108, 112, 104, 97, 98, 101, 116]
def wSt : List Nat := [115, 116, 97, 116, 101, 115]
def wIn : List Nat := [105, 110, 105, 116, 105, 97, 108]
def linesA (al : List Nat) (n i : Nat) (L : List Row) : List (List Nat) := [wAl ++ [32] ++ al, wSt ++ [32] ++ decOf n, wIn ++ [32] ++ decOf i] ++ L.map lineR
def textOf (ls : List (List Nat)) : List Nat := ls.flatMap (· ++ [10])
def textA (al : List Nat) (n i : Nat) (L : List Row) : List Nat := textOf (linesA al n i L)
def sortR (rs : List Row) : List Row := rs.mergeSort fun a b => dle (rowD a) (rowD b)
def ltR (a b : Row) : Prop := a.s < b.s ∨ (a.s = b.s ∧ (a.l < b.l ∨ (a.l = b.l ∧ a.t < b.t)))
def StrictR (L : List Row) : Prop := L.Pairwise ltR
theorem sig_eq : (Str.ofString "0123456789").cps.toList = [48, 49, 50, 51, 52, 53, 54, 55, 56, 57] := by decide +kernel
theorem sig_mem (c : Nat) : decide (c ∈ [48, 49, 50, 51, 52, 53, 54, 55, 56, 57]) = digB c := by
  unfold digB
  rw [Bool.eq_iff_iff]
  simp only [decide_eq_true_iff, Bool.and_eq_true, List.mem_cons, List.not_mem_nil, or_false]
  omega
theorem dig_ex {c : Nat} (h : digB c = true) : ∃ k : Fin 10, c = 48 + k.1 := by
  unfold digB at h
  simp only [decide_eq_true_iff, Bool.and_eq_true] at h
  exact ⟨⟨c - 48, by omega⟩, by show c = 48 + (c - 48); omega⟩
theorem int_one {c : Nat} (h : digB c = true) : PySem.intText? (S2 [c]) = some (numOf [c] : Nat) ∧ decOf (numOf [c] : Nat) = [c] := by
  obtain ⟨k, rfl⟩ := dig_ex h
  have key : ∀ k : Fin 10, PySem.intText? (S2 [48 + k.1]) = some (numOf [48 + k.1] : Nat) ∧ decOf (numOf [48 + k.1] : Nat) = [48 + k.1] := by decide +kernel
  exact key k
theorem int_two {a b : Nat} (h : digB a = true) (h' : digB b = true) : PySem.intText? (S2 [a, b]) = some (numOf [a, b] : Nat) ∧ decide (decOf (numOf [a, b] : Nat) = [a, b]) = decide (a ≠ 48) := by
  obtain ⟨k, rfl⟩ := dig_ex h
  obtain ⟨j, rfl⟩ := dig_ex h'
  have key : ∀ k j : Fin 10, PySem.intText? (S2 [48 + k.1, 48 + j.1]) = some (numOf [48 + k.1, 48 + j.1] : Nat) ∧ decide (decOf (numOf [48 + k.1, 48 + j.1] : Nat) = [48 + k.1, 48 + j.1]) = decide (48 + k.1 ≠ 48) := by decide +kernel
  exact key k j
theorem dec_ok {k : Nat} (h : k ≤ 99) : okDig (decOf (k : Int)) = true ∧ numOf (decOf (k : Int)) = k ∧ (decOf (k : Int)).length ≤ 2 ∧ ∀ c ∈ decOf (k : Int), 48 ≤ c ∧ c ≤ 57 := by
  have key : ∀ k : Fin 100, okDig (decOf (k.1 : Int)) = true ∧ numOf (decOf (k.1 : Int)) = k.1 ∧ (decOf (k.1 : Int)).length ≤ 2 ∧ ∀ c ∈ decOf (k.1 : Int), 48 ≤ c ∧ c ≤ 57 := by decide +kernel
  exact key ⟨k, by omega⟩
theorem cnt_dec {k : Nat} (h : k ≤ 99) {m : Int} (hm : (k : Int) ≤ m) : isCnt (decOf (k : Int)) m = true := by
  obtain ⟨h1, h2, _⟩ := dec_ok h
  unfold isCnt
  rw [h1, h2, decide_eq_true hm]
  rfl
theorem head_ok (w r : List Nat) : headV (w ++ [32] ++ r) w = r := by
  unfold headV
  have e : w.length + 1 = (w ++ [32]).length := by simp
  rw [e, List.take_left, if_pos rfl, List.drop_left]
theorem split_line {r : Row} {n : Nat} {al : List Nat} (hn : n ≤ 99) (hs : r.s < n) (ht : r.t < n) (hl : r.l ∈ al) (low : LowS al) : splitL 32 [] (lineR r) = [decOf r.s, [r.l], decOf r.t, wC r.w] := by
  have d1 := (dec_ok (k := r.s) (by omega)).2.2.2
  have d2 := (dec_ok (k := r.t) (by omega)).2.2.2
  have l1 := lowL_iff.mp (low r.l hl)
  unfold lineR
  have e : decOf (r.s : Int) ++ [32] ++ [r.l] ++ [32] ++ decOf (r.t : Int) ++ [32] ++ wC r.w = decOf (r.s : Int) ++ 32 :: ([r.l] ++ 32 :: (decOf (r.t : Int) ++ 32 :: wC r.w)) := by simp
  rw [e, splitL_app _ _ _ _ (fun q => by have := d1 _ q; omega), splitL_app _ _ _ _ (fun q => by simp at q; omega), splitL_app _ _ _ _ (fun q => by have := d2 _ q; omega), splitL_none _ _ _ (by cases r.w <;> decide)]
  simp
theorem row_line {r : Row} {n : Nat} {al : List Nat} (hn : n ≤ 99) (hs : r.s < n) (ht : r.t < n) (hl : r.l ∈ al) (low : LowS al) : rowOf (lineR r) al n = rowD r := by
  unfold rowOf
  rw [split_line hn hs ht hl low, rowW_eq]
  have c1 := cnt_dec (k := r.s) (by omega) (m := (n : Int) - 1) (by omega)
  have c2 := cnt_dec (k := r.t) (by omega) (m := (n : Int) - 1) (by omega)
  have n1 := (dec_ok (k := r.s) (by omega)).2.1
  have n2 := (dec_ok (k := r.t) (by omega)).2.1
  have w1 : (decide (wC r.w = wC true) || decide (wC r.w = wC false)) = true := by cases r.w <;> decide
  rw [c1, c2, w1, inStr_mem, decide_eq_true hl, n1, n2]
  rfl
theorem line_len {r : Row} {n : Nat} (hn : n ≤ 99) (hs : r.s < n) (ht : r.t < n) : (lineR r).length ≤ 12 := by
  have d1 := (dec_ok (k := r.s) (by omega)).2.2.1
  have d2 := (dec_ok (k := r.t) (by omega)).2.2.1
  have w1 : (wC r.w).length = 4 := by cases r.w <;> rfl
  unfold lineR
  simp only [List.length_append, List.length_cons, List.length_nil]
  omega
theorem text_cons (x : List Nat) (ls : List (List Nat)) : textOf (x :: ls) = x ++ 10 :: textOf ls := by
  unfold textOf
  rw [List.flatMap_cons, List.append_assoc]
  rfl
theorem text_join : ∀ ls : List (List Nat), textOf ls = joinL [] (ls.map (· ++ [10]))
  | [] => rfl
  | [x] => by simp [textOf, joinL]
  | x :: y :: r => by
    have := text_join (y :: r)
    rw [text_cons, this]
    simp [joinL]
theorem cut_last (l : List Nat) : cut l none (some (-1)) = l.dropLast := by
  cases h : l.length with
  | zero =>
    have : l = [] := List.length_eq_zero_iff.mp h
    subst this
    rfl
  | succ k =>
    have e0 : HT.sIx l.length 0 none = 0 := rfl
    have e : HT.sIx l.length l.length (some (-1)) = l.length - 1 := by
      unfold HT.sIx
      simp
      omega
    unfold cut
    rw [e0, e, List.dropLast_eq_take]
    simp
theorem text_drop : ∀ {ls : List (List Nat)}, ls ≠ [] → (∀ l ∈ ls, 10 ∉ l) → splitL 10 [] (textOf ls).dropLast = ls
  | [], h, _ => absurd rfl h
  | [x], _, h => by
    have e : textOf [x] = x ++ [10] := by simp [textOf]
    rw [e, List.dropLast_concat, splitL_none _ _ _ (h x (by simp))]
    rfl
  | x :: y :: r, _, h => by
    have ih := text_drop (ls := y :: r) (by simp) fun l hl => h l (by simp [hl])
    have hne : textOf (y :: r) ≠ [] := by rw [text_cons]; simp
    rw [text_cons, show x ++ 10 :: textOf (y :: r) = x ++ ([10] ++ textOf (y :: r)) from rfl, List.dropLast_append_of_ne_nil (by simp), List.dropLast_append_of_ne_nil hne]
    rw [show x ++ ([10] ++ (textOf (y :: r)).dropLast) = x ++ 10 :: (textOf (y :: r)).dropLast from rfl, splitL_app _ _ _ _ (h x (by simp)), ih]
    rfl
theorem text_last : ∀ {ls : List (List Nat)}, ls ≠ [] → (textOf ls).getLast? = some 10
  | [], h => absurd rfl h
  | [x], _ => by simp [textOf]
  | x :: y :: r, _ => by
    have ih := text_last (ls := y :: r) (by simp)
    rw [text_cons, show x ++ 10 :: textOf (y :: r) = (x ++ [10]) ++ textOf (y :: r) by simp, List.getLast?_append, ih]
    rfl
theorem lines_no {al : List Nat} {n i : Nat} {L : List Row} (hg : GoodA al n i L) : ∀ l ∈ linesA al n i L, 10 ∉ l := by
  have h2 := hg.hi
  have h3 := hg.ini
  have low := alpha_lowS hg.alp
  have lal : 10 ∉ al := fun q => by have := lowL_iff.mp (low _ q); omega
  have dk : ∀ k : Nat, k ≤ 99 → 10 ∉ decOf (k : Int) := fun k hk q => by have := (dec_ok hk).2.2.2 _ q; omega
  intro l hl
  unfold linesA at hl
  simp only [List.cons_append, List.nil_append, List.mem_cons] at hl
  rcases hl with rfl | rfl | rfl | hl
  · simp [wAl, lal]
  · have := dk n (by omega)
    simp [wSt, this]
  · have := dk i (by omega)
    simp [wIn, this]
  · obtain ⟨r, hr, rfl⟩ := List.mem_map.mp hl
    have l1 := lowL_iff.mp (low r.l (hg.let' r hr))
    have d1 := dk r.s (by have := hg.src r hr; omega)
    have d2 := dk r.t (by have := hg.tgt r hr; omega)
    have d3 : 10 ∉ wC r.w := by cases r.w <;> decide
    unfold lineR
    simp only [List.mem_append, List.mem_cons, List.not_mem_nil, or_false, not_or]
    exact ⟨⟨⟨⟨⟨⟨d1, by decide⟩, by omega⟩, by decide⟩, d2⟩, by decide⟩, d3⟩
theorem lines_len {al : List Nat} {n i : Nat} {L : List Row} (hg : GoodA al n i L) : ∀ l ∈ linesA al n i L, l.length ≤ 12 := by
  have h2 := hg.hi
  have h3 := hg.ini
  have h4 := alpha_len hg.alp
  have d1 := (dec_ok (k := n) (by omega)).2.2.1
  have d2 := (dec_ok (k := i) (by omega)).2.2.1
  intro l hl
  unfold linesA at hl
  simp only [List.cons_append, List.nil_append, List.mem_cons] at hl
  rcases hl with rfl | rfl | rfl | hl
  · simp [wAl]; omega
  · simp [wSt]; omega
  · simp [wIn]; omega
  · obtain ⟨r, hr, rfl⟩ := List.mem_map.mp hl
    exact line_len (n := n) (by omega) (hg.src r hr) (hg.tgt r hr)
theorem textOf_len {b : Nat} : ∀ {ls : List (List Nat)}, (∀ l ∈ ls, l.length ≤ b) → (textOf ls).length ≤ ls.length * (b + 1)
  | [], _ => by simp [textOf]
  | x :: ls, h => by
    have h1 := h x (by simp)
    have h2 := textOf_len (b := b) (ls := ls) fun l hl => h l (by simp [hl])
    rw [text_cons, List.length_append, List.length_cons, List.length_cons, Nat.succ_mul]
    omega
theorem textA_len {al : List Nat} {n i : Nat} {L : List Row} (hg : GoodA al n i L) : (textA al n i L).length ≤ 1040039 := by
  have h1 := textOf_len (lines_len hg)
  have h2 : (linesA al n i L).length = L.length + 3 := by simp [linesA]
  have h3 := hg.len
  unfold textA
  rw [h2] at h1
  omega
theorem textA_ne (al : List Nat) (n i : Nat) (L : List Row) : textA al n i L ≠ [] := by
  unfold textA linesA
  rw [List.cons_append, text_cons]
  simp
theorem sortR_map (rs : List Row) : sortD (rs.map rowD) = (sortR rs).map rowD := (PySem.W.sort_maps (r := fun a b : Row => dle (rowD a) (rowD b)) (s := dle) rowD fun _ _ _ _ => rfl).symm
theorem sortR_perm (rs : List Row) : (sortR rs).Perm rs := List.mergeSort_perm ..
theorem sortR_pw (rs : List Row) : (sortR rs).Pairwise fun a b => dle (rowD a) (rowD b) = true := by
  have := sortD_sorted (rs.map rowD)
  rw [sortR_map, List.pairwise_map] at this
  exact this
theorem sortR_again (rs : List Row) : sortR (sortR rs) = sortR rs := List.mergeSort_of_pairwise (sortR_pw rs)
theorem dle_ltR {a b : Row} (h : dle (rowD a) (rowD b) = true) (hne : (a.s, a.l, a.t) ≠ (b.s, b.l, b.t)) : ltR a b := by
  have h : (!PyProof.Rows.lexLt _ _ _) = true := h
  simp only [rowD, toPy, toPyL, PySem.W.keyToks, PySem.W.keyToksAll, List.cons_append, List.nil_append, PyProof.Rows.lexLt, PyProof.Rows.itemLt] at h
  obtain ⟨s, l, t, w⟩ := a
  obtain ⟨s', l', t', w'⟩ := b
  unfold ltR
  simp at h hne ⊢
  rcases h with ⟨h1, h2 | ⟨h2, h3⟩⟩
  · exact .inl h2
  by_cases e1 : s < s'
  · exact .inl e1
  refine .inr ⟨by omega, ?_⟩
  have h2 : ¬ ([l'] < [l]) := h2
  have k1 : ∀ x y : Nat, ([x] < [y]) ↔ x < y := fun x y => by
    constructor
    · intro h
      cases h with
      | rel h => exact h
      | cons h => cases h
    · exact .rel
  rw [k1] at h2 h3
  rcases h3 with h3 | ⟨h3, h4⟩
  · exact .inl h3
  by_cases e2 : l < l'
  · exact .inl e2
  refine .inr ⟨by omega, ?_⟩
  have := hne (by omega) (by omega)
  omega
theorem sortR_strict {al : List Nat} {n i : Nat} {rs : List Row} (hg : GoodA al n i rs) : StrictR (sortR rs) := by
  have nd : ((sortR rs).map fun r => (r.s, r.l, r.t)).Nodup := ((sortR_perm rs).map _).nodup_iff.mpr hg.nd
  unfold StrictR
  rw [List.Nodup, List.pairwise_map] at nd
  exact (sortR_pw rs).imp₂ (fun a b h1 h2 => dle_ltR h1 h2) nd
theorem le_row {q r : Row} (h : ltR q r) : leTD [.int r.s, .str [r.l], .int r.t] [.int q.s, .str [q.l], .int q.t] = some false := by
  unfold ltR at h
  simp only [leTD]
  have k1 : ∀ x y : Nat, ([x] < [y]) ↔ x < y := fun x y => by
    constructor
    · intro h
      cases h with
      | rel h => exact h
      | cons h => cases h
    · exact .rel
  have k2 : ∀ x y : Nat, ([x] = [y]) ↔ x = y := fun x y => by simp
  rcases h with h | ⟨h1, h | ⟨h2, h⟩⟩
  · rw [if_neg (by omega), decide_eq_false (by omega)]
  · rw [if_pos (by omega), if_neg (by rw [k2]; omega), decide_eq_true ((k1 _ _).mpr h)]
    rfl
  · rw [if_pos (by omega), if_pos (by rw [k2]; omega), if_neg (by omega), decide_eq_false (by omega)]
theorem cnt_len {w : List Nat} {m : Int} (h : 2 < w.length) : isCnt w m = false := by
  match w, h with
  | a :: b :: c :: r, _ => rfl
theorem Asc.dec {k : Nat} (h : k ≤ 99) : Asc (decOf (k : Int)) := fun c hc => by have := (dec_ok h).2.2.2 c hc; omega
theorem Asc.line {r : Row} {n : Nat} {al : List Nat} (hn : n ≤ 99) (hs : r.s < n) (ht : r.t < n) (hl : r.l ∈ al) (low : LowS al) : Asc (lineR r) := by
  have l1 := lowL_iff.mp (low r.l hl)
  unfold lineR
  refine ((((((Asc.dec (by omega)).app (by unfold Asc; decide)).app ?_).app (by unfold Asc; decide)).app (Asc.dec (by omega))).app (by unfold Asc; decide)).app ?_
  · exact fun c hc => by rw [List.mem_singleton.mp hc]; omega
  · cases r.w <;> (unfold Asc; decide)
theorem splitL_asc (c : Nat) : ∀ (l acc : List Nat), Asc acc → Asc l → ∀ x ∈ splitL c acc l, Asc x
  | [], acc, ha, _, x, hx => by
    simp only [splitL, List.mem_singleton] at hx
    subst hx; exact ha
  | y :: r, acc, ha, hl, x, hx => by
    unfold splitL at hx
    have hr : Asc r := fun c hc => hl c (by simp [hc])
    by_cases h : y = c
    · rw [if_pos h] at hx
      rcases List.mem_cons.mp hx with rfl | hx
      · exact ha
      · exact splitL_asc c r [] (fun _ h => nomatch h) hr x hx
    · rw [if_neg h] at hx
      refine splitL_asc c r _ (ha.app fun c hc => ?_) hr x hx
      rw [List.mem_singleton.mp hc]
      exact hl y (by simp)
theorem splitL_le (c : Nat) : ∀ (l acc : List Nat), ∀ x ∈ splitL c acc l, x.length ≤ acc.length + l.length
  | [], acc, x, hx => by
    simp only [splitL, List.mem_singleton] at hx
    subst hx; simp
  | y :: r, acc, x, hx => by
    unfold splitL at hx
    by_cases h : y = c
    · rw [if_pos h] at hx
      rcases List.mem_cons.mp hx with rfl | hx
      · simp
      · have := splitL_le c r [] x hx
        simp at this ⊢; omega
    · rw [if_neg h] at hx
      have := splitL_le c r _ x hx
      simp at this ⊢; omega
theorem cut_from {α : Type} {l : List α} {k : Nat} (h : k ≤ l.length) : cut l (some (k : Int)) none = l.drop k := by
  have e : HT.sIx l.length 0 (some (k : Int)) = k := by
    simp only [HT.sIx]
    rw [if_neg (by omega)]
    simp
    omega
  have e0 : HT.sIx l.length l.length none = l.length := rfl
  unfold cut
  rw [e0, e, List.take_of_length_le (by rw [List.length_drop]; omega)]
theorem Asc.text : ∀ {ls : List (List Nat)}, (∀ l ∈ ls, Asc l) → Asc (textOf ls)
  | [], _ => fun c h => by cases h
  | x :: ls, h => by
    rw [text_cons]
    refine (h x (by simp)).app (fun c hc => ?_)
    rcases List.mem_cons.mp hc with rfl | hc
    · decide
    · exact Asc.text (fun l hl => h l (by simp [hl])) c hc
theorem lines_asc {al : List Nat} {n i : Nat} {L : List Row} (hg : GoodA al n i L) : ∀ l ∈ linesA al n i L, Asc l := by
  have h2 := hg.hi
  have h3 := hg.ini
  have low := alpha_lowS hg.alp
  intro l hl
  unfold linesA at hl
  simp only [List.cons_append, List.nil_append, List.mem_cons] at hl
  rcases hl with rfl | rfl | rfl | hl
  · exact Asc.app (by unfold Asc; decide) low.asc
  · exact Asc.app (by unfold Asc; decide) (Asc.dec (by omega))
  · exact Asc.app (by unfold Asc; decide) (Asc.dec (by omega))
  · obtain ⟨r, hr, rfl⟩ := List.mem_map.mp hl
    exact Asc.line (n := n) (by omega) (hg.src r hr) (hg.tgt r hr) (hg.let' r hr) low
theorem textA_asc {al : List Nat} {n i : Nat} {L : List Row} (hg : GoodA al n i L) : Asc (textA al n i L) := Asc.text (lines_asc hg)
theorem textA_last (al : List Nat) (n i : Nat) (L : List Row) : (textA al n i L).getLast? = some 10 := text_last (by simp [linesA])
theorem textA_split {al : List Nat} {n i : Nat} {L : List Row} (hg : GoodA al n i L) : splitL 10 [] (cut (textA al n i L) none (some (-1))) = linesA al n i L := by
  rw [cut_last]
  exact text_drop (by simp [linesA]) (lines_no hg)
theorem int_ok {w : List Nat} (h : okDig w = true) : PySem.intText? (S2 w) = some (numOf w : Nat) ∧ w.length ≤ 2 := by
  match w, h with
  | [a], h => exact ⟨(int_one h).1, by simp⟩
  | [a, b], h =>
    simp only [okDig, Bool.and_eq_true] at h
    exact ⟨(int_two h.1.1 h.1.2).1, by simp⟩
theorem cnt_int {w : List Nat} {m : Int} (h : isCnt w m = true) : PySem.intText? (S2 w) = some (numOf w : Nat) ∧ w.length ≤ 2 := by
  unfold isCnt at h
  rw [Bool.and_eq_true] at h
  exact int_ok h.1
theorem dec_int {k : Nat} (h : k ≤ 99) : PySem.intText? (S2 (decOf (k : Int))) = some (k : Int) := by
  obtain ⟨h1, h2, _⟩ := dec_ok h
  have := (int_ok h1).1
  rw [h2] at this
  exact this
theorem text_sum : ∀ ls : List (List Nat), ((ls.map (· ++ [10])).map (fun x => x.length)).sum = (textOf ls).length
  | [] => rfl
  | x :: ls => by
    rw [List.map_cons, List.map_cons, List.sum_cons, text_sum ls, text_cons]
    simp
    omega

def tf_is_count : TDF := fun ds Q => ∃ (w : List Nat) (m : Int), ds = [.str w, .int m] ∧ (w.length ≤ sizeLine ∧ Asc w) ∧ Q (.bl (isCnt w m))
theorem ar_is_count : ∀ ds Q, tf_is_count ds Q → ds.length = 2 := by
  rintro ds Q ⟨_, _, rfl, _⟩
  rfl
local macro_rules | `(tactic| walk_at "go") => `(tactic| simp only [tf__law_draws, tf__law_pull, tf__law_any, tf_is_number, tf_is_word, tf_is_alphabet, tf__law_alphabet, tf_is_transition, tf_Automaton___init__, tf_Automaton_transitions, tf_Automaton___eq__, tf__law_mixed, tf__law_rows, tf__law_spec, tf__law_made, tf_is_count, fn_alphabet_size, fn_alphabet_initial, fn_alphabet_own_moves, fn_size_alphabet, fn_size_initial, fn_size_own_moves, fn_initial_alphabet, fn_initial_size, fn_initial_own_moves, fn_own_moves_alphabet, fn_own_moves_size, fn_own_moves_initial, ati0, ati1, ati2, ati3, dLRg, dM1, rEndsD, rSplitD, rStartsD, rLeTD, dsNil, dsSeq, dsDrop, dsRet, dsRetF, dsRetN, dsRetO, dsIf, dsSet, dsOwn, dsFrz, dsPar, dsMul, setK, dkE, dkF, dkNil, rLenSet, rSortD, rMaxD, dFnK, dsAug, augD, dsApp, dsAsg, dsFor, dsBreak, dsCont, dgName, dgTup, dgCons, dgNil, dVar, dPeek, dC, d1, d2, d3, dAnd, dOr, dNot, dTest, dTestB, truD, dtAnd, dtOr, dtNot, dIf, dLst, dTup, dCall, dFn, daCons, daNil, rAddD, rMulD, rMulF, rII, rEqDD, rNeDD, rOrdD, rInDD, rIxD, rSlD, dSl, dSlF, doSome, doNone, rLenD, rIntD, rMM, rAllD, rListD, rTupD, rStrI, rIsiD, rIsiLT, rNegD, dJoin, rJoinD, diSeq, diRng1, diRng2, diEnum, diZip, itemsD, dLc, lcF, dtsNil, dLc2, lcF2, Sl.dat, tyN, isNon, knownD, isIntD, isBoolD, isStrD, isListD, isTupD, isSeqD,
  List.getElem?_cons_succ, List.getElem?_cons_zero, List.set_cons_succ, List.set_cons_zero, List.cons_append, List.nil_append, List.append_nil, List.replicate_succ, List.replicate_zero, List.length_cons, List.length_nil, Nat.reduceAdd, Nat.reduceSub, Int.reduceToNat, Int.reducePow, wipeS, List.map_cons, List.map_nil, Option.bind_some, Option.some.injEq, D.int.injEq, D.bl.injEq, D.str.injEq, D.lst.injEq, D.tup.injEq, Sl.val.injEq, Sl.own.injEq, List.cons.injEq, and_true, true_and, ex_eq, exists_eq_left, exists_eq_left', exists_eq, exists_eq', and_assoc, exists_and_left, if_true, if_false, ite_true, ite_false, Bool.false_eq_true, Bool.not_true, Bool.not_false, reduceCtorEq, ↓reduceIte, Option.isSome_some, Option.isSome_none, false_and, and_false, exists_false, D.ins.injEq, D.raw.injEq, V.ref.injEq, eq_self, dFld, dsFld, dMeth, dOp2, dRadd, dGet, dEqI, rIsiC, rIsiX, dFmt, dFmtR, dJoined, dJs, dOwn1, rStrO, rLenO, rReprS, rListS, dSS, rSS, dEqX, dNeX, okOther, dsDput, dGetR, dInR, dsFrzL, dLk, diKeys, dDc, dcF, dDc2, dcF2, dsIns, rEqDic, rLenDic, D.dic.injEq, id, getF, putN, putV, permL_cons, permL_nil, Option.toList_some, iteAnd, iteOr, wpFor, wpMap])
theorem ok_is_count (T : Txt K mg a) : FnOk P w K mg base CX0 1 a.f_is_count a.fd_is_count ["word", "most"] (spE 2 tf_is_count) := by
  refine ok_E T.F_is_count sc_is_count rfl (fun cdv A outer s H E hr => ⟨_, (ds_cons (ds_if (PW.pt (dt_or (dt_eq hr.units (dp_var (pv 0)) (PE.toP (de_str))) (dt_or (dt_gt (PE.toP (de_len T.n_len (dap_cons (dp_var (pv 0)) dap_nil))) (PE.toP (de_int))) (dt_or1 (dt_not (dt_val (PE.toP (de_all T.n_all (dap_cons (PE.toP (PE.toE (df_lc (own := [("sign", 2)]) (di_seq (de_var (pv 0))) sc_is_count.nd (blkOk_by (own := [("sign", 2)]) (N := N_is_count) (sc := defScope s_is_count) (by decide +kernel)) (fun _ _ _ _ _ => (dg_name (i := 2) sc_is_count.nd rfl (Or.inl rfl))) (fun _ _ _ _ _ => dts_nil) (fun _ _ _ _ _ => (de_in (u65 hr) (dp_var (pv 2)) (PE.toP (de_str))))))) dap_nil))))))))) (ds_one (ds_ret (de_bl))) ds_nil)
      (ds_one (ds_ret (de_and (PE.toP (de_eq hr.units (PE.toP (de_strI T.n_str (dap_cons (PE.toP (de_intc T.n_int (dap_cons (dp_var (pv 0)) dap_nil))) dap_nil))) (dp_var (pv 0)))) (de_one (de_le (PE.toP (de_intc T.n_int (dap_cons (dp_var (pv 0)) dap_nil))) (dp_var (pv 1)))))))), fun ds Qd hd h => ?_⟩)
  obtain ⟨w, m, rfl, h⟩ := h
  simp only [List.map_cons, List.map_nil]

  obtain ⟨⟨hw, ha⟩, h⟩ := h
  have emp : (Str.ofString "").cps.toList = [] := empty_eq
  refine seq_cut fun R hR => ?_
  walk_at "go"
  rw [emp, sig_eq]
  refine ⟨ascii_ok ha, by decide, ?_⟩
  by_cases e0 : w = []
  · subst e0
    rw [if_pos (by decide)]
    exact h
  rw [if_neg (by rw [deqv_str]; simpa using e0)]
  refine ⟨hw, ?_⟩
  by_cases e2 : 2 < w.length
  · rw [cnt_len e2] at h
    rw [if_pos (by simp; omega)]
    exact h
  rw [if_neg (by simp; omega)]
  refine ⟨by rw [List.length_map]; exact hw, wpMap_map (fun d => .bl (match d with | .str x => inStr x [48, 49, 50, 51, 52, 53, 54, 55, 56, 57] | _ => false)) (fun d hd k q => ?_) ⟨w.map digB, ?_, ?_⟩⟩
  · obtain ⟨e, _, rfl⟩ := List.mem_map.mp hd
    exact q
  · rw [List.map_map]
    refine Eq.trans (congrArg bools (List.map_congr_left fun c _ => ?_)) (bools_map digB w)
    exact congrArg D.bl (sig_mem c)
  · have fin : ∀ v : Nat, v ≤ 99 → (w.map digB).all id = true → PySem.intText? (S2 w) = some (v : Int) → numOf w = v → decide (decOf (v : Int) = w) = okDig w → w.length ≤ 2 → Qd (.bl (isCnt w m)) → (if (!(w.map digB).all id) = true then Qd (D.bl false) else R [Sl.val (D.str w), Sl.val (D.int m), Sl.no]) := fun v hv e1 e2 e3 e4 e5 h => by
      rw [if_neg (by rw [e1]; decide)]
      subst hR
      walk_at "go"
      refine ⟨(v : Int), e2, by omega, small_log (by omega), ascii_ok (Asc.dec hv), ascii_ok ha, ?_⟩
      have ec : isCnt w m = (okDig w && decide ((v : Int) ≤ m)) := by unfold isCnt; rw [e3]
      rw [ec] at h
      by_cases q : decOf (v : Int) = w
      · rw [decide_eq_true q] at e4
        rw [if_pos (by rw [deqv_str]; simpa using q)]
        rw [← e4, Bool.true_and] at h
        exact ⟨_, e2, by omega, h⟩
      · rw [decide_eq_false q] at e4
        rw [if_neg (by rw [deqv_str]; simpa using q)]
        rw [← e4] at h
        exact h
    have dg : ∀ c, digB c = true → 48 ≤ c ∧ c ≤ 57 := fun c h => by simpa [digB] using h
    match w, e0, e2, h with
    | [x], _, _, h =>
      by_cases d : digB x = true
      · obtain ⟨i1, i2⟩ := int_one d
        exact fin _ (by have := dg x d; show x - 48 ≤ 99; omega) (by simp [d]) i1 rfl (by rw [i2]; simp [okDig, d]) (by simp) h
      · rw [if_pos (by simp [d])]
        have : isCnt [x] m = false := by simp [isCnt, okDig, d]
        rw [this] at h
        exact h
    | [x, y], _, _, h =>
      by_cases d : digB x = true ∧ digB y = true
      · obtain ⟨i1, i2⟩ := int_two d.1 d.2
        exact fin _ (by have := dg x d.1; have := dg y d.2; show 10 * (x - 48) + (y - 48) ≤ 99; omega) (by simp [d]) i1 rfl (by rw [i2]; simp [okDig, d]) (by simp) h
      · rw [if_pos (by
          cases d1 : digB x <;> cases d2 : digB y <;> simp [d1, d2] at d ⊢)]
        have : isCnt [x, y] m = false := by
          unfold isCnt okDig
          by_cases d1 : digB x = true <;> by_cases d2 : digB y = true <;> simp [d1, d2] at d ⊢
        rw [this] at h
        exact h
    | _ :: _ :: _ :: _, _, e2, _ => exact absurd (by simp) e2
/-! ### head_value -/
def tf_head_value : TDF := fun ds Q => ∃ (l : List Nat) (w : List Nat), ds = [.str l, .str w] ∧ (l.length ≤ sizeLine ∧ w.length ≤ 1000) ∧ Q (.str (headV l w))
theorem ar_head_value : ∀ ds Q, tf_head_value ds Q → ds.length = 2 := by
  rintro ds Q ⟨_, _, rfl, _⟩
  rfl
local macro_rules | `(tactic| walk_at "go") => `(tactic| simp only [tf__law_draws, tf__law_pull, tf__law_any, tf_is_number, tf_is_word, tf_is_alphabet, tf__law_alphabet, tf_is_transition, tf_Automaton___init__, tf_Automaton_transitions, tf_Automaton___eq__, tf__law_mixed, tf__law_rows, tf__law_spec, tf__law_made, tf_is_count, tf_head_value, fn_alphabet_size, fn_alphabet_initial, fn_alphabet_own_moves, fn_size_alphabet, fn_size_initial, fn_size_own_moves, fn_initial_alphabet, fn_initial_size, fn_initial_own_moves, fn_own_moves_alphabet, fn_own_moves_size, fn_own_moves_initial, ati0, ati1, ati2, ati3, dLRg, dM1, rEndsD, rSplitD, rStartsD, rLeTD, dsNil, dsSeq, dsDrop, dsRet, dsRetF, dsRetN, dsRetO, dsIf, dsSet, dsOwn, dsFrz, dsPar, dsMul, setK, dkE, dkF, dkNil, rLenSet, rSortD, rMaxD, dFnK, dsAug, augD, dsApp, dsAsg, dsFor, dsBreak, dsCont, dgName, dgTup, dgCons, dgNil, dVar, dPeek, dC, d1, d2, d3, dAnd, dOr, dNot, dTest, dTestB, truD, dtAnd, dtOr, dtNot, dIf, dLst, dTup, dCall, dFn, daCons, daNil, rAddD, rMulD, rMulF, rII, rEqDD, rNeDD, rOrdD, rInDD, rIxD, rSlD, dSl, dSlF, doSome, doNone, rLenD, rIntD, rMM, rAllD, rListD, rTupD, rStrI, rIsiD, rIsiLT, rNegD, dJoin, rJoinD, diSeq, diRng1, diRng2, diEnum, diZip, itemsD, dLc, lcF, dtsNil, dLc2, lcF2, Sl.dat, tyN, isNon, knownD, isIntD, isBoolD, isStrD, isListD, isTupD, isSeqD,
  List.getElem?_cons_succ, List.getElem?_cons_zero, List.set_cons_succ, List.set_cons_zero, List.cons_append, List.nil_append, List.append_nil, List.replicate_succ, List.replicate_zero, List.length_cons, List.length_nil, Nat.reduceAdd, Nat.reduceSub, Int.reduceToNat, Int.reducePow, wipeS, List.map_cons, List.map_nil, Option.bind_some, Option.some.injEq, D.int.injEq, D.bl.injEq, D.str.injEq, D.lst.injEq, D.tup.injEq, Sl.val.injEq, Sl.own.injEq, List.cons.injEq, and_true, true_and, ex_eq, exists_eq_left, exists_eq_left', exists_eq, exists_eq', and_assoc, exists_and_left, if_true, if_false, ite_true, ite_false, Bool.false_eq_true, Bool.not_true, Bool.not_false, reduceCtorEq, ↓reduceIte, Option.isSome_some, Option.isSome_none, false_and, and_false, exists_false, D.ins.injEq, D.raw.injEq, V.ref.injEq, eq_self, dFld, dsFld, dMeth, dOp2, dRadd, dGet, dEqI, rIsiC, rIsiX, dFmt, dFmtR, dJoined, dJs, dOwn1, rStrO, rLenO, rReprS, rListS, dSS, rSS, dEqX, dNeX, okOther, dsDput, dGetR, dInR, dsFrzL, dLk, diKeys, dDc, dcF, dDc2, dcF2, dsIns, rEqDic, rLenDic, D.dic.injEq, id, getF, putN, putV, permL_cons, permL_nil, Option.toList_some, iteAnd, iteOr, wpFor, wpMap])
theorem ok_head_value (T : Txt K mg a) : FnOk P w K mg base CX0 1 a.f_head_value a.fd_head_value ["line", "word"] (spE 2 tf_head_value) := by
  refine ok_E T.F_head_value sc_head_value rfl (fun cdv A outer s H E hr => ⟨_, (ds_one (ds_ret (de_if (dt_val (PE.toP (de_starts (dp_var (pv 0)) (PE.toP (de_add (dp_var (pv 1)) (PE.toP (de_str))))))) (de_slice (dp_var (pv 0)) (do_some (PE.toP (de_add (PE.toP (de_len T.n_len (dap_cons (dp_var (pv 1)) dap_nil))) (PE.toP (de_int))))) do_none) (de_str)))), fun ds Qd hd h => ?_⟩)
  obtain ⟨l, w, rfl, h⟩ := h
  simp only [List.map_cons, List.map_nil]

  obtain ⟨⟨hl, hw⟩, h⟩ := h
  have emp : (Str.ofString "").cps.toList = [] := empty_eq
  have sp : (Str.ofString " ").cps.toList = [32] := by decide +kernel
  walk_at "go"
  rw [emp, sp]
  refine ⟨by show _ ≤ 16777216; simp; omega, ?_⟩
  unfold headV at h
  have e1 : (w ++ [32]).length = w.length + 1 := by simp
  rw [e1]
  by_cases e : l.take (w.length + 1) = w ++ [32]
  · rw [if_pos e] at h
    have hl2 := congrArg List.length e
    rw [e1, List.length_take] at hl2
    rw [if_pos (decide_eq_true e)]
    refine ⟨by show _ ≤ 16777216; omega, hl, ?_⟩
    have e3 : cut l (some ((w.length : Int) + 1)) none = l.drop (w.length + 1) := cut_from (k := w.length + 1) (by omega)
    rw [e3]
    exact h
  · rw [if_neg e] at h
    rw [if_neg (by simpa using e)]
    exact h
/-! ### read_row -/
def tf_read_row : TDF := fun ds Q => ∃ (l : List Nat) (al : List Nat) (n : Int), ds = [.str l, .str al, .int n] ∧ (l.length + 2 ≤ sizeLine ∧ al.length ≤ 3 ∧ Asc l) ∧ Q (rowOf l al n)
theorem ar_read_row : ∀ ds Q, tf_read_row ds Q → ds.length = 3 := by
  rintro ds Q ⟨_, _, _, rfl, _⟩
  rfl
local macro_rules | `(tactic| walk_at "go") => `(tactic| simp only [tf__law_draws, tf__law_pull, tf__law_any, tf_is_number, tf_is_word, tf_is_alphabet, tf__law_alphabet, tf_is_transition, tf_Automaton___init__, tf_Automaton_transitions, tf_Automaton___eq__, tf__law_mixed, tf__law_rows, tf__law_spec, tf__law_made, tf_is_count, tf_head_value, tf_read_row, fn_alphabet_size, fn_alphabet_initial, fn_alphabet_own_moves, fn_size_alphabet, fn_size_initial, fn_size_own_moves, fn_initial_alphabet, fn_initial_size, fn_initial_own_moves, fn_own_moves_alphabet, fn_own_moves_size, fn_own_moves_initial, ati0, ati1, ati2, ati3, dLRg, dM1, rEndsD, rSplitD, rStartsD, rLeTD, dsNil, dsSeq, dsDrop, dsRet, dsRetF, dsRetN, dsRetO, dsIf, dsSet, dsOwn, dsFrz, dsPar, dsMul, setK, dkE, dkF, dkNil, rLenSet, rSortD, rMaxD, dFnK, dsAug, augD, dsApp, dsAsg, dsFor, dsBreak, dsCont, dgName, dgTup, dgCons, dgNil, dVar, dPeek, dC, d1, d2, d3, dAnd, dOr, dNot, dTest, dTestB, truD, dtAnd, dtOr, dtNot, dIf, dLst, dTup, dCall, dFn, daCons, daNil, rAddD, rMulD, rMulF, rII, rEqDD, rNeDD, rOrdD, rInDD, rIxD, rSlD, dSl, dSlF, doSome, doNone, rLenD, rIntD, rMM, rAllD, rListD, rTupD, rStrI, rIsiD, rIsiLT, rNegD, dJoin, rJoinD, diSeq, diRng1, diRng2, diEnum, diZip, itemsD, dLc, lcF, dtsNil, dLc2, lcF2, Sl.dat, tyN, isNon, knownD, isIntD, isBoolD, isStrD, isListD, isTupD, isSeqD,
  List.getElem?_cons_succ, List.getElem?_cons_zero, List.set_cons_succ, List.set_cons_zero, List.cons_append, List.nil_append, List.append_nil, List.replicate_succ, List.replicate_zero, List.length_cons, List.length_nil, Nat.reduceAdd, Nat.reduceSub, Int.reduceToNat, Int.reducePow, wipeS, List.map_cons, List.map_nil, Option.bind_some, Option.some.injEq, D.int.injEq, D.bl.injEq, D.str.injEq, D.lst.injEq, D.tup.injEq, Sl.val.injEq, Sl.own.injEq, List.cons.injEq, and_true, true_and, ex_eq, exists_eq_left, exists_eq_left', exists_eq, exists_eq', and_assoc, exists_and_left, if_true, if_false, ite_true, ite_false, Bool.false_eq_true, Bool.not_true, Bool.not_false, reduceCtorEq, ↓reduceIte, Option.isSome_some, Option.isSome_none, false_and, and_false, exists_false, D.ins.injEq, D.raw.injEq, V.ref.injEq, eq_self, dFld, dsFld, dMeth, dOp2, dRadd, dGet, dEqI, rIsiC, rIsiX, dFmt, dFmtR, dJoined, dJs, dOwn1, rStrO, rLenO, rReprS, rListS, dSS, rSS, dEqX, dNeX, okOther, dsDput, dGetR, dInR, dsFrzL, dLk, diKeys, dDc, dcF, dDc2, dcF2, dsIns, rEqDic, rLenDic, D.dic.injEq, id, getF, putN, putV, permL_cons, permL_nil, Option.toList_some, iteAnd, iteOr, wpFor, wpMap])
theorem ok_read_row (T : Txt K mg a) : FnOk P w K mg base CX0 2 a.f_read_row a.fd_read_row ["line", "alphabet", "size"] (spE 3 tf_read_row) := by
  refine ok_E T.F_read_row sc_read_row rfl (fun cdv A outer s H E hr => ⟨_, (ds_cons (ds_set (i := 3) sc_read_row.nd rfl (Or.inl rfl) (PE.toE (df_split (dp_var (pv 0)) (PE.toP (de_str)))))
      (ds_cons (ds_if (PW.pt (dt_or (dt_ne hr.units (PE.toP (de_len T.n_len (dap_cons (dp_var (pv 3)) dap_nil))) (PE.toP (de_int))) (dt_or (dt_not (dt_val (PE.toP (de_fn (ok_is_count T) (hr.mono (by first | decide | omega)) T.g_is_count (k_is_count T) (b0_is_count T) (fun _ _ _ => .nil) (da_cons (de_item (dp_var (pv 3)) (PE.toP (de_int))) (da_cons (de_sub (dp_var (pv 2)) (PE.toP (de_int))) da_nil)) ar_is_count)))) (dt_or1 (dt_not (dt_val (PE.toP (de_fn (ok_is_count T) (hr.mono (by first | decide | omega)) T.g_is_count (k_is_count T) (b0_is_count T) (fun _ _ _ => .nil) (da_cons (de_item (dp_var (pv 3)) (PE.toP (de_int))) (da_cons (de_sub (dp_var (pv 2)) (PE.toP (de_int))) da_nil)) ar_is_count)))))))) (ds_one (ds_ret (de_non))) ds_nil)
      (ds_cons (ds_if (PW.pt (dt_or (dt_ne hr.units (PE.toP (de_len T.n_len (dap_cons (PE.toP (de_item (dp_var (pv 3)) (PE.toP (de_int)))) dap_nil))) (PE.toP (de_int))) (dt_or (dt_notIn (u65 hr) (PE.toP (de_item (dp_var (pv 3)) (PE.toP (de_int)))) (dp_var (pv 1))) (dt_or1 (dt_notIn (u65 hr) (PE.toP (de_item (dp_var (pv 3)) (PE.toP (de_int)))) (PE.toP (de_tup (da_cons (de_gstr T.c_SAFE) (da_cons (de_gstr T.c_SLIP) da_nil))))))))) (ds_one (ds_ret (de_non))) ds_nil)
      (ds_one (ds_ret (de_tup (da_cons (de_intc T.n_int (dap_cons (PE.toP (de_item (dp_var (pv 3)) (PE.toP (de_int)))) dap_nil)) (da_cons (de_item (dp_var (pv 3)) (PE.toP (de_int))) (da_cons (de_intc T.n_int (dap_cons (PE.toP (de_item (dp_var (pv 3)) (PE.toP (de_int)))) dap_nil)) (da_cons (de_item (dp_var (pv 3)) (PE.toP (de_int))) da_nil)))))))))), fun ds Qd hd h => ?_⟩)
  obtain ⟨l, al, n, rfl, h⟩ := h
  simp only [List.map_cons, List.map_nil]

  obtain ⟨⟨hl, hal, ha⟩, h⟩ := h
  have sp : (Str.ofString " ").cps.toList = [32] := by decide +kernel
  have slip0 : (Str.ofString "slip").cps.toList = wC false := slip_eq
  have safe0 : (Str.ofString "safe").cps.toList = wC true := safe_eq
  refine seq_cut fun R hR => ?_
  walk_at "go"
  refine ⟨32, sp, by decide, hl, ?_⟩
  have hws := splitL_asc 32 l [] (fun _ h => nomatch h) ha
  have hwl := splitL_le 32 l []
  unfold rowOf at h
  generalize splitL 32 [] l = ws at h hws hwl ⊢
  subst hR
  refine seq_cut fun R hR => ?_
  walk_at "go"
  by_cases h4 : ws.length = 4
  · obtain ⟨x, y, z, v, rfl⟩ : ∃ x y z v, ws = [x, y, z, v] := by
      match ws, h4 with
      | [x, y, z, v], _ => exact ⟨_, _, _, _, rfl⟩
    have bd : ∀ u ∈ [x, y, z, v], u.length ≤ sizeLine := fun u hu => by have := hwl u hu; simp at this; omega
    rw [rowW_eq] at h
    refine ⟨rfl, rfl, ?_⟩
    rw [if_neg (by simp [deqv_int])]
    refine ⟨_, rfl, x, rfl, bd x (by simp), hws x (by simp), ?_⟩
    cases c1 : isCnt x (n - 1)
    · rw [if_pos (by decide)]
      rw [c1] at h
      exact h
    rw [if_neg (by decide)]
    refine ⟨_, rfl, z, rfl, bd z (by simp), hws z (by simp), ?_⟩
    cases c2 : isCnt z (n - 1)
    · rw [if_pos (by decide)]
      rw [c2, Bool.and_false] at h
      exact h
    rw [if_neg (by decide)]
    rw [c1, c2] at h
    subst hR
    refine seq_cut fun R hR => ?_
    walk_at "go"
    refine ⟨bd y (by simp), rfl, rfl, ?_⟩
    rw [deqv_int]
    cases c3 : decide (y.length = 1)
    · rw [if_pos (by simp at c3 ⊢; omega)]
      rw [c3] at h
      exact h
    rw [if_neg (by simp at c3 ⊢; omega)]
    rw [c3] at h
    cases c4 : inStr y al
    · rw [if_pos (by decide)]
      rw [c4] at h
      exact h
    rw [if_neg (by decide)]
    rw [c4] at h
    refine ⟨by decide, rfl, rfl, ?_⟩
    rw [safe0, slip0]
    have e5 : ([D.str (wC true), D.str (wC false)].any fun z => deqv z (D.str v)) = (decide (v = wC true) || decide (v = wC false)) := by
      simp only [List.any_cons, List.any_nil, Bool.or_false, deqv_str]
      simp [eq_comm]
    rw [e5]
    cases c5 : (decide (v = wC true) || decide (v = wC false))
    · rw [if_pos (by decide)]
      rw [c5] at h
      exact h
    rw [if_neg (by decide)]
    rw [c5] at h
    subst hR
    walk_at "go"
    obtain ⟨i1, b1⟩ := cnt_int c1
    obtain ⟨i2, b2⟩ := cnt_int c2
    exact ⟨_, i1, by omega, _, i2, by omega, by decide, h⟩
  · refine ⟨rfl, rfl, ?_⟩
    rw [if_pos (by rw [List.length_map, deqv_int]; simp; omega)]
    rw [rowW_len al n h4] at h
    exact h
/-! ### read_automaton -/
def tf_read_automaton (a : Adr) : TDF := fun ds Q => ∃ (al : List Nat) (n : Nat) (i : Nat) (L : List Row), ds = [.str (textA al n i L)] ∧ (GoodA al n i L ∧ StrictR L) ∧ Q (autD a.C_Automaton al n i L)
theorem ar_read_automaton {a : Adr} : ∀ ds Q, tf_read_automaton a ds Q → ds.length = 1 := by
  rintro ds Q ⟨_, _, _, _, rfl, _⟩
  rfl
local macro_rules | `(tactic| walk_at "go") => `(tactic| simp only [tf__law_draws, tf__law_pull, tf__law_any, tf_is_number, tf_is_word, tf_is_alphabet, tf__law_alphabet, tf_is_transition, tf_Automaton___init__, tf_Automaton_transitions, tf_Automaton___eq__, tf__law_mixed, tf__law_rows, tf__law_spec, tf__law_made, tf_is_count, tf_head_value, tf_read_row, tf_read_automaton, fn_alphabet_size, fn_alphabet_initial, fn_alphabet_own_moves, fn_size_alphabet, fn_size_initial, fn_size_own_moves, fn_initial_alphabet, fn_initial_size, fn_initial_own_moves, fn_own_moves_alphabet, fn_own_moves_size, fn_own_moves_initial, ati0, ati1, ati2, ati3, dLRg, dM1, rEndsD, rSplitD, rStartsD, rLeTD, dsNil, dsSeq, dsDrop, dsRet, dsRetF, dsRetN, dsRetO, dsIf, dsSet, dsOwn, dsFrz, dsPar, dsMul, setK, dkE, dkF, dkNil, rLenSet, rSortD, rMaxD, dFnK, dsAug, augD, dsApp, dsAsg, dsFor, dsBreak, dsCont, dgName, dgTup, dgCons, dgNil, dVar, dPeek, dC, d1, d2, d3, dAnd, dOr, dNot, dTest, dTestB, truD, dtAnd, dtOr, dtNot, dIf, dLst, dTup, dCall, dFn, daCons, daNil, rAddD, rMulD, rMulF, rII, rEqDD, rNeDD, rOrdD, rInDD, rIxD, rSlD, dSl, dSlF, doSome, doNone, rLenD, rIntD, rMM, rAllD, rListD, rTupD, rStrI, rIsiD, rIsiLT, rNegD, dJoin, rJoinD, diSeq, diRng1, diRng2, diEnum, diZip, itemsD, dLc, lcF, dtsNil, dLc2, lcF2, Sl.dat, tyN, isNon, knownD, isIntD, isBoolD, isStrD, isListD, isTupD, isSeqD,
  List.getElem?_cons_succ, List.getElem?_cons_zero, List.set_cons_succ, List.set_cons_zero, List.cons_append, List.nil_append, List.append_nil, List.replicate_succ, List.replicate_zero, List.length_cons, List.length_nil, Nat.reduceAdd, Nat.reduceSub, Int.reduceToNat, Int.reducePow, wipeS, List.map_cons, List.map_nil, Option.bind_some, Option.some.injEq, D.int.injEq, D.bl.injEq, D.str.injEq, D.lst.injEq, D.tup.injEq, Sl.val.injEq, Sl.own.injEq, List.cons.injEq, and_true, true_and, ex_eq, exists_eq_left, exists_eq_left', exists_eq, exists_eq', and_assoc, exists_and_left, if_true, if_false, ite_true, ite_false, Bool.false_eq_true, Bool.not_true, Bool.not_false, reduceCtorEq, ↓reduceIte, Option.isSome_some, Option.isSome_none, false_and, and_false, exists_false, D.ins.injEq, D.raw.injEq, V.ref.injEq, eq_self, dFld, dsFld, dMeth, dOp2, dRadd, dGet, dEqI, rIsiC, rIsiX, dFmt, dFmtR, dJoined, dJs, dOwn1, rStrO, rLenO, rReprS, rListS, dSS, rSS, dEqX, dNeX, okOther, dsDput, dGetR, dInR, dsFrzL, dLk, diKeys, dDc, dcF, dDc2, dcF2, dsIns, rEqDic, rLenDic, D.dic.injEq, id, getF, putN, putV, permL_cons, permL_nil, Option.toList_some, iteAnd, iteOr, wpFor, wpMap])
theorem ok_read_automaton (T : Txt K mg a) : FnOk P w K mg base CX0 5 a.f_read_automaton a.fd_read_automaton ["text"] (spF 1 (tf_read_automaton a)) := by
  refine ok_F T.F_read_automaton sc_read_automaton rfl (fun cdv A outer s H E hr => ⟨_, (ds_cons (ds_if (PW.pt (dt_or (dt_not (dt_val (PE.toP (de_isi tab_str T.n_isinstance (dap_cons (dp_var (pv 0)) (dap_cons (PE.toP (de_ty (T := "str") T.n_str (by decide +kernel))) dap_nil)))))) (dt_or (dt_eq hr.units (dp_var (pv 0)) (PE.toP (de_str))) (dt_or1 (dt_not (dt_val (PE.toP (de_ends (dp_var (pv 0)) (PE.toP (de_str)))))))))) ds_nevers ds_nil)
      (ds_cons (ds_set (i := 1) sc_read_automaton.nd rfl (Or.inl rfl) (PE.toE (df_split (PE.toP (de_slice (dp_var (pv 0)) do_none (do_some (PE.toP (de_neg (PE.toP (de_int))))))) (PE.toP (de_str)))))
      (ds_cons (ds_set (i := 2) sc_read_automaton.nd rfl (Or.inl rfl) (de_fn (ok_head_value T) (hr.mono (by first | decide | omega)) T.g_head_value (k_head_value T) (b0_head_value T) (fun _ _ _ => .nil) (da_cons (de_item (dp_var (pv 1)) (PE.toP (de_int))) (da_cons (de_str) da_nil)) ar_head_value))
      (ds_cons (ds_if (dt_not (dt_val (PE.toP (de_fn (ok_is_alphabet T) (hr.mono (by first | decide | omega)) T.g_is_alphabet (k_is_alphabet T) (b0_is_alphabet T) (fun _ _ _ => .nil) (da_cons (de_var (pv 2)) da_nil) ar_is_alphabet)))) ds_nevers ds_nil)
      (ds_cons (ds_set (i := 3) sc_read_automaton.nd rfl (Or.inl rfl) (de_if (dt_gt (PE.toP (de_len T.n_len (dap_cons (dp_var (pv 1)) dap_nil))) (PE.toP (de_int))) (de_fn (ok_head_value T) (hr.mono (by first | decide | omega)) T.g_head_value (k_head_value T) (b0_head_value T) (fun _ _ _ => .nil) (da_cons (de_item (dp_var (pv 1)) (PE.toP (de_int))) (da_cons (de_str) da_nil)) ar_head_value) (de_str)))
      (ds_cons (ds_if (PW.pt (dt_or (dt_not (dt_val (PE.toP (de_fn (ok_is_count T) (hr.mono (by first | decide | omega)) T.g_is_count (k_is_count T) (b0_is_count T) (fun _ _ _ => .nil) (da_cons (de_var (pv 3)) (da_cons (de_gint T.c_MOST_STATES) da_nil)) ar_is_count)))) (dt_or1 (dt_eq hr.units (dp_var (pv 3)) (PE.toP (de_str)))))) ds_nevers ds_nil)
      (ds_cons (ds_set (i := 4) sc_read_automaton.nd rfl (Or.inl rfl) (de_if (dt_gt (PE.toP (de_len T.n_len (dap_cons (dp_var (pv 1)) dap_nil))) (PE.toP (de_int))) (de_fn (ok_head_value T) (hr.mono (by first | decide | omega)) T.g_head_value (k_head_value T) (b0_head_value T) (fun _ _ _ => .nil) (da_cons (de_item (dp_var (pv 1)) (PE.toP (de_int))) (da_cons (de_str) da_nil)) ar_head_value) (de_str)))
      (ds_cons (ds_if (dt_not (dt_val (PE.toP (de_fn (ok_is_count T) (hr.mono (by first | decide | omega)) T.g_is_count (k_is_count T) (b0_is_count T) (fun _ _ _ => .nil) (da_cons (de_var (pv 4)) (da_cons (de_sub (PE.toP (de_intc T.n_int (dap_cons (dp_var (pv 3)) dap_nil))) (PE.toP (de_int))) da_nil)) ar_is_count)))) ds_nevers ds_nil)
      (ds_cons (ds_own (i := 5) sc_read_automaton.nd rfl (Or.inl rfl) (df_lst da_nil))
      (ds_cons (ds_for (di_enum T.n_enumerate (da_cons (de_slice (dp_var (pv 1)) (do_some (PE.toP (de_int))) do_none) da_nil)) (dg_tup (n := 2) (dgs_cons (dg_name (i := 6) sc_read_automaton.nd rfl (Or.inl rfl)) (dgs_cons (dg_name (i := 7) sc_read_automaton.nd rfl (Or.inl rfl)) dgs_nil))) (ds_cons (ds_set (i := 8) sc_read_automaton.nd rfl (Or.inl rfl) (de_fn (ok_read_row T) (hr.mono (by first | decide | omega)) T.g_read_row (k_read_row T) (b0_read_row T) (fun _ _ _ => .nil) (da_cons (de_var (pv 7)) (da_cons (de_var (pv 2)) (da_cons (de_intc T.n_int (dap_cons (dp_var (pv 3)) dap_nil)) da_nil))) ar_read_row))
      (ds_cons (ds_if (PW.pt (dt_or (dt_isN (dp_var (pv 8))) (dt_or1 (PW.pt (dt_and (dt_ne hr.units (dp_var (pv 5)) (PE.toP (PE.toE (df_lst da_nil)))) (dt_and1 (dt_leT hr.units (PE.toP (de_slice (dp_var (pv 8)) do_none (do_some (PE.toP (de_int))))) (PE.toP (de_slice (PE.toP (de_item (dp_var (pv 5)) (PE.toP (de_neg (PE.toP (de_int)))))) do_none (do_some (PE.toP (de_int)))))))))))) ds_nevers ds_nil)
      (ds_one (ds_app (pv 5) (de_var (pv 8)))))))
      (ds_frz 5 (ds_one (ds_thru (ds_one (ds_retF (df_makeK (perm := [0, 1, 2, 3]) T.mk_Automaton (ok_Automaton___init__ T) (hr.mono (by first | decide | omega)) T.g_Automaton (kb0_Automaton___init__ T) (da_cons (de_var (pv 2)) (da_cons (de_intc T.n_int (dap_cons (dp_var (pv 3)) dap_nil)) (da_cons (de_var (pv 5)) da_nil))) (dw_cons (de_intc T.n_int (dap_cons (dp_var (pv 4)) dap_nil)) dw_nil) ar_Automaton___init__)))))))))))))))), fun ds Qd hd h => ?_⟩)
  obtain ⟨al, n, i, L, rfl, h⟩ := h
  simp only [List.map_cons, List.map_nil]

  obtain ⟨⟨hg, hs⟩, h⟩ := h
  have hn0 := hg.lo
  have hn1 := hg.hi
  have hi := hg.ini
  have h3 := alpha_len hg.alp
  have tl := textA_len hg
  have emp : (Str.ofString "").cps.toList = [] := empty_eq
  have nl : (Str.ofString "\n").cps.toList = [10] := by decide +kernel
  have w1 : (Str.ofString "alphabet").cps.toList = wAl := by decide +kernel
  have w2 : (Str.ofString "states").cps.toList = wSt := by decide +kernel
  have w3 : (Str.ofString "initial").cps.toList = wIn := by decide +kernel
  refine seq_cut fun R hR => ?_
  walk_at "go"
  rw [emp]
  refine ⟨ascii_ok (textA_asc hg), by decide, ?_⟩
  rw [if_neg (by rw [deqv_str]; simpa using textA_ne al n i L)]
  refine ⟨10, nl, ?_⟩
  rw [if_neg (by rw [textA_last]; decide)]
  subst hR
  refine seq_cut fun R hR => ?_
  walk_at "go"
  have cl : (cut (textA al n i L) none (some (-1))).length ≤ (textA al n i L).length := by rw [cut_last, List.length_dropLast]; omega
  refine ⟨by show _ ≤ 16777216; omega, 10, nl, by decide, by show _ ≤ 16777216; omega, ?_⟩
  rw [textA_split hg]
  subst hR
  refine seq_cut fun R hR => ?_
  walk_at "go"
  refine ⟨_, atI_nat (j := 0) rfl, wAl ++ [32] ++ al, rfl, ?_⟩
  rw [w1]
  refine ⟨by show _ ≤ 16777216; simp [wAl]; omega, by decide, ?_⟩
  rw [head_ok]
  subst hR
  refine seq_cut fun R hR => ?_
  walk_at "go"
  refine ⟨by show _ ≤ 16777216; omega, ?_⟩
  rw [hg.alp, if_neg (by decide)]
  subst hR
  refine seq_cut fun R hR => ?_
  walk_at "go"
  have ll : (List.map D.str (linesA al n i L)).length = L.length + 3 := by simp [linesA]
  rw [ll, if_pos (by simp; omega)]
  refine ⟨_, atI_nat (j := 1) rfl, wSt ++ [32] ++ decOf n, rfl, ?_⟩
  rw [w2]
  have dn := dec_ok (k := n) (by omega)
  have di := dec_ok (k := i) (by omega)
  refine ⟨by show _ ≤ 16777216; simp [wSt]; omega, by decide, ?_⟩
  rw [head_ok]
  subst hR
  refine seq_cut fun R hR => ?_
  walk_at "go"
  refine ⟨by show _ ≤ 16777216; omega, Asc.dec (by omega), ?_⟩
  rw [cnt_dec (by omega) (by omega), if_neg (by decide)]
  refine ⟨ascii_ok (Asc.dec (by omega)), by decide +kernel, ?_⟩
  have z0 : (Str.ofString "0").cps.toList = [48] := by decide +kernel
  have nz : decOf (n : Int) ≠ [48] := fun e => by have := dn.2.1; rw [e] at this; simp [numOf] at this; omega
  rw [z0, if_neg (by rw [deqv_str]; simpa using nz)]
  subst hR
  refine seq_cut fun R hR => ?_
  walk_at "go"
  rw [ll, if_pos (by simp; omega)]
  refine ⟨_, atI_nat (j := 2) rfl, wIn ++ [32] ++ decOf i, rfl, ?_⟩
  rw [w3]
  refine ⟨by show _ ≤ 16777216; simp [wIn]; omega, by decide, ?_⟩
  rw [head_ok]
  subst hR
  refine seq_cut fun R hR => ?_
  walk_at "go"
  refine ⟨_, dec_int (by omega), by omega, by show _ ≤ 16777216; omega, Asc.dec (by omega), ?_⟩
  rw [cnt_dec (by omega) (by omega), if_neg (by decide)]
  subst hR
  refine seq_cut fun R hR => ?_
  walk_at "go"
  refine ⟨by decide, ?_⟩
  subst hR
  refine seq_cut fun R hR => ?_
  refine for_cutG fun G hG => ?_
  walk_at "go"
  refine hG _ ?_
  clear hG G
  have ec : cut (List.map D.str (linesA al n i L)) (some 3) none = L.map fun r => .str (lineR r) := by
    have e1 : cut (List.map D.str (linesA al n i L)) (some ((3 : Nat) : Int)) none = (List.map D.str (linesA al n i L)).drop 3 := cut_from (by rw [ll]; omega)
    refine e1.trans ?_
    unfold linesA
    rw [List.map_append, List.map_map]
    rfl
  rw [ec]
  generalize List.map D.str (linesA al n i L) = lns
  refine wpFor_inv (fun j S => ∃ c6 c7 c8, S = [.val (.str (textA al n i L)), .val (.lst lns), .val (.str al), .val (.str (decOf (n : Int))), .val (.str (decOf (i : Int))), .own (.lst ((L.take j).map rowD)), c6, c7, c8]) 0 ⟨_, _, _, rfl⟩ (fun j d S De' hj hI hnx _ _ _ _ => ?_) (fun S hI => ?_)
  · obtain ⟨c6, c7, c8, rfl⟩ := hI
    obtain ⟨r, hr, rfl⟩ := enum_mapf hj
    have e0 : 0 + j = j := Nat.zero_add j
    rw [e0] at hnx ⊢
    have hmem := List.mem_of_getElem? hr
    walk_at "tg"
    refine ⟨_, _, ⟨rfl, rfl⟩, _, _, rfl, rfl, ?_⟩
    refine seq_cut fun R2 hR2 => ?_
    walk_at "go"
    have low := alpha_lowS hg.alp
    have hs1 := hg.src r hmem
    have ht1 := hg.tgt r hmem
    have hl1 := hg.let' r hmem
    have hll := line_len (n := n) (by omega) hs1 ht1
    refine ⟨_, dec_int (by omega), by omega, by show _ ≤ 16777216; omega, h3, Asc.line (n := n) (by omega) hs1 ht1 hl1 low, ?_⟩
    rw [row_line (by omega) hs1 ht1 hl1 low]
    rw [show rowD r = D.tup [D.int r.s, D.str [r.l], D.int r.t, D.str (wC r.w)] from rfl]
    subst hR2
    refine seq_cut fun R2 hR2 => ?_
    walk_at "go"
    have ok : okD (.lst ((L.take j).map rowD)) = true := okD_lst fun d hd => by
      obtain ⟨q, hq, rfl⟩ := List.mem_map.mp hd
      exact ⟨row_plain low (hg.let' q (List.mem_of_mem_take hq)), by rw [show dep (rowD q) = 1 from rfl]; decide⟩
    refine ⟨by decide, ok, rfl, ?_⟩
    have ht : (L.take (j + 1)).map rowD = (L.take j).map rowD ++ [rowD r] := by rw [List.take_add_one, hr, List.map_append]; rfl
    have hjl := (List.getElem?_eq_some_iff.mp hr).1
    have fin : R2 [.val (.str (textA al n i L)), .val (.lst lns), .val (.str al), .val (.str (decOf (n : Int))), .val (.str (decOf (i : Int))), .own (.lst ((L.take j).map rowD)), .val (.int j), .val (.str (lineR r)), .val (D.tup [D.int r.s, D.str [r.l], D.int r.t, D.str (wC r.w)])] := by
      subst hR2
      walk_at "go"
      refine ⟨by show _ < 16777216; rw [List.length_map, List.length_take]; have := hg.len; omega, hnx _ ⟨.val (.int j), .val (.str (lineR r)), .val (rowD r), ?_⟩⟩
      rw [ht]
      rfl
    cases j with
    | zero =>
      rw [List.take_zero, List.map_nil, if_neg (by decide)]
      rw [List.take_zero, List.map_nil] at fin
      exact fin
    | succ k =>
      have hk : k < L.length := by omega
      have e1 : (L.take (k + 1)).map rowD = (L.take k).map rowD ++ [rowD L[k]] := by rw [List.take_add_one, List.getElem?_eq_getElem hk, List.map_append]; rfl
      have lt : ltR L[k] r := by
        have := List.pairwise_iff_getElem.mp hs k (k + 1) hk hjl (by omega)
        rw [(List.getElem?_eq_some_iff.mp hr).2] at this
        exact this
      have ne : deqv (.lst ((L.take (k + 1)).map rowD)) (.lst []) = false := by
        rw [e1]
        cases (L.take k).map rowD <;> rfl
      rw [ne, if_pos (by decide)]
      refine ⟨by simp [HT.sIx], rowD L[k], by rw [e1]; exact atI_last _ _, ?_⟩
      refine ⟨by simp [HT.sIx], rfl, rfl, false, le_row lt, ?_⟩
      rw [if_neg (by decide)]
      exact fin
  · obtain ⟨c6, c7, c8, rfl⟩ := hI
    rw [Nat.zero_add, enumD_length, List.length_map, List.take_length]
    show R _
    subst hR
    walk_at "go"
    exact ⟨_, dec_int (by omega), by omega, _, dec_int (by omega), by omega, n, rfl, L, rfl, i, rfl, hg, h⟩
/-! ### automaton_text -/
def tf_automaton_text (a : Adr) : TDF := fun ds Q => ∃ (al : List Nat) (n : Nat) (i : Nat) (rs : List Row), ds = [autD a.C_Automaton al n i rs] ∧ GoodA al n i rs ∧ Q (.str (textA al n i (sortR rs)))
theorem ar_automaton_text {a : Adr} : ∀ ds Q, tf_automaton_text a ds Q → ds.length = 1 := by
  rintro ds Q ⟨_, _, _, _, rfl, _⟩
  rfl
local macro_rules | `(tactic| walk_at "go") => `(tactic| simp only [tf__law_draws, tf__law_pull, tf__law_any, tf_is_number, tf_is_word, tf_is_alphabet, tf__law_alphabet, tf_is_transition, tf_Automaton___init__, tf_Automaton_transitions, tf_Automaton___eq__, tf__law_mixed, tf__law_rows, tf__law_spec, tf__law_made, tf_is_count, tf_head_value, tf_read_row, tf_read_automaton, tf_automaton_text, fn_alphabet_size, fn_alphabet_initial, fn_alphabet_own_moves, fn_size_alphabet, fn_size_initial, fn_size_own_moves, fn_initial_alphabet, fn_initial_size, fn_initial_own_moves, fn_own_moves_alphabet, fn_own_moves_size, fn_own_moves_initial, ati0, ati1, ati2, ati3, dLRg, dM1, rEndsD, rSplitD, rStartsD, rLeTD, dsNil, dsSeq, dsDrop, dsRet, dsRetF, dsRetN, dsRetO, dsIf, dsSet, dsOwn, dsFrz, dsPar, dsMul, setK, dkE, dkF, dkNil, rLenSet, rSortD, rMaxD, dFnK, dsAug, augD, dsApp, dsAsg, dsFor, dsBreak, dsCont, dgName, dgTup, dgCons, dgNil, dVar, dPeek, dC, d1, d2, d3, dAnd, dOr, dNot, dTest, dTestB, truD, dtAnd, dtOr, dtNot, dIf, dLst, dTup, dCall, dFn, daCons, daNil, rAddD, rMulD, rMulF, rII, rEqDD, rNeDD, rOrdD, rInDD, rIxD, rSlD, dSl, dSlF, doSome, doNone, rLenD, rIntD, rMM, rAllD, rListD, rTupD, rStrI, rIsiD, rIsiLT, rNegD, dJoin, rJoinD, diSeq, diRng1, diRng2, diEnum, diZip, itemsD, dLc, lcF, dtsNil, dLc2, lcF2, Sl.dat, tyN, isNon, knownD, isIntD, isBoolD, isStrD, isListD, isTupD, isSeqD,
  List.getElem?_cons_succ, List.getElem?_cons_zero, List.set_cons_succ, List.set_cons_zero, List.cons_append, List.nil_append, List.append_nil, List.replicate_succ, List.replicate_zero, List.length_cons, List.length_nil, Nat.reduceAdd, Nat.reduceSub, Int.reduceToNat, Int.reducePow, wipeS, List.map_cons, List.map_nil, Option.bind_some, Option.some.injEq, D.int.injEq, D.bl.injEq, D.str.injEq, D.lst.injEq, D.tup.injEq, Sl.val.injEq, Sl.own.injEq, List.cons.injEq, and_true, true_and, ex_eq, exists_eq_left, exists_eq_left', exists_eq, exists_eq', and_assoc, exists_and_left, if_true, if_false, ite_true, ite_false, Bool.false_eq_true, Bool.not_true, Bool.not_false, reduceCtorEq, ↓reduceIte, Option.isSome_some, Option.isSome_none, false_and, and_false, exists_false, D.ins.injEq, D.raw.injEq, V.ref.injEq, eq_self, dFld, dsFld, dMeth, dOp2, dRadd, dGet, dEqI, rIsiC, rIsiX, dFmt, dFmtR, dJoined, dJs, dOwn1, rStrO, rLenO, rReprS, rListS, dSS, rSS, dEqX, dNeX, okOther, dsDput, dGetR, dInR, dsFrzL, dLk, diKeys, dDc, dcF, dDc2, dcF2, dsIns, rEqDic, rLenDic, D.dic.injEq, id, getF, putN, putV, permL_cons, permL_nil, Option.toList_some, iteAnd, iteOr, wpFor, wpMap])
theorem ok_automaton_text (T : Txt K mg a) : FnOk P w K mg base CX0 4 a.f_automaton_text a.fd_automaton_text ["automaton"] (spE 1 (tf_automaton_text a)) := by
  refine ok_E T.F_automaton_text sc_automaton_text rfl (fun cdv A outer s H E hr => ⟨_, (ds_cons (ds_own (i := 1) sc_automaton_text.nd rfl (Or.inl rfl) (df_lst (da_cons (de_joined (.cons (de_str) (.cons (de_fmt (de_fld (dp_var (pv 0)) T.cl_Automaton T.no_Automaton_alphabet)) .nil))) (da_cons (de_joined (.cons (de_str) (.cons (de_fmt (de_fld (dp_var (pv 0)) T.cl_Automaton T.no_Automaton_size)) .nil))) (da_cons (de_joined (.cons (de_str) (.cons (de_fmt (de_fld (dp_var (pv 0)) T.cl_Automaton T.no_Automaton_initial)) .nil))) da_nil)))))
      (ds_cons (ds_for (di_seq (de_meth0 (de_var (pv 0)) T.cl_Automaton T.m_Automaton_transitions (ok_Automaton_transitions T) (hr.mono (by first | decide | omega)) (b0_Automaton_transitions T) (fun _ _ _ => .nil) ar_Automaton_transitions)) (dg_tup (n := 4) (dgs_cons (dg_name (i := 2) sc_automaton_text.nd rfl (Or.inl rfl)) (dgs_cons (dg_name (i := 3) sc_automaton_text.nd rfl (Or.inl rfl)) (dgs_cons (dg_name (i := 4) sc_automaton_text.nd rfl (Or.inl rfl)) (dgs_cons (dg_name (i := 5) sc_automaton_text.nd rfl (Or.inl rfl)) dgs_nil))))) (ds_one (ds_app (pv 1) (de_joined (.cons (de_fmt (de_var (pv 2))) (.cons (de_str) (.cons (de_fmt (de_var (pv 3))) (.cons (de_str) (.cons (de_fmt (de_var (pv 4))) (.cons (de_str) (.cons (de_fmt (de_var (pv 5))) .nil)))))))))))
      (ds_one (ds_ret (de_join (PE.toP (de_str)) (PE.toP (PE.toE (df_lcP (own := [("row", 6)]) (di_peek (dp_var (pv 1))) sc_automaton_text.nd (blkOk_by (own := [("row", 6)]) (N := N_automaton_text) (sc := defScope s_automaton_text) (by decide +kernel)) (fun _ _ _ _ _ => (dg_name (i := 6) sc_automaton_text.nd rfl (Or.inl rfl))) (fun _ _ _ _ _ => dts_nil) (fun _ _ _ _ _ => (de_add (dp_var (pv 6)) (PE.toP (de_str)))))))))))), fun ds Qd hd h => ?_⟩)
  obtain ⟨al, n, i, rs, rfl, h⟩ := h
  simp only [List.map_cons, List.map_nil]

  obtain ⟨hg, h⟩ := h
  have emp : (Str.ofString "").cps.toList = [] := empty_eq
  have nl : (Str.ofString "\n").cps.toList = [10] := by decide +kernel
  have sp : (Str.ofString " ").cps.toList = [32] := by decide +kernel
  have w1 : (Str.ofString "alphabet ").cps.toList = wAl ++ [32] := by decide +kernel
  have w2 : (Str.ofString "states ").cps.toList = wSt ++ [32] := by decide +kernel
  have w3 : (Str.ofString "initial ").cps.toList = wIn ++ [32] := by decide +kernel
  have l1 : (wAl ++ [32]).length = 9 := rfl
  have l2 : (wSt ++ [32]).length = 7 := rfl
  have l3 : (wIn ++ [32]).length = 8 := rfl
  have hn0 := hg.lo
  have hn1 := hg.hi
  have hi := hg.ini
  have hlen := hg.len
  have h3 := alpha_len hg.alp
  have dn := (dec_ok (k := n) (by omega)).2.2.1
  have di := (dec_ok (k := i) (by omega)).2.2.1
  unfold autD
  refine seq_cut fun R hR => ?_
  walk_at "go"
  rw [w1, w2, w3, l1, l2, l3]
  refine ⟨by decide, by show _ ≤ 16777216; omega, by show _ ≤ 16777216; omega, by decide, small_log (by omega), by show _ ≤ 16777216; omega, by decide, small_log (by omega), by show _ ≤ 16777216; omega, by decide, ?_⟩
  subst hR
  refine seq_cut fun R hR => ?_
  refine for_cutG fun G hG => ?_
  walk_at "go"
  refine ⟨by decide, al, n, i, rs, rfl, hg, hG _ ?_⟩
  clear hG G
  rw [sortR_map]
  refine wpFor_inv (fun j S => ∃ c2 c3 c4 c5 c6, S = [.val (autD a.C_Automaton al n i rs), .own (.lst ((linesA al n i ((sortR rs).take j)).map D.str)), c2, c3, c4, c5, c6]) 0 ⟨_, _, _, _, _, rfl⟩ (fun j d S De' hj hI hnx _ _ _ _ => ?_) (fun S hI => ?_)
  · obtain ⟨c2, c3, c4, c5, c6, rfl⟩ := hI
    have e0 : 0 + j = j := Nat.zero_add j
    rw [e0] at hnx ⊢
    rw [List.getElem?_map] at hj
    obtain ⟨r, hr, rfl⟩ := Option.map_eq_some_iff.mp hj
    have hmem := (sortR_perm rs).mem_iff.mp (List.mem_of_getElem? hr)
    have ht : ((sortR rs).take j).length ≤ 80000 := by rw [List.length_take, (sortR_perm rs).length_eq]; omega
    have hs1 := hg.src r hmem
    have ht1 := hg.tgt r hmem
    have d1 := (dec_ok (k := r.s) (by omega)).2.2.1
    have d2 := (dec_ok (k := r.t) (by omega)).2.2.1
    have lw : (wC r.w).length = 4 := by cases r.w <;> rfl
    rw [show rowD r = D.tup [D.int r.s, D.str [r.l], D.int r.t, D.str (wC r.w)] from rfl]
    unfold autD
    walk_at "tg"
    refine ⟨_, _, ⟨rfl, rfl⟩, _, _, rfl, _, _, rfl, _, _, rfl, rfl, ?_⟩
    walk_at "go"
    rw [sp]
    refine ⟨small_log (by omega), by show _ ≤ 16777216; omega, by show _ ≤ 16777216; simp; omega, by decide, by show _ ≤ 16777216; simp; omega, by show _ ≤ 16777216; simp; omega, small_log (by omega),
      by show _ ≤ 16777216; simp; omega, by show _ ≤ 16777216; simp; omega, by show _ ≤ 16777216; omega, by show _ ≤ 16777216; simp; omega, by show _ < 16777216; simp [linesA] at ht ⊢; omega, ?_⟩
    refine hnx _ ⟨.val (.int r.s), .val (.str [r.l]), .val (.int r.t), .val (.str (wC r.w)), c6, ?_⟩
    have et : (linesA al n i ((sortR rs).take (j + 1))).map D.str = (linesA al n i ((sortR rs).take j)).map D.str ++ [.str (lineR r)] := by
      unfold linesA
      rw [List.take_add_one, hr, Option.toList_some, List.map_append, List.map_append, List.map_append, List.append_assoc]
      rfl
    rw [et]
    rfl
  · obtain ⟨c2, c3, c4, c5, c6, rfl⟩ := hI
    rw [Nat.zero_add, List.length_map, List.take_length]
    show R _
    subst hR
    walk_at "go"
    have hgS : GoodA al n i (sortR rs) := hg.permA (sortR_perm rs)
    rw [nl, emp]
    refine ⟨by rw [List.length_map]; show _ ≤ 16777216; simp [linesA, (sortR_perm rs).length_eq]; omega, ?_⟩
    refine wpMap_on (kf := D.str) (fun x => .str (x ++ [10])) (fun x hx k q => ⟨by have := lines_len hgS x hx; show _ ≤ 16777216; simp; omega, q⟩) ?_
    refine ⟨(linesA al n i (sortR rs)).map (· ++ [10]), ?_, ?_, ?_⟩
    · rw [show ((linesA al n i (sortR rs)).map fun x => D.str (x ++ [10])) = ((linesA al n i (sortR rs)).map (· ++ [10])).map D.str by rw [List.map_map]; rfl]
      exact strsD_map _
    · have := textA_len hgS
      rw [text_sum, List.length_nil, Nat.mul_zero, Nat.add_zero]
      exact Nat.le_trans this (by decide)
    · rw [← text_join]
      exact h
/-! ### _law_text_of -/
def tf__law_text_of : TDF := fun ds Q => ∃ (al : List Nat) (n : Nat) (i : Nat) (rs : List Row), ds = [specD al n rs i] ∧ GoodA al n i rs ∧ Q (.str (textA al n i (sortR rs)))
theorem ar__law_text_of : ∀ ds Q, tf__law_text_of ds Q → ds.length = 1 := by
  rintro ds Q ⟨_, _, _, _, rfl, _⟩
  rfl
local macro_rules | `(tactic| walk_at "go") => `(tactic| simp only [tf__law_draws, tf__law_pull, tf__law_any, tf_is_number, tf_is_word, tf_is_alphabet, tf__law_alphabet, tf_is_transition, tf_Automaton___init__, tf_Automaton_transitions, tf_Automaton___eq__, tf__law_mixed, tf__law_rows, tf__law_spec, tf__law_made, tf_is_count, tf_head_value, tf_read_row, tf_read_automaton, tf_automaton_text, tf__law_text_of, fn_alphabet_size, fn_alphabet_initial, fn_alphabet_own_moves, fn_size_alphabet, fn_size_initial, fn_size_own_moves, fn_initial_alphabet, fn_initial_size, fn_initial_own_moves, fn_own_moves_alphabet, fn_own_moves_size, fn_own_moves_initial, ati0, ati1, ati2, ati3, dLRg, dM1, rEndsD, rSplitD, rStartsD, rLeTD, dsNil, dsSeq, dsDrop, dsRet, dsRetF, dsRetN, dsRetO, dsIf, dsSet, dsOwn, dsFrz, dsPar, dsMul, setK, dkE, dkF, dkNil, rLenSet, rSortD, rMaxD, dFnK, dsAug, augD, dsApp, dsAsg, dsFor, dsBreak, dsCont, dgName, dgTup, dgCons, dgNil, dVar, dPeek, dC, d1, d2, d3, dAnd, dOr, dNot, dTest, dTestB, truD, dtAnd, dtOr, dtNot, dIf, dLst, dTup, dCall, dFn, daCons, daNil, rAddD, rMulD, rMulF, rII, rEqDD, rNeDD, rOrdD, rInDD, rIxD, rSlD, dSl, dSlF, doSome, doNone, rLenD, rIntD, rMM, rAllD, rListD, rTupD, rStrI, rIsiD, rIsiLT, rNegD, dJoin, rJoinD, diSeq, diRng1, diRng2, diEnum, diZip, itemsD, dLc, lcF, dtsNil, dLc2, lcF2, Sl.dat, tyN, isNon, knownD, isIntD, isBoolD, isStrD, isListD, isTupD, isSeqD,
  List.getElem?_cons_succ, List.getElem?_cons_zero, List.set_cons_succ, List.set_cons_zero, List.cons_append, List.nil_append, List.append_nil, List.replicate_succ, List.replicate_zero, List.length_cons, List.length_nil, Nat.reduceAdd, Nat.reduceSub, Int.reduceToNat, Int.reducePow, wipeS, List.map_cons, List.map_nil, Option.bind_some, Option.some.injEq, D.int.injEq, D.bl.injEq, D.str.injEq, D.lst.injEq, D.tup.injEq, Sl.val.injEq, Sl.own.injEq, List.cons.injEq, and_true, true_and, ex_eq, exists_eq_left, exists_eq_left', exists_eq, exists_eq', and_assoc, exists_and_left, if_true, if_false, ite_true, ite_false, Bool.false_eq_true, Bool.not_true, Bool.not_false, reduceCtorEq, ↓reduceIte, Option.isSome_some, Option.isSome_none, false_and, and_false, exists_false, D.ins.injEq, D.raw.injEq, V.ref.injEq, eq_self, dFld, dsFld, dMeth, dOp2, dRadd, dGet, dEqI, rIsiC, rIsiX, dFmt, dFmtR, dJoined, dJs, dOwn1, rStrO, rLenO, rReprS, rListS, dSS, rSS, dEqX, dNeX, okOther, dsDput, dGetR, dInR, dsFrzL, dLk, diKeys, dDc, dcF, dDc2, dcF2, dsIns, rEqDic, rLenDic, D.dic.injEq, id, getF, putN, putV, permL_cons, permL_nil, Option.toList_some, iteAnd, iteOr, wpFor, wpMap])
theorem ok__law_text_of (T : Txt K mg a) : FnOk P w K mg base CX0 2 a.f__law_text_of a.fd__law_text_of ["_law_spec_here"] (spE 1 tf__law_text_of) := by
  refine ok_E T.F__law_text_of sc__law_text_of rfl (fun cdv A outer s H E hr => ⟨_, (ds_cons (ds_set (i := 1) sc__law_text_of.nd rfl (Or.inl rfl) (PE.toE (df_lst (da_cons (de_add (PE.toP (de_str)) (PE.toP (de_item (dp_var (pv 0)) (PE.toP (de_int))))) (da_cons (de_add (PE.toP (de_str)) (PE.toP (de_strI T.n_str (dap_cons (PE.toP (de_item (dp_var (pv 0)) (PE.toP (de_int)))) dap_nil)))) (da_cons (de_add (PE.toP (de_str)) (PE.toP (de_strI T.n_str (dap_cons (PE.toP (de_item (dp_var (pv 0)) (PE.toP (de_int)))) dap_nil)))) da_nil))))))
      (ds_cons (ds_set (i := 1) sc__law_text_of.nd rfl (Or.inl rfl) (de_add (dp_var (pv 1)) (PE.toP (PE.toE (df_lc (own := [("_law_row", 2)]) (di_seq (PE.toE (df_sorted (u70 hr) T.n_sorted (dap_cons (PE.toP (de_item (dp_var (pv 0)) (PE.toP (de_int)))) dap_nil)))) sc__law_text_of.nd (blkOk_by (own := [("_law_row", 2)]) (N := N__law_text_of) (sc := defScope s__law_text_of) (by decide +kernel)) (fun _ _ _ _ _ => (dg_name (i := 2) sc__law_text_of.nd rfl (Or.inl rfl))) (fun _ _ _ _ _ => dts_nil) (fun _ _ _ _ _ => (de_add (PE.toP (de_add (PE.toP (de_add (PE.toP (de_add (PE.toP (de_add (PE.toP (de_add (PE.toP (de_strI T.n_str (dap_cons (PE.toP (de_item (dp_var (pv 2)) (PE.toP (de_int)))) dap_nil))) (PE.toP (de_str)))) (PE.toP (de_item (dp_var (pv 2)) (PE.toP (de_int)))))) (PE.toP (de_str)))) (PE.toP (de_strI T.n_str (dap_cons (PE.toP (de_item (dp_var (pv 2)) (PE.toP (de_int)))) dap_nil))))) (PE.toP (de_str)))) (PE.toP (de_item (dp_var (pv 2)) (PE.toP (de_int)))))))))))
      (ds_one (ds_ret (de_join (PE.toP (de_str)) (PE.toP (PE.toE (df_lc (own := [("_law_row", 2)]) (di_seq (de_var (pv 1))) sc__law_text_of.nd (blkOk_by (own := [("_law_row", 2)]) (N := N__law_text_of) (sc := defScope s__law_text_of) (by decide +kernel)) (fun _ _ _ _ _ => (dg_name (i := 2) sc__law_text_of.nd rfl (Or.inl rfl))) (fun _ _ _ _ _ => dts_nil) (fun _ _ _ _ _ => (de_add (dp_var (pv 2)) (PE.toP (de_str)))))))))))), fun ds Qd hd h => ?_⟩)
  obtain ⟨al, n, i, rs, rfl, h⟩ := h
  simp only [List.map_cons, List.map_nil]

  obtain ⟨hg, h⟩ := h
  have emp : (Str.ofString "").cps.toList = [] := empty_eq
  have nl : (Str.ofString "\n").cps.toList = [10] := by decide +kernel
  have sp : (Str.ofString " ").cps.toList = [32] := by decide +kernel
  have w1 : (Str.ofString "alphabet ").cps.toList = wAl ++ [32] := by decide +kernel
  have w2 : (Str.ofString "states ").cps.toList = wSt ++ [32] := by decide +kernel
  have w3 : (Str.ofString "initial ").cps.toList = wIn ++ [32] := by decide +kernel
  have l1 : (wAl ++ [32]).length = 9 := rfl
  have l2 : (wSt ++ [32]).length = 7 := rfl
  have l3 : (wIn ++ [32]).length = 8 := rfl
  have hn0 := hg.lo
  have hn1 := hg.hi
  have hi := hg.ini
  have hlen := hg.len
  have h3 := alpha_len hg.alp
  have dn := (dec_ok (k := n) (by omega)).2.2.1
  have di := (dec_ok (k := i) (by omega)).2.2.1
  unfold specD
  refine seq_cut fun R hR => ?_
  walk_at "go"
  rw [w1, w2, w3, l1, l2, l3]
  refine ⟨by show _ ≤ 16777216; omega, small_log (by omega), by show _ ≤ 16777216; omega, small_log (by omega), by show _ ≤ 16777216; omega, by decide, ?_⟩
  subst hR
  refine seq_cut fun R hR => ?_
  walk_at "go"
  rw [sp, sortR_map]
  have hsl := (sortR_perm rs).length_eq
  refine ⟨rows_can hg, by rw [List.length_map]; show _ ≤ 16777216; omega, ?_⟩
  refine wpMap_on (kf := rowD) (fun r => .str (lineR r)) (fun r hr k q => ?_) ?_
  · have hmem := (sortR_perm rs).mem_iff.mp hr
    have h1 := hg.src r hmem
    have h2 := hg.tgt r hmem
    have d1 := (dec_ok (k := r.s) (by omega)).2.2.1
    have d2 := (dec_ok (k := r.t) (by omega)).2.2.1
    have lw : (wC r.w).length = 4 := by cases r.w <;> rfl
    refine ⟨_, rfl, small_log (by omega), by show _ ≤ 16777216; simp; omega, _, rfl, by show _ ≤ 16777216; simp; omega, by show _ ≤ 16777216; simp; omega, _, rfl, small_log (by omega), by show _ ≤ 16777216; simp; omega, by show _ ≤ 16777216; simp; omega, _, rfl, by show _ ≤ 16777216; simp; omega, q⟩
  refine ⟨by show _ ≤ 16777216; simp; omega, ?_⟩
  have el : ∀ s0 l, l = (linesA al n i (sortR rs)).map D.str → R [s0, .val (.lst ((linesA al n i (sortR rs)).map D.str)), .no] → R [s0, .val (.lst l), .no] := fun s0 l e h => e ▸ h
  refine el _ _ (by simp [linesA]) ?_
  subst hR
  walk_at "go"
  have hgS : GoodA al n i (sortR rs) := hg.permA (sortR_perm rs)
  rw [nl, emp]
  refine ⟨by rw [List.length_map]; show _ ≤ 16777216; simp [linesA, (sortR_perm rs).length_eq]; omega, ?_⟩
  refine wpMap_on (kf := D.str) (fun x => .str (x ++ [10])) (fun x hx k q => ⟨by have := lines_len hgS x hx; show _ ≤ 16777216; simp; omega, q⟩) ?_
  refine ⟨(linesA al n i (sortR rs)).map (· ++ [10]), ?_, ?_, ?_⟩
  · rw [show ((linesA al n i (sortR rs)).map fun x => D.str (x ++ [10])) = ((linesA al n i (sortR rs)).map (· ++ [10])).map D.str by rw [List.map_map]; rfl]
    exact strsD_map _
  · have := textA_len hgS
    rw [text_sum, List.length_nil, Nat.mul_zero, Nat.add_zero]
    exact Nat.le_trans this (by decide)
  · rw [← text_join]
    exact h
end
end L2.DL.LW


set_option Elab.async false
set_option linter.all false
set_option maxRecDepth 100000
set_option maxHeartbeats 4000000
namespace L2.DL.LW
open PySem PySem.Spec PyProof.Rows
local macro_rules | `(tactic| walk_at "ev") => `(tactic| simp only [dsNil, dsSeq, dsDrop, dsRet, dsRetF, dsRetN, dsRetO, dsIf, dsSet, dsOwn, dsFrz, dsPar, dsMul, setK, dkE, dkF, dkNil, rLenSet, rSortD, rMaxD, dFnK, dsAug, augD, dsApp, dsAsg, dsFor, dsBreak, dsCont, dgName, dgTup, dgCons, dgNil, dVar, dPeek, dC, d1, d2, d3, dAnd, dOr, dNot, dTest, dTestB, truD, dtAnd, dtOr, dtNot, dIf, dLst, dTup, dCall, dFn, daCons, daNil, rAddD, rMulD, rMulF, rII, rEqDD, rNeDD, rOrdD, rInDD, rIxD, rSlD, dSl, dSlF, doSome, doNone, rLenD, rIntD, rMM, rAllD, rListD, rTupD, rStrI, rIsiD, rIsiLT, rNegD, dJoin, rJoinD, diSeq, diRng1, diRng2, diEnum, diZip, itemsD, dLc, lcF, dtsNil, dLc2, lcF2, Sl.dat, tyN, isNon, knownD, isIntD, isBoolD, isStrD, isListD, isTupD, isSeqD,
  List.getElem?_cons_succ, List.getElem?_cons_zero, List.set_cons_succ, List.set_cons_zero, List.cons_append, List.nil_append, List.append_nil, List.replicate_succ, List.replicate_zero, List.length_cons, List.length_nil, Nat.reduceAdd, Nat.reduceSub, Int.reduceToNat, Int.reducePow, wipeS, List.map_cons, List.map_nil, Option.bind_some, Option.some.injEq, D.int.injEq, D.bl.injEq, D.str.injEq, D.lst.injEq, D.tup.injEq, Sl.val.injEq, Sl.own.injEq, List.cons.injEq, and_true, true_and, ex_eq, exists_eq_left, exists_eq_left', exists_eq, exists_eq', and_assoc, exists_and_left, if_true, if_false, ite_true, ite_false, Bool.false_eq_true, Bool.not_true, Bool.not_false, reduceCtorEq, ↓reduceIte, Option.isSome_some, Option.isSome_none, false_and, and_false, exists_false, D.ins.injEq, D.raw.injEq, V.ref.injEq, eq_self, dFld, dsFld, dMeth, dOp2, dRadd, dGet, dEqI, rIsiC, rIsiX, dFmt, dFmtR, dJoined, dJs, dOwn1, rStrO, rLenO, rReprS, rListS, dSS, rSS, dEqX, dNeX, okOther, dsDput, dGetR, dInR, dsFrzL, dLk, diKeys, dDc, dcF, dDc2, dcF2, dsIns, rEqDic, rLenDic, D.dic.injEq, id, getF, putN, putV, permL_cons, permL_nil, Option.toList_some, iteAnd, iteOr, wpFor, wpMap])
local macro_rules | `(tactic| walk_at "yes") => `(tactic| repeat (refine ⟨by first | decide | decide +kernel | omega, ?_⟩))
local macro_rules | `(tactic| walk_at "sd") => `(tactic| first | omega | (show _ ≤ 16777216; omega) | (show _ < 16777216; omega) | (show _ ≤ 16777216; simp only [repL_length, List.length_append, List.length_map, List.length_range, List.length_cons, List.length_nil, List.length_drop, List.length_take, Int.reduceToNat]; omega) | (show _ < 16777216; simp only [repL_length, List.length_append, List.length_map, List.length_range, List.length_cons, List.length_nil, List.length_drop, List.length_take, Int.reduceToNat]; omega) | (simp only [repL_length, List.length_append, List.length_map, List.length_range, List.length_cons, List.length_nil, List.length_drop, List.length_take, Int.reduceToNat]; omega) | decide | with_reducible assumption)
local macro_rules | `(tactic| walk_at "au") => `(tactic| repeat (refine ⟨by walk_at "sd", ?_⟩))
local macro_rules | `(tactic| walk_at "tg") => `(tactic| simp only [dgName, dgTup, dgCons, dgNil, itemsD, List.set_cons_succ, List.set_cons_zero, Option.some.injEq, D.tup.injEq, exists_eq_left', List.cons.injEq, and_true, true_and, List.length_cons, List.length_nil, Nat.reduceAdd])
local macro_rules | `(tactic| walk_at "lm") => `(tactic| simp only [lamS, wipeO, List.map_cons, List.map_nil, List.set_cons_succ, List.set_cons_zero])

section
variable {P : Program} {w : World} {K : PySem.W.Frag} {mg : Str → Option Value} {base : Heap} {a : Adr}
/-! ### law -/
def tf_law : TDF := fun ds Q => ds = [.non] ∧ False
theorem ar_law : ∀ ds Q, tf_law ds Q → ds.length = 1 := by
  rintro ds Q ⟨rfl, _⟩
  rfl
local macro_rules | `(tactic| walk_at "go") => `(tactic| simp only [tf__law_draws, tf__law_pull, tf__law_any, tf_is_number, tf_is_word, tf_is_alphabet, tf__law_alphabet, tf_is_transition, tf_Automaton___init__, tf_Automaton_transitions, tf_Automaton___eq__, tf__law_mixed, tf__law_rows, tf__law_spec, tf__law_made, tf_is_count, tf_head_value, tf_read_row, tf_read_automaton, tf_automaton_text, tf__law_text_of, tf_law, fn_alphabet_size, fn_alphabet_initial, fn_alphabet_own_moves, fn_size_alphabet, fn_size_initial, fn_size_own_moves, fn_initial_alphabet, fn_initial_size, fn_initial_own_moves, fn_own_moves_alphabet, fn_own_moves_size, fn_own_moves_initial, ati0, ati1, ati2, ati3, dLRg, dM1, rEndsD, rSplitD, rStartsD, rLeTD, dsNil, dsSeq, dsDrop, dsRet, dsRetF, dsRetN, dsRetO, dsIf, dsSet, dsOwn, dsFrz, dsPar, dsMul, setK, dkE, dkF, dkNil, rLenSet, rSortD, rMaxD, dFnK, dsAug, augD, dsApp, dsAsg, dsFor, dsBreak, dsCont, dgName, dgTup, dgCons, dgNil, dVar, dPeek, dC, d1, d2, d3, dAnd, dOr, dNot, dTest, dTestB, truD, dtAnd, dtOr, dtNot, dIf, dLst, dTup, dCall, dFn, daCons, daNil, rAddD, rMulD, rMulF, rII, rEqDD, rNeDD, rOrdD, rInDD, rIxD, rSlD, dSl, dSlF, doSome, doNone, rLenD, rIntD, rMM, rAllD, rListD, rTupD, rStrI, rIsiD, rIsiLT, rNegD, dJoin, rJoinD, diSeq, diRng1, diRng2, diEnum, diZip, itemsD, dLc, lcF, dtsNil, dLc2, lcF2, Sl.dat, tyN, isNon, knownD, isIntD, isBoolD, isStrD, isListD, isTupD, isSeqD,
  List.getElem?_cons_succ, List.getElem?_cons_zero, List.set_cons_succ, List.set_cons_zero, List.cons_append, List.nil_append, List.append_nil, List.replicate_succ, List.replicate_zero, List.length_cons, List.length_nil, Nat.reduceAdd, Nat.reduceSub, Int.reduceToNat, Int.reducePow, wipeS, List.map_cons, List.map_nil, Option.bind_some, Option.some.injEq, D.int.injEq, D.bl.injEq, D.str.injEq, D.lst.injEq, D.tup.injEq, Sl.val.injEq, Sl.own.injEq, List.cons.injEq, and_true, true_and, ex_eq, exists_eq_left, exists_eq_left', exists_eq, exists_eq', and_assoc, exists_and_left, if_true, if_false, ite_true, ite_false, Bool.false_eq_true, Bool.not_true, Bool.not_false, reduceCtorEq, ↓reduceIte, Option.isSome_some, Option.isSome_none, false_and, and_false, exists_false, D.ins.injEq, D.raw.injEq, V.ref.injEq, eq_self, dFld, dsFld, dMeth, dOp2, dRadd, dGet, dEqI, rIsiC, rIsiX, dFmt, dFmtR, dJoined, dJs, dOwn1, rStrO, rLenO, rReprS, rListS, dSS, rSS, dEqX, dNeX, okOther, dsDput, dGetR, dInR, dsFrzL, dLk, diKeys, dDc, dcF, dDc2, dcF2, dsIns, rEqDic, rLenDic, D.dic.injEq, id, getF, putN, putV, permL_cons, permL_nil, Option.toList_some, iteAnd, iteOr, wpFor, wpMap])

theorem law_at (T : Txt K mg a) : FnOk P w K mg base CX0 70 a.f_law a.fd_law ["_law_script"] (spLaw K) := by
  refine T.F_law.ok sc_law (fun vs H Q E h => ?_) (fun cdv A outer s H vs Q E hr h => ?_)
  · obtain ⟨sc, ns, rfl, _⟩ := h
    rfl
  · obtain ⟨sc, ns, rfl, hS, hlen, q⟩ := h
    refine ⟨_, PSs.nox (pss_cons (ps_set (i := 1) sc_law.nd rfl (Or.inl rfl) (pe_call (ok__law_draws T) (hr.mono (by decide)) (by rfl) T.g__law_draws (k__law_draws T) (T.F__law_draws.bindsN (ps := ["_law_script"]) fun _ _ _ _ _ _ us hl => match us, hl with | [_], _ => rfl) .nil pass0 (pa_cons (pv 0) pa_nil)))
      (ds_cons (ds_for (di_range1 T.n_range (dap_cons (PE.toP (de_int)) dap_nil)) (dg_name (i := 2) sc_law.nd rfl (Or.inl rfl)) (ds_cons (ds_set (i := 3) sc_law.nd rfl (Or.inl rfl) (de_fn (ok__law_any T) (hr.mono (by first | decide | omega)) T.g__law_any (k__law_any T) (b0__law_any T) (fun _ _ _ => .nil) (da_cons (de_var (pv 1)) (da_cons (PE.toE (df_lst (da_cons (de_int) (da_cons (de_int) (da_cons (de_int) (da_cons (de_int) da_nil)))))) da_nil)) ar__law_any))
      (ds_cons (ds_set (i := 4) sc_law.nd rfl (Or.inl rfl) (PE.toE (df_fn (ok__law_spec T) (hr.mono (by first | decide | omega)) T.g__law_spec (k__law_spec T) (b0__law_spec T) (fun _ _ _ => .nil) (da_cons (de_var (pv 1)) (da_cons (de_var (pv 3)) (da_cons (de_and (PE.toP (de_lt (dp_var (pv 3)) (PE.toP (de_int)))) (de_one (de_eq hr.units (PE.toP (de_fn (ok__law_pull T) (hr.mono (by first | decide | omega)) T.g__law_pull (k__law_pull T) (b0__law_pull T) (fun _ _ _ => .nil) (da_cons (de_var (pv 1)) (da_cons (de_int) da_nil)) ar__law_pull)) (PE.toP (de_int))))) da_nil))) ar__law_spec)))
      (ds_cons (ds_set (i := 5) sc_law.nd rfl (Or.inl rfl) (PE.toE (df_fn (ok__law_made T) (hr.mono (by first | decide | omega)) T.g__law_made (k__law_made T) (b0__law_made T) (fun _ _ _ => .nil) (da_cons (de_var (pv 4)) da_nil) ar__law_made)))
      (ds_cons (ds_set (i := 6) sc_law.nd rfl (Or.inl rfl) (de_fn (ok__law_text_of T) (hr.mono (by first | decide | omega)) T.g__law_text_of (k__law_text_of T) (b0__law_text_of T) (fun _ _ _ => .nil) (da_cons (de_var (pv 4)) da_nil) ar__law_text_of))
      (ds_one (ds_if (PW.pt (dt_or (dt_ne hr.units (PE.toP (de_fnK0 (ok_automaton_text T) (hr.mono (by first | decide | omega)) T.g_automaton_text (k_automaton_text T) (kb2_automaton_text T) (dw_cons (de_var (pv 5)) dw_nil) ar_automaton_text)) (dp_var (pv 6))) (dt_or (dt_not (dt_eqX (PE.toE (df_fn (ok_read_automaton T) (hr.mono (by first | decide | omega)) T.g_read_automaton (k_read_automaton T) (b0_read_automaton T) (fun _ _ _ => .nil) (da_cons (de_var (pv 6)) da_nil) ar_read_automaton)) (de_var (pv 5)) T.eq_Automaton (ok_Automaton___eq__ T) (hr.mono (by first | decide | omega)) (b0_Automaton___eq__ T))) (dt_or1 (dt_ne hr.units (PE.toP (de_fn (ok_automaton_text T) (hr.mono (by first | decide | omega)) T.g_automaton_text (k_automaton_text T) (b0_automaton_text T) (fun _ _ _ => .nil) (da_cons (PE.toE (df_fnK0 (ok_read_automaton T) (hr.mono (by first | decide | omega)) T.g_read_automaton (k_read_automaton T) (kb1_read_automaton T) (dw_cons (de_var (pv 6)) dw_nil) ar_read_automaton)) da_nil) ar_automaton_text)) (dp_var (pv 6))))))) (ds_one (ds_ret (de_bl))) ds_nil)))))))
      (ds_one (ds_ret (de_bl))))), ?_⟩
    refine ⟨.ref sc, rfl, sc, ns, rfl, hS, hlen, fun H' p l gr bg => ?_⟩
    refine lS_law (n := 5) bg (fun H' => q H') ?_
    refine seq_cut fun R hR => ?_
    refine for_rng (fun _ S => ∃ c2 c3 c4 c5 c6, S = [.no, .val .bag, c2, c3, c4, c5, c6]) (by decide) (by decide) ⟨_, _, _, _, _, rfl⟩ (fun j S De' _ hI hn _ _ hrt hrf => ?_) (fun S hI => ?_)
    · obtain ⟨c2, c3, c4, c5, c6, rfl⟩ := hI
      clear hR
      have hrt' : De'.rt = fun d => d = D.bl true := hrt
      clear hrt hrf
      refine seq_cut fun R hR => ?_
      walk_at "go"
      refine ⟨by decide, by decide, by decide, fun d hd => ?_⟩
      have hd' : ∃ m : Nat, d = .int m ∧ 1 ≤ m ∧ m ≤ 65 := by
        simp only [List.mem_cons, List.not_mem_nil, or_false] at hd
        rcases hd with rfl | rfl | rfl | rfl
        · exact ⟨5, rfl, by decide, by decide⟩
        · exact ⟨9, rfl, by decide, by decide⟩
        · exact ⟨65, rfl, by decide, by decide⟩
        · exact ⟨30, rfl, by decide, by decide⟩
      obtain ⟨m, rfl, m0, m1⟩ := hd'
      clear hd
      subst hR
      refine seq_cut fun R hR => ?_
      walk_at "go"
      have join : ∀ (al : List Nat) (n i : Nat) (rs : List Row), GoodA al n i rs → R [Sl.no, Sl.val D.bag, Sl.val (D.int j), Sl.val (D.int m), Sl.val (specD al n rs i), c5, c6] := ?_
      · by_cases h10 : (m : Int) < 10
        · rw [if_pos (decide_eq_true h10)]
          exact ⟨by decide, by decide, fun x _ _ => ⟨rfl, rfl, m, rfl, m0, m1, fun al n i rs _ hg _ => join al n i rs hg⟩⟩
        · rw [if_neg (by simpa using h10)]
          exact ⟨m, rfl, m0, m1, fun al n i rs _ hg _ => join al n i rs hg⟩
      intro al n i rs hg
      subst hR
      have hgS : GoodA al n i (sortR rs) := hg.permA (sortR_perm rs)
      refine seq_cut fun R hR => ?_
      walk_at "go"
      refine ⟨al, n, rs, i, rfl, hg, ?_⟩
      subst hR
      refine seq_cut fun R hR => ?_
      walk_at "go"
      refine ⟨al, n, i, rs, rfl, hg, ?_⟩
      subst hR
      walk_at "go"
      have okt := ascii_ok (textA_asc hgS)
      refine ⟨al, n, i, rs, rfl, hg, okt, okt, ?_⟩
      rw [if_neg (by rw [deqv_refl]; decide)]
      refine ⟨al, n, i, sortR rs, rfl, hgS, sortR_strict hg, ⟨_, _, rfl⟩, rfl, al, n, i, sortR rs, rfl, hgS, .inl ⟨_, _, _, _, rfl, hg⟩, ?_⟩
      rw [eqAut_aut hgS hg, if_neg (by simp [sortR_perm rs])]
      refine ⟨al, n, i, sortR rs, rfl, hgS, sortR_strict hg, al, n, i, sortR rs, rfl, hgS, ?_⟩
      rw [sortR_again]
      refine ⟨okt, okt, ?_⟩
      rw [if_neg (by rw [deqv_refl]; decide)]
      exact hn _ ⟨_, _, _, _, _, rfl⟩
    · obtain ⟨c2, c3, c4, c5, c6, rfl⟩ := hI
      subst hR
      walk_at "go"


end
end L2.DL.LW


set_option Elab.async false
set_option linter.all false
set_option maxRecDepth 100000
set_option maxHeartbeats 4000000
namespace L2.DL.LW
open PySem PySem.Spec PyProof.Rows
section
theorem funD_0 {K : PySem.W.Frag} {x ql : Str} {st : Stmt} {f : Addr} {od an : Option Addr} {sl : Array (Option Value)} {oc kV dc pm cd ct : Value} (l : K.lookup f = some ⟨oc, od, .func (PySem.W.fnOf x ql (defArgs st) (defBody st) (defScope st) .none kV dc pm an cd ct), sl⟩) (c : PySem.W.codeIn K cd ql = true) (k : PySem.W.keepIn K (.ref f) = true) :
    FunD K x ql (defArgs st) (defBody st) (defScope st) [] [] f (PySem.W.fnOf x ql (defArgs st) (defBody st) (defScope st) .none kV dc pm an cd ct) := ⟨⟨_, _, _, _, _, _, _, _, _, _, rfl, l, c, .inl ⟨rfl, rfl⟩, .inl rfl⟩, k⟩
theorem funD_1 {K : PySem.W.Frag} {x ql : Str} {st : Stmt} {f T : Addr} {od an td : Option Addr} {sl tl : Array (Option Value)} {oc kV dc pm cd ct tc : Value} {tn : Nat} {its : List Value} {dvs : List V} (l : K.lookup f = some ⟨oc, od, .func (PySem.W.fnOf x ql (defArgs st) (defBody st) (defScope st) (.ref T) kV dc pm an cd ct), sl⟩) (c : PySem.W.codeIn K cd ql = true) (k : PySem.W.keepIn K (.ref f) = true)
    (t : K.lookup T = some ⟨tc, td, .seq its.toArray tn, tl⟩) (v : Vals dvs its) (ne : dvs ≠ []) : FunD K x ql (defArgs st) (defBody st) (defScope st) dvs [] f (PySem.W.fnOf x ql (defArgs st) (defBody st) (defScope st) (.ref T) kV dc pm an cd ct) := ⟨⟨_, _, _, _, _, _, _, _, _, _, rfl, l, c, .inr ⟨ne, _, _, _, _, rfl, t, rfl, v⟩, .inl rfl⟩, k⟩
theorem funD_K {K : PySem.W.Frag} {x ql p : Str} {n : Int} {tk : Tok} {st : Stmt} {f D : Addr} {od an : Option Addr} {sl : Array (Option Value)} {oc dc pm cd ct : Value} (l : K.lookup f = some ⟨oc, od, .func (PySem.W.fnOf x ql (defArgs st) (defBody st) (defScope st) .none (.ref D) dc pm an cd ct), sl⟩) (c : PySem.W.codeIn K cd ql = true) (k : PySem.W.keepIn K (.ref f) = true) (h : PySem.W.nsIn K D p = some (some (.int n tk))) :
    FunD K x ql (defArgs st) (defBody st) (defScope st) [] [(p, V.int n)] f (PySem.W.fnOf x ql (defArgs st) (defBody st) (defScope st) .none (.ref D) dc pm an cd ct) := ⟨⟨_, _, _, _, _, _, _, _, _, _, rfl, l, c, .inl ⟨rfl, rfl⟩, .inr ⟨D, rfl, fun q hq => by
    cases List.mem_singleton.mp hq
    exact ⟨_, h, ⟨_, rfl⟩⟩⟩⟩, k⟩
theorem all_mk {P : Program} {w : World} {K : PySem.W.Frag} {h : Heap} {mg : Str → Option Value} {fa : Addr} (X : K.In h) (G : h.Ns mainGlobals mg) (hfa : mg "law" = some (.ref fa))
    {C0 : Addr} (aC_Automaton : PySem.W.nsIn K mainGlobals "Automaton" = some (some (.ref C0)))
    {f0 : Addr} {od0 an0 : Option Addr} {sl0 : Array (Option Value)} {oc0 kV0 dc0 pm0 cd0 ct0 : Value} (a0 : PySem.W.nsIn K mainGlobals "_law_draws" = some (some (.ref f0)))
    (l0 : K.lookup f0 = some ⟨oc0, od0, .func (PySem.W.fnOf "_law_draws" "_law_draws" (defArgs s__law_draws) (defBody s__law_draws) (defScope s__law_draws) .none kV0 dc0 pm0 an0 cd0 ct0), sl0⟩)
    (c0 : PySem.W.codeIn K cd0 "_law_draws" = true)
    (k0 : PySem.W.keepIn K (.ref f0) = true)
    {f1 : Addr} {od1 an1 : Option Addr} {sl1 : Array (Option Value)} {oc1 kV1 dc1 pm1 cd1 ct1 : Value} (a1 : PySem.W.nsIn K mainGlobals "_law_pull" = some (some (.ref f1)))
    (l1 : K.lookup f1 = some ⟨oc1, od1, .func (PySem.W.fnOf "_law_pull" "_law_pull" (defArgs s__law_pull) (defBody s__law_pull) (defScope s__law_pull) .none kV1 dc1 pm1 an1 cd1 ct1), sl1⟩)
    (c1 : PySem.W.codeIn K cd1 "_law_pull" = true)
    (k1 : PySem.W.keepIn K (.ref f1) = true)
    {f2 : Addr} {od2 an2 : Option Addr} {sl2 : Array (Option Value)} {oc2 kV2 dc2 pm2 cd2 ct2 : Value} (a2 : PySem.W.nsIn K mainGlobals "_law_any" = some (some (.ref f2)))
    (l2 : K.lookup f2 = some ⟨oc2, od2, .func (PySem.W.fnOf "_law_any" "_law_any" (defArgs s__law_any) (defBody s__law_any) (defScope s__law_any) .none kV2 dc2 pm2 an2 cd2 ct2), sl2⟩)
    (c2 : PySem.W.codeIn K cd2 "_law_any" = true)
    (k2 : PySem.W.keepIn K (.ref f2) = true)
    {f3 : Addr} {od3 an3 : Option Addr} {sl3 : Array (Option Value)} {oc3 kV3 dc3 pm3 cd3 ct3 : Value} (a3 : PySem.W.nsIn K mainGlobals "is_number" = some (some (.ref f3)))
    (l3 : K.lookup f3 = some ⟨oc3, od3, .func (PySem.W.fnOf "is_number" "is_number" (defArgs s_is_number) (defBody s_is_number) (defScope s_is_number) .none kV3 dc3 pm3 an3 cd3 ct3), sl3⟩)
    (c3 : PySem.W.codeIn K cd3 "is_number" = true)
    (k3 : PySem.W.keepIn K (.ref f3) = true)
    {f4 : Addr} {od4 an4 : Option Addr} {sl4 : Array (Option Value)} {oc4 kV4 dc4 pm4 cd4 ct4 : Value} {T4 : Addr} {td4 : Option Addr} {tl4 : Array (Option Value)} {tc4 : Value} {tn4 : Nat} (a4 : PySem.W.nsIn K mainGlobals "is_word" = some (some (.ref f4)))
    (l4 : K.lookup f4 = some ⟨oc4, od4, .func (PySem.W.fnOf "is_word" "is_word" (defArgs s_is_word) (defBody s_is_word) (defScope s_is_word) (.ref T4) kV4 dc4 pm4 an4 cd4 ct4), sl4⟩)
    (c4 : PySem.W.codeIn K cd4 "is_word" = true)
    (k4 : PySem.W.keepIn K (.ref f4) = true)
     {tk4_0 : Tok} (t4 : K.lookup T4 = some ⟨tc4, td4, .seq [Value.int 200 tk4_0].toArray tn4, tl4⟩)
    {f5 : Addr} {od5 an5 : Option Addr} {sl5 : Array (Option Value)} {oc5 kV5 dc5 pm5 cd5 ct5 : Value} (a5 : PySem.W.nsIn K mainGlobals "is_alphabet" = some (some (.ref f5)))
    (l5 : K.lookup f5 = some ⟨oc5, od5, .func (PySem.W.fnOf "is_alphabet" "is_alphabet" (defArgs s_is_alphabet) (defBody s_is_alphabet) (defScope s_is_alphabet) .none kV5 dc5 pm5 an5 cd5 ct5), sl5⟩)
    (c5 : PySem.W.codeIn K cd5 "is_alphabet" = true)
    (k5 : PySem.W.keepIn K (.ref f5) = true)
    {f6 : Addr} {od6 an6 : Option Addr} {sl6 : Array (Option Value)} {oc6 kV6 dc6 pm6 cd6 ct6 : Value} (a6 : PySem.W.nsIn K mainGlobals "_law_alphabet" = some (some (.ref f6)))
    (l6 : K.lookup f6 = some ⟨oc6, od6, .func (PySem.W.fnOf "_law_alphabet" "_law_alphabet" (defArgs s__law_alphabet) (defBody s__law_alphabet) (defScope s__law_alphabet) .none kV6 dc6 pm6 an6 cd6 ct6), sl6⟩)
    (c6 : PySem.W.codeIn K cd6 "_law_alphabet" = true)
    (k6 : PySem.W.keepIn K (.ref f6) = true)
    {f7 : Addr} {od7 an7 : Option Addr} {sl7 : Array (Option Value)} {oc7 kV7 dc7 pm7 cd7 ct7 : Value} (a7 : PySem.W.nsIn K mainGlobals "is_transition" = some (some (.ref f7)))
    (l7 : K.lookup f7 = some ⟨oc7, od7, .func (PySem.W.fnOf "is_transition" "is_transition" (defArgs s_is_transition) (defBody s_is_transition) (defScope s_is_transition) .none kV7 dc7 pm7 an7 cd7 ct7), sl7⟩)
    (c7 : PySem.W.codeIn K cd7 "is_transition" = true)
    (k7 : PySem.W.keepIn K (.ref f7) = true)
    {f8 : Addr} {od8 an8 : Option Addr} {sl8 : Array (Option Value)} {oc8 dc8 pm8 cd8 ct8 : Value} {D8 : Addr} (a8 : PySem.W.findIn K (.ref C0) "__init__" = some (some (.ref f8)))
    (i8 : PySem.W.isFn K (.ref f8) = true)
    (l8 : K.lookup f8 = some ⟨oc8, od8, .func (PySem.W.fnOf "__init__" "Automaton.__init__" (defArgs s_Automaton___init__) (defBody s_Automaton___init__) (defScope s_Automaton___init__) .none (.ref D8) dc8 pm8 an8 cd8 ct8), sl8⟩)
    (c8 : PySem.W.codeIn K cd8 "Automaton.__init__" = true)
    (k8 : PySem.W.keepIn K (.ref f8) = true)
    {kt8 : Tok} (kd8 : PySem.W.nsIn K D8 "initial" = some (some (.int 0 kt8)))
    {f9 : Addr} {od9 an9 : Option Addr} {sl9 : Array (Option Value)} {oc9 kV9 dc9 pm9 cd9 ct9 : Value} (a9 : PySem.W.findIn K (.ref C0) "transitions" = some (some (.ref f9)))
    (i9 : PySem.W.isFn K (.ref f9) = true)
    (l9 : K.lookup f9 = some ⟨oc9, od9, .func (PySem.W.fnOf "transitions" "Automaton.transitions" (defArgs s_Automaton_transitions) (defBody s_Automaton_transitions) (defScope s_Automaton_transitions) .none kV9 dc9 pm9 an9 cd9 ct9), sl9⟩)
    (c9 : PySem.W.codeIn K cd9 "Automaton.transitions" = true)
    (k9 : PySem.W.keepIn K (.ref f9) = true)
    {f10 : Addr} {od10 an10 : Option Addr} {sl10 : Array (Option Value)} {oc10 kV10 dc10 pm10 cd10 ct10 : Value} (a10 : PySem.W.findIn K (.ref C0) "__eq__" = some (some (.ref f10)))
    (i10 : PySem.W.isFn K (.ref f10) = true)
    (l10 : K.lookup f10 = some ⟨oc10, od10, .func (PySem.W.fnOf "__eq__" "Automaton.__eq__" (defArgs s_Automaton___eq__) (defBody s_Automaton___eq__) (defScope s_Automaton___eq__) .none kV10 dc10 pm10 an10 cd10 ct10), sl10⟩)
    (c10 : PySem.W.codeIn K cd10 "Automaton.__eq__" = true)
    (k10 : PySem.W.keepIn K (.ref f10) = true)
    {f11 : Addr} {od11 an11 : Option Addr} {sl11 : Array (Option Value)} {oc11 kV11 dc11 pm11 cd11 ct11 : Value} (a11 : PySem.W.nsIn K mainGlobals "_law_mixed" = some (some (.ref f11)))
    (l11 : K.lookup f11 = some ⟨oc11, od11, .func (PySem.W.fnOf "_law_mixed" "_law_mixed" (defArgs s__law_mixed) (defBody s__law_mixed) (defScope s__law_mixed) .none kV11 dc11 pm11 an11 cd11 ct11), sl11⟩)
    (c11 : PySem.W.codeIn K cd11 "_law_mixed" = true)
    (k11 : PySem.W.keepIn K (.ref f11) = true)
    {f12 : Addr} {od12 an12 : Option Addr} {sl12 : Array (Option Value)} {oc12 kV12 dc12 pm12 cd12 ct12 : Value} (a12 : PySem.W.nsIn K mainGlobals "_law_rows" = some (some (.ref f12)))
    (l12 : K.lookup f12 = some ⟨oc12, od12, .func (PySem.W.fnOf "_law_rows" "_law_rows" (defArgs s__law_rows) (defBody s__law_rows) (defScope s__law_rows) .none kV12 dc12 pm12 an12 cd12 ct12), sl12⟩)
    (c12 : PySem.W.codeIn K cd12 "_law_rows" = true)
    (k12 : PySem.W.keepIn K (.ref f12) = true)
    {f13 : Addr} {od13 an13 : Option Addr} {sl13 : Array (Option Value)} {oc13 kV13 dc13 pm13 cd13 ct13 : Value} (a13 : PySem.W.nsIn K mainGlobals "_law_spec" = some (some (.ref f13)))
    (l13 : K.lookup f13 = some ⟨oc13, od13, .func (PySem.W.fnOf "_law_spec" "_law_spec" (defArgs s__law_spec) (defBody s__law_spec) (defScope s__law_spec) .none kV13 dc13 pm13 an13 cd13 ct13), sl13⟩)
    (c13 : PySem.W.codeIn K cd13 "_law_spec" = true)
    (k13 : PySem.W.keepIn K (.ref f13) = true)
    {f14 : Addr} {od14 an14 : Option Addr} {sl14 : Array (Option Value)} {oc14 kV14 dc14 pm14 cd14 ct14 : Value} (a14 : PySem.W.nsIn K mainGlobals "_law_made" = some (some (.ref f14)))
    (l14 : K.lookup f14 = some ⟨oc14, od14, .func (PySem.W.fnOf "_law_made" "_law_made" (defArgs s__law_made) (defBody s__law_made) (defScope s__law_made) .none kV14 dc14 pm14 an14 cd14 ct14), sl14⟩)
    (c14 : PySem.W.codeIn K cd14 "_law_made" = true)
    (k14 : PySem.W.keepIn K (.ref f14) = true)
    {f15 : Addr} {od15 an15 : Option Addr} {sl15 : Array (Option Value)} {oc15 kV15 dc15 pm15 cd15 ct15 : Value} (a15 : PySem.W.nsIn K mainGlobals "is_count" = some (some (.ref f15)))
    (l15 : K.lookup f15 = some ⟨oc15, od15, .func (PySem.W.fnOf "is_count" "is_count" (defArgs s_is_count) (defBody s_is_count) (defScope s_is_count) .none kV15 dc15 pm15 an15 cd15 ct15), sl15⟩)
    (c15 : PySem.W.codeIn K cd15 "is_count" = true)
    (k15 : PySem.W.keepIn K (.ref f15) = true)
    {f16 : Addr} {od16 an16 : Option Addr} {sl16 : Array (Option Value)} {oc16 kV16 dc16 pm16 cd16 ct16 : Value} (a16 : PySem.W.nsIn K mainGlobals "head_value" = some (some (.ref f16)))
    (l16 : K.lookup f16 = some ⟨oc16, od16, .func (PySem.W.fnOf "head_value" "head_value" (defArgs s_head_value) (defBody s_head_value) (defScope s_head_value) .none kV16 dc16 pm16 an16 cd16 ct16), sl16⟩)
    (c16 : PySem.W.codeIn K cd16 "head_value" = true)
    (k16 : PySem.W.keepIn K (.ref f16) = true)
    {f17 : Addr} {od17 an17 : Option Addr} {sl17 : Array (Option Value)} {oc17 kV17 dc17 pm17 cd17 ct17 : Value} (a17 : PySem.W.nsIn K mainGlobals "read_row" = some (some (.ref f17)))
    (l17 : K.lookup f17 = some ⟨oc17, od17, .func (PySem.W.fnOf "read_row" "read_row" (defArgs s_read_row) (defBody s_read_row) (defScope s_read_row) .none kV17 dc17 pm17 an17 cd17 ct17), sl17⟩)
    (c17 : PySem.W.codeIn K cd17 "read_row" = true)
    (k17 : PySem.W.keepIn K (.ref f17) = true)
    {f18 : Addr} {od18 an18 : Option Addr} {sl18 : Array (Option Value)} {oc18 kV18 dc18 pm18 cd18 ct18 : Value} (a18 : PySem.W.nsIn K mainGlobals "read_automaton" = some (some (.ref f18)))
    (l18 : K.lookup f18 = some ⟨oc18, od18, .func (PySem.W.fnOf "read_automaton" "read_automaton" (defArgs s_read_automaton) (defBody s_read_automaton) (defScope s_read_automaton) .none kV18 dc18 pm18 an18 cd18 ct18), sl18⟩)
    (c18 : PySem.W.codeIn K cd18 "read_automaton" = true)
    (k18 : PySem.W.keepIn K (.ref f18) = true)
    {f19 : Addr} {od19 an19 : Option Addr} {sl19 : Array (Option Value)} {oc19 kV19 dc19 pm19 cd19 ct19 : Value} (a19 : PySem.W.nsIn K mainGlobals "automaton_text" = some (some (.ref f19)))
    (l19 : K.lookup f19 = some ⟨oc19, od19, .func (PySem.W.fnOf "automaton_text" "automaton_text" (defArgs s_automaton_text) (defBody s_automaton_text) (defScope s_automaton_text) .none kV19 dc19 pm19 an19 cd19 ct19), sl19⟩)
    (c19 : PySem.W.codeIn K cd19 "automaton_text" = true)
    (k19 : PySem.W.keepIn K (.ref f19) = true)
    {f20 : Addr} {od20 an20 : Option Addr} {sl20 : Array (Option Value)} {oc20 kV20 dc20 pm20 cd20 ct20 : Value} (a20 : PySem.W.nsIn K mainGlobals "_law_text_of" = some (some (.ref f20)))
    (l20 : K.lookup f20 = some ⟨oc20, od20, .func (PySem.W.fnOf "_law_text_of" "_law_text_of" (defArgs s__law_text_of) (defBody s__law_text_of) (defScope s__law_text_of) .none kV20 dc20 pm20 an20 cd20 ct20), sl20⟩)
    (c20 : PySem.W.codeIn K cd20 "_law_text_of" = true)
    (k20 : PySem.W.keepIn K (.ref f20) = true)
    {f21 : Addr} {od21 an21 : Option Addr} {sl21 : Array (Option Value)} {oc21 kV21 dc21 pm21 cd21 ct21 : Value} (a21 : PySem.W.nsIn K mainGlobals "law" = some (some (.ref f21)))
    (l21 : K.lookup f21 = some ⟨oc21, od21, .func (PySem.W.fnOf "law" "law" (defArgs s_law) (defBody s_law) (defScope s_law) .none kV21 dc21 pm21 an21 cd21 ct21), sl21⟩)
    (c21 : PySem.W.codeIn K cd21 "law" = true)
    (k21 : PySem.W.keepIn K (.ref f21) = true)
    (pg_Automaton : PySem.W.plainGet K C0 Str.empty = true)
    (hd_Automaton : PySem.W.hasDictIn K C0 = true)
    (po_Automaton : PySem.W.plainOver K C0 = true)
    (sa_Automaton : PySem.W.findIn K (.ref C0) "__setattr__" = some (some (.builtin "object.__setattr__")))
    (ia_Automaton : PySem.W.findIn K (.ref C0) "__class__" = some (some (.builtin "object.__class__")))
    (ib_Automaton : PySem.W.specialIn K (.builtin "object.__class__") "__get__" = some (some (.builtin "getset_descriptor.__get__")))
    (ic_Automaton : PySem.W.takesIn K (.builtin "object.__class__") = some true)
    (im_Automaton : PySem.W.mroIn K C0 (.type "object") = some true)
    (ks_Automaton : PySem.W.isClsIn K C0 = true)
    (kt_Automaton : PySem.W.typeIn K (.ref C0) = some (.type "type"))
    (kn0_Automaton : PySem.W.subIn K (.type "NoneType") (.ref C0) = some false)
    (kn1_Automaton : PySem.W.subIn K (.type "bool") (.ref C0) = some false)
    (kn2_Automaton : PySem.W.subIn K (.type "int") (.ref C0) = some false)
    (kn3_Automaton : PySem.W.subIn K (.type "str") (.ref C0) = some false)
    (kn4_Automaton : PySem.W.subIn K (.type "list") (.ref C0) = some false)
    (kn5_Automaton : PySem.W.subIn K (.type "tuple") (.ref C0) = some false)
    (mk_Automaton : PySem.W.makesIn K C0 = true)
    (kp_Automaton : PySem.W.keepIn K (.ref C0) = true)
    (no_Automaton_alphabet : PySem.W.findIn K (.ref C0) "alphabet" = some none)
    (no_Automaton_size : PySem.W.findIn K (.ref C0) "size" = some none)
    (no_Automaton_initial : PySem.W.findIn K (.ref C0) "initial" = some none)
    (no_Automaton_own_moves : PySem.W.findIn K (.ref C0) "own_moves" = some none)
    (nf_Automaton : PySem.W.findIn K (.ref C0) "__ne__" = some (some (.builtin "object.__ne__")))
    {q_LETTERS : Tok} (z_LETTERS : PySem.W.nsIn K mainGlobals "LETTERS" = some (some (.str "abcdefghijklmnopqrstuvwxyz" q_LETTERS)))
    {q_MOST_LETTERS : Tok} (z_MOST_LETTERS : PySem.W.nsIn K mainGlobals "MOST_LETTERS" = some (some (.int 200 q_MOST_LETTERS)))
    {q_MOST_STATES : Tok} (z_MOST_STATES : PySem.W.nsIn K mainGlobals "MOST_STATES" = some (some (.int 65 q_MOST_STATES)))
    {q_SAFE : Tok} (z_SAFE : PySem.W.nsIn K mainGlobals "SAFE" = some (some (.str "safe" q_SAFE)))
    {q_SLIP : Tok} (z_SLIP : PySem.W.nsIn K mainGlobals "SLIP" = some (some (.str "slip" q_SLIP)))
    (n_all : PySem.W.nsIn K mainGlobals "all" = some none)
    (n_bool : PySem.W.nsIn K mainGlobals "bool" = some none)
    (n_enumerate : PySem.W.nsIn K mainGlobals "enumerate" = some none)
    (n_int : PySem.W.nsIn K mainGlobals "int" = some none)
    (n_isinstance : PySem.W.nsIn K mainGlobals "isinstance" = some none)
    (n_len : PySem.W.nsIn K mainGlobals "len" = some none)
    (n_list : PySem.W.nsIn K mainGlobals "list" = some none)
    (n_min : PySem.W.nsIn K mainGlobals "min" = some none)
    (n_range : PySem.W.nsIn K mainGlobals "range" = some none)
    (n_sorted : PySem.W.nsIn K mainGlobals "sorted" = some none)
    (n_str : PySem.W.nsIn K mainGlobals "str" = some none)
    (n_tuple : PySem.W.nsIn K mainGlobals "tuple" = some none)
    : ∃ fd : FuncData, (∀ (s : Shared) (v : Value), BindsTo s fd ⟨[v], []⟩ [("_law_script", v)]) ∧ ∀ base : Heap, K.In base → base.Ns mainGlobals mg → FnOk P w K mg base CX0 70 fa fd ["_law_script"] (spLaw K) := by
  have e0 := hfa.symm.trans (PySem.W.mg_of X G a21)
  have e : f21 = fa := by
    cases e0
    rfl
  subst e
  have T : Txt K mg ⟨f0, (PySem.W.fnOf "_law_draws" "_law_draws" (defArgs s__law_draws) (defBody s__law_draws) (defScope s__law_draws) .none kV0 dc0 pm0 an0 cd0 ct0), f1, (PySem.W.fnOf "_law_pull" "_law_pull" (defArgs s__law_pull) (defBody s__law_pull) (defScope s__law_pull) .none kV1 dc1 pm1 an1 cd1 ct1), f2, (PySem.W.fnOf "_law_any" "_law_any" (defArgs s__law_any) (defBody s__law_any) (defScope s__law_any) .none kV2 dc2 pm2 an2 cd2 ct2), f3, (PySem.W.fnOf "is_number" "is_number" (defArgs s_is_number) (defBody s_is_number) (defScope s_is_number) .none kV3 dc3 pm3 an3 cd3 ct3), f4, (PySem.W.fnOf "is_word" "is_word" (defArgs s_is_word) (defBody s_is_word) (defScope s_is_word) (.ref T4) kV4 dc4 pm4 an4 cd4 ct4), f5, (PySem.W.fnOf "is_alphabet" "is_alphabet" (defArgs s_is_alphabet) (defBody s_is_alphabet) (defScope s_is_alphabet) .none kV5 dc5 pm5 an5 cd5 ct5), f6, (PySem.W.fnOf "_law_alphabet" "_law_alphabet" (defArgs s__law_alphabet) (defBody s__law_alphabet) (defScope s__law_alphabet) .none kV6 dc6 pm6 an6 cd6 ct6), f7, (PySem.W.fnOf "is_transition" "is_transition" (defArgs s_is_transition) (defBody s_is_transition) (defScope s_is_transition) .none kV7 dc7 pm7 an7 cd7 ct7), f8, (PySem.W.fnOf "__init__" "Automaton.__init__" (defArgs s_Automaton___init__) (defBody s_Automaton___init__) (defScope s_Automaton___init__) .none (.ref D8) dc8 pm8 an8 cd8 ct8), f9, (PySem.W.fnOf "transitions" "Automaton.transitions" (defArgs s_Automaton_transitions) (defBody s_Automaton_transitions) (defScope s_Automaton_transitions) .none kV9 dc9 pm9 an9 cd9 ct9), f10, (PySem.W.fnOf "__eq__" "Automaton.__eq__" (defArgs s_Automaton___eq__) (defBody s_Automaton___eq__) (defScope s_Automaton___eq__) .none kV10 dc10 pm10 an10 cd10 ct10), f11, (PySem.W.fnOf "_law_mixed" "_law_mixed" (defArgs s__law_mixed) (defBody s__law_mixed) (defScope s__law_mixed) .none kV11 dc11 pm11 an11 cd11 ct11), f12, (PySem.W.fnOf "_law_rows" "_law_rows" (defArgs s__law_rows) (defBody s__law_rows) (defScope s__law_rows) .none kV12 dc12 pm12 an12 cd12 ct12), f13, (PySem.W.fnOf "_law_spec" "_law_spec" (defArgs s__law_spec) (defBody s__law_spec) (defScope s__law_spec) .none kV13 dc13 pm13 an13 cd13 ct13), f14, (PySem.W.fnOf "_law_made" "_law_made" (defArgs s__law_made) (defBody s__law_made) (defScope s__law_made) .none kV14 dc14 pm14 an14 cd14 ct14), f15, (PySem.W.fnOf "is_count" "is_count" (defArgs s_is_count) (defBody s_is_count) (defScope s_is_count) .none kV15 dc15 pm15 an15 cd15 ct15), f16, (PySem.W.fnOf "head_value" "head_value" (defArgs s_head_value) (defBody s_head_value) (defScope s_head_value) .none kV16 dc16 pm16 an16 cd16 ct16), f17, (PySem.W.fnOf "read_row" "read_row" (defArgs s_read_row) (defBody s_read_row) (defScope s_read_row) .none kV17 dc17 pm17 an17 cd17 ct17), f18, (PySem.W.fnOf "read_automaton" "read_automaton" (defArgs s_read_automaton) (defBody s_read_automaton) (defScope s_read_automaton) .none kV18 dc18 pm18 an18 cd18 ct18), f19, (PySem.W.fnOf "automaton_text" "automaton_text" (defArgs s_automaton_text) (defBody s_automaton_text) (defScope s_automaton_text) .none kV19 dc19 pm19 an19 cd19 ct19), f20, (PySem.W.fnOf "_law_text_of" "_law_text_of" (defArgs s__law_text_of) (defBody s__law_text_of) (defScope s__law_text_of) .none kV20 dc20 pm20 an20 cd20 ct20), f21, (PySem.W.fnOf "law" "law" (defArgs s_law) (defBody s_law) (defScope s_law) .none kV21 dc21 pm21 an21 cd21 ct21), C0⟩ := {
    F__law_draws := funD_0 l0 c0 k0,
    g__law_draws := PySem.W.mg_of X G a0,
    F__law_pull := funD_0 l1 c1 k1,
    g__law_pull := PySem.W.mg_of X G a1,
    F__law_any := funD_0 l2 c2 k2,
    g__law_any := PySem.W.mg_of X G a2,
    F_is_number := funD_0 l3 c3 k3,
    g_is_number := PySem.W.mg_of X G a3,
    F_is_word := funD_1 l4 c4 k4 t4 (.cons ⟨_, rfl⟩ .nil) (by intro h; cases h),
    g_is_word := PySem.W.mg_of X G a4,
    F_is_alphabet := funD_0 l5 c5 k5,
    g_is_alphabet := PySem.W.mg_of X G a5,
    F__law_alphabet := funD_0 l6 c6 k6,
    g__law_alphabet := PySem.W.mg_of X G a6,
    F_is_transition := funD_0 l7 c7 k7,
    g_is_transition := PySem.W.mg_of X G a7,
    F_Automaton___init__ := funD_K l8 c8 k8 kd8,
    m_Automaton___init__ := ⟨a8, i8, k8⟩,
    F_Automaton_transitions := funD_0 l9 c9 k9,
    m_Automaton_transitions := ⟨a9, i9, k9⟩,
    F_Automaton___eq__ := funD_0 l10 c10 k10,
    m_Automaton___eq__ := ⟨a10, i10, k10⟩,
    F__law_mixed := funD_0 l11 c11 k11,
    g__law_mixed := PySem.W.mg_of X G a11,
    F__law_rows := funD_0 l12 c12 k12,
    g__law_rows := PySem.W.mg_of X G a12,
    F__law_spec := funD_0 l13 c13 k13,
    g__law_spec := PySem.W.mg_of X G a13,
    F__law_made := funD_0 l14 c14 k14,
    g__law_made := PySem.W.mg_of X G a14,
    F_is_count := funD_0 l15 c15 k15,
    g_is_count := PySem.W.mg_of X G a15,
    F_head_value := funD_0 l16 c16 k16,
    g_head_value := PySem.W.mg_of X G a16,
    F_read_row := funD_0 l17 c17 k17,
    g_read_row := PySem.W.mg_of X G a17,
    F_read_automaton := funD_0 l18 c18 k18,
    g_read_automaton := PySem.W.mg_of X G a18,
    F_automaton_text := funD_0 l19 c19 k19,
    g_automaton_text := PySem.W.mg_of X G a19,
    F__law_text_of := funD_0 l20 c20 k20,
    g__law_text_of := PySem.W.mg_of X G a20,
    F_law := funD_0 l21 c21 k21,
    g_law := PySem.W.mg_of X G a21,
    g_Automaton := PySem.W.mg_of X G aC_Automaton,
    cl_Automaton := ⟨pg_Automaton, hd_Automaton, po_Automaton, sa_Automaton⟩,
    is_Automaton := (IsX.mk' ⟨⟨pg_Automaton, hd_Automaton, po_Automaton, sa_Automaton⟩, ia_Automaton, ib_Automaton, ic_Automaton, im_Automaton⟩ ks_Automaton kt_Automaton kn0_Automaton kn1_Automaton kn2_Automaton kn3_Automaton kn4_Automaton kn5_Automaton),
    mk_Automaton := ⟨mk_Automaton, a8, i8, kp_Automaton⟩,
    no_Automaton_alphabet := no_Automaton_alphabet,
    no_Automaton_size := no_Automaton_size,
    no_Automaton_initial := no_Automaton_initial,
    no_Automaton_own_moves := no_Automaton_own_moves,
    eq_Automaton := ⟨(IsX.mk' ⟨⟨pg_Automaton, hd_Automaton, po_Automaton, sa_Automaton⟩, ia_Automaton, ib_Automaton, ic_Automaton, im_Automaton⟩ ks_Automaton kt_Automaton kn0_Automaton kn1_Automaton kn2_Automaton kn3_Automaton kn4_Automaton kn5_Automaton), a10, i10, nf_Automaton⟩,
    c_LETTERS := ⟨_, PySem.W.mg_of X G z_LETTERS⟩,
    c_MOST_LETTERS := ⟨_, PySem.W.mg_of X G z_MOST_LETTERS⟩,
    c_MOST_STATES := ⟨_, PySem.W.mg_of X G z_MOST_STATES⟩,
    c_SAFE := ⟨_, PySem.W.mg_of X G z_SAFE⟩,
    c_SLIP := ⟨_, PySem.W.mg_of X G z_SLIP⟩,
    n_all := PySem.W.mg_none_of X G n_all,
    n_bool := PySem.W.mg_none_of X G n_bool,
    n_enumerate := PySem.W.mg_none_of X G n_enumerate,
    n_int := PySem.W.mg_none_of X G n_int,
    n_isinstance := PySem.W.mg_none_of X G n_isinstance,
    n_len := PySem.W.mg_none_of X G n_len,
    n_list := PySem.W.mg_none_of X G n_list,
    n_min := PySem.W.mg_none_of X G n_min,
    n_range := PySem.W.mg_none_of X G n_range,
    n_sorted := PySem.W.mg_none_of X G n_sorted,
    n_str := PySem.W.mg_none_of X G n_str,
    n_tuple := PySem.W.mg_none_of X G n_tuple }
  exact ⟨_, fun s v => .of_eq rfl, fun base _ _ => law_at T⟩
end
end L2.DL.LW
open PySem PySem.W PyProof.Rows
set_option maxHeartbeats 0 in
theorem PySem.Challenge.cw_lastslip_k76_whole_automata_as_texts_holds : PySem.Challenge.rw_lastslip_k76_whole_automata_as_texts.Holds := by
  w_on; o_law; k_head; (case hw => w_witness2)
  k_fill
  refine L2.walk_of (l := PySem.Challenge.rw_lastslip_k76_whole_automata_as_texts) (n := 63) (k := 70) (x := "_law_script") (CX := fun _ => L2.CX0) (sp := fun w => L2.DL.LW.spLaw _) rfl (by decide) rfl ⟨rfl, by decide, by decide⟩ (fun w h Y => PySem.W.kIn_of Y) ?F (fun _ _ a ns hl _ hS => ⟨a, ns, rfl, hS, hl, fun _ => rfl⟩) (fun _ _ _ _ _ h => h)
  case F =>
    intro w mg fa h KX G hmg
    refine' L2.DL.LW.all_mk KX G hmg ?aC_Automaton ?a0 ?l0 ?c0 ?k0 ?a1 ?l1 ?c1 ?k1 ?a2 ?l2 ?c2 ?k2 ?a3 ?l3 ?c3 ?k3 ?a4 ?l4 ?c4 ?k4 ?t4 ?a5 ?l5 ?c5 ?k5 ?a6 ?l6 ?c6 ?k6 ?a7 ?l7 ?c7 ?k7 ?a8 ?i8 ?l8 ?c8 ?k8 ?kd8 ?a9 ?i9 ?l9 ?c9 ?k9 ?a10 ?i10 ?l10 ?c10 ?k10 ?a11 ?l11 ?c11 ?k11 ?a12 ?l12 ?c12 ?k12 ?a13 ?l13 ?c13 ?k13 ?a14 ?l14 ?c14 ?k14 ?a15 ?l15 ?c15 ?k15 ?a16 ?l16 ?c16 ?k16 ?a17 ?l17 ?c17 ?k17 ?a18 ?l18 ?c18 ?k18 ?a19 ?l19 ?c19 ?k19 ?a20 ?l20 ?c20 ?k20 ?a21 ?l21 ?c21 ?k21 ?pg_Automaton ?hd_Automaton ?po_Automaton ?sa_Automaton ?ia_Automaton ?ib_Automaton ?ic_Automaton ?im_Automaton ?ks_Automaton ?kt_Automaton ?kn0_Automaton ?kn1_Automaton ?kn2_Automaton ?kn3_Automaton ?kn4_Automaton ?kn5_Automaton ?mk_Automaton ?kp_Automaton ?no_Automaton_alphabet ?no_Automaton_size ?no_Automaton_initial ?no_Automaton_own_moves ?nf_Automaton ?z_LETTERS ?z_MOST_LETTERS ?z_MOST_STATES ?z_SAFE ?z_SLIP ?n_all ?n_bool ?n_enumerate ?n_int ?n_isinstance ?n_len ?n_list ?n_min ?n_range ?n_sorted ?n_str ?n_tuple
    (case aC_Automaton => k_is)
    (case a0 => k_is)
    (case l0 => k_is)
    (case c0 => k_is)
    (case k0 => k_is)
    (case a1 => k_is)
    (case l1 => k_is)
    (case c1 => k_is)
    (case k1 => k_is)
    (case a2 => k_is)
    (case l2 => k_is)
    (case c2 => k_is)
    (case k2 => k_is)
    (case a3 => k_is)
    (case l3 => k_is)
    (case c3 => k_is)
    (case k3 => k_is)
    (case a4 => k_is)
    (case l4 => k_is)
    (case c4 => k_is)
    (case k4 => k_is)
    (case t4 => k_is)
    (case a5 => k_is)
    (case l5 => k_is)
    (case c5 => k_is)
    (case k5 => k_is)
    (case a6 => k_is)
    (case l6 => k_is)
    (case c6 => k_is)
    (case k6 => k_is)
    (case a7 => k_is)
    (case l7 => k_is)
    (case c7 => k_is)
    (case k7 => k_is)
    (case a8 => k_is)
    (case i8 => k_is)
    (case l8 => k_is)
    (case c8 => k_is)
    (case k8 => k_is)
    (case kd8 => k_is)
    (case a9 => k_is)
    (case i9 => k_is)
    (case l9 => k_is)
    (case c9 => k_is)
    (case k9 => k_is)
    (case a10 => k_is)
    (case i10 => k_is)
    (case l10 => k_is)
    (case c10 => k_is)
    (case k10 => k_is)
    (case a11 => k_is)
    (case l11 => k_is)
    (case c11 => k_is)
    (case k11 => k_is)
    (case a12 => k_is)
    (case l12 => k_is)
    (case c12 => k_is)
    (case k12 => k_is)
    (case a13 => k_is)
    (case l13 => k_is)
    (case c13 => k_is)
    (case k13 => k_is)
    (case a14 => k_is)
    (case l14 => k_is)
    (case c14 => k_is)
    (case k14 => k_is)
    (case a15 => k_is)
    (case l15 => k_is)
    (case c15 => k_is)
    (case k15 => k_is)
    (case a16 => k_is)
    (case l16 => k_is)
    (case c16 => k_is)
    (case k16 => k_is)
    (case a17 => k_is)
    (case l17 => k_is)
    (case c17 => k_is)
    (case k17 => k_is)
    (case a18 => k_is)
    (case l18 => k_is)
    (case c18 => k_is)
    (case k18 => k_is)
    (case a19 => k_is)
    (case l19 => k_is)
    (case c19 => k_is)
    (case k19 => k_is)
    (case a20 => k_is)
    (case l20 => k_is)
    (case c20 => k_is)
    (case k20 => k_is)
    (case a21 => k_is)
    (case l21 => k_is)
    (case c21 => k_is)
    (case k21 => k_is)
    (case pg_Automaton => k_is)
    (case hd_Automaton => k_is)
    (case po_Automaton => k_is)
    (case sa_Automaton => k_is)
    (case ia_Automaton => k_is)
    (case ib_Automaton => k_is)
    (case ic_Automaton => k_is)
    (case im_Automaton => k_is)
    (case ks_Automaton => k_is)
    (case kt_Automaton => k_is)
    (case kn0_Automaton => k_is)
    (case kn1_Automaton => k_is)
    (case kn2_Automaton => k_is)
    (case kn3_Automaton => k_is)
    (case kn4_Automaton => k_is)
    (case kn5_Automaton => k_is)
    (case mk_Automaton => k_is)
    (case kp_Automaton => k_is)
    (case no_Automaton_alphabet => k_is)
    (case no_Automaton_size => k_is)
    (case no_Automaton_initial => k_is)
    (case no_Automaton_own_moves => k_is)
    (case nf_Automaton => k_is)
    (case z_LETTERS => k_is)
    (case z_MOST_LETTERS => k_is)
    (case z_MOST_STATES => k_is)
    (case z_SAFE => k_is)
    (case z_SLIP => k_is)
    (case n_all => k_is)
    (case n_bool => k_is)
    (case n_enumerate => k_is)
    (case n_int => k_is)
    (case n_isinstance => k_is)
    (case n_len => k_is)
    (case n_list => k_is)
    (case n_min => k_is)
    (case n_range => k_is)
    (case n_sorted => k_is)
    (case n_str => k_is)
    (case n_tuple => k_is)
#print axioms PySem.Challenge.cw_lastslip_k76_whole_automata_as_texts_holds

