import PyProof.Rows.All
import Wide.All
import OpenK.AllK
import Wide.FinOn
import HandS.Base
import HandS.Call
import HandS.Ends
import HandS.More
import HandS.Words
import HandS.WordsExc
import HandS.Defaults
import HandS.Head0
import HandS.Head1
import HandS.Head2
import HandS.HeadEnd
import HandS.HeadHook1
import HandS.HeadHook2
import HandS.EndBits
import HandS.EndTab
import HandS.EndOwn
import HandS.ExcIs
import PySem.Challenge.RW_manymarks_k79_errors_of_paths
import HandS.HeadNt
import HandS.List
import HandS.Exc
import HandS.ExcOwn
import HandS.ExcValue
import HandS.ExcInit
import HandS.CallLocal
import KE.KExcIs
import HandS.ForMost
import KE.KDictDisplayH
import PyProof.ReprRoads
import PyProof.RowDictHeap
import HandS.TupMul
import PyProof.TupleKey
import PyProof.EqLayable
import HandS.SetBool
import PyProof.P3Eq
import HandS.Dict
import HandS.Small
import HandS.DictTup
import HandS.Lambda
import HandS.IsInst
import HandS.Comp
import HandS.Text
import HandS.Property
import PyProof.AssignAttr
import HandS.DictComp
import HandS.Iter
import HandS.Zip
import HandS.Steps
import HandS.Conv
import HandS.SortInts
import HandS.Star
import HandS.Style
import KE.KEqDict
import KE.GoesZip
import HandS.TupSets
import PyProof.WalksMore
import HandS.WordsDict
import PyProof.MinMaxWalk
import HandS.TryMany
import HandS.HotCalls
import HandS.ExcField
import HandS.NoneIn
import PyProof.StrOps2
import PyProof.StrLawsRepr
import HandS.Walk
set_option Elab.async false
set_option linter.all false
set_option maxRecDepth 100000
set_option maxHeartbeats 4000000
namespace Hx
open PySem PySem.Spec PyProof.Rows L2 He
/-! ### a Hook over any checks of the written part -/
abbrev Chk := PySem.W.Frag → Bool
def obsX (ck : List Chk) (fn : List DefD) (K : PySem.W.Frag) : AlD := ((ck.all fun f => f K) && fn.all fun d => d.ok K, fn.map fun d => fnW K d.at_)
def SaysX (ck : List Chk) (fn : List DefD) (K : PySem.W.Frag) : Prop := obsX ck fn K = valD fn
def obsXG (n : Nat) (ck : List Chk) (fn : List DefD) (g : Addr → Option Obj) : AlD := obsX ck fn (frG g (asD g n))
def hookX (n : Nat) (ck : List Chk) (fn : List DefD) : PySem.W.Hook where
  α := AlD
  obs := fun s => obsXG n ck fn s.heap.get?
  val := fun _ => valD fn
  says := fun _ h => ∃ K : PySem.W.Frag, K.In h ∧ SaysX ck fn K
  of := fun _ _ e => ⟨_, frG_in, e⟩
  keeps := fun _ _ _ ⟨K, hK, c⟩ k => ⟨K, PySem.W.Frag.In.keeps hK k, c⟩
theorem obsXG_eq {n : Nat} {ck : List Chk} {fn : List DefD} {g : Addr → Option Obj} {s : Shared} (h : ∀ a, g a = s.heap.get? a) : obsXG n ck fn g = (hookX n ck fn).obs s := by
  have e : g = s.heap.get? := funext h
  rw [e] <;> rfl
section
variable {ck : List Chk} {fn : List DefD} {K : PySem.W.Frag}
theorem SaysX.fact (c : SaysX ck fn K) (i : Nat) {f : Chk} (h : ck[i]? = some f := by rfl) : f K = true := by
  have c1 := (ba (show ((ck.all fun f => f K) && fn.all fun d => d.ok K) = true from congrArg (fun z : AlD => z.1) c)).1
  exact List.all_eq_true.mp c1 f (List.mem_of_getElem? h)
theorem SaysX.def_ (c : SaysX ck fn K) (i : Nat) {d : DefD} (h : fn[i]? = some d := by rfl) : ∃ fd, FunD K d.name d.qual d.params d.body d.scope (d.dvs K) (d.kws K) (fAd K d.at_) fd := by
  have c2 := (ba (show ((ck.all fun f => f K) && fn.all fun d => d.ok K) = true from congrArg (fun z : AlD => z.1) c)).2
  have e : fn.map (fun d => fnW K d.at_) = fn.map DefD.val := congrArg (fun z : AlD => z.2) c
  have e2 : (fn.map fun d => fnW K d.at_)[i]? = (fn.map DefD.val)[i]? := by rw [e]
  rw [List.getElem?_map, List.getElem?_map, h] at e2
  exact DefD.funD (Option.some.inj e2) (List.all_eq_true.mp c2 d (List.mem_of_getElem? h))
end

/-! ### the same, the law's own table of code objects left out of the written part -/
def lawCode (x : Str) (K : PySem.W.Frag) : Addr := match K.lookup (ga K x) with
  | some ⟨_, _, .func fd, _⟩ => (match fd.code with
    | .ref c => c
    | _ => 0)
  | _ => 0
def lawTab (x : Str) (K : PySem.W.Frag) : Addr := match K.lookup (lawCode x K) with
  | some ⟨_, _, .fields vs, _⟩ => (match (vs[11]? : Option Value) with
    | some (.ref P) => P
    | _ => 0)
  | _ => 0
def kidsF (g : Addr → Option Obj) (a : Addr) : List Addr := match g a with
  | some ⟨_, _, .func fd, _⟩ => refV fd.code ++ refV fd.defaults
  | some ⟨_, _, .cls cd, _⟩ => [cd.ns]
  | some ⟨_, _, .dict es _, _⟩ => es.toList.flatMap fun e => refV e.val
  | _ => []
/-- the module's names xs, their code objects, their classes' methods, these ones' code objects -/
def pickF (xs : List Str) (g : Addr → Option Obj) : List Addr :=
  let A1 := xs.map (ga (frG g [mainGlobals]))
  let A2 := A1.flatMap (kidsF g)
  let A3 := A2.flatMap (kidsF g)
  mainGlobals :: sysModules :: (A1 ++ (A2 ++ (A3 ++ A3.flatMap (kidsF g))))
/-- .. without the table of the def x -/
def pickT (x : Str) (xs : List Str) (g : Addr → Option Obj) : List Addr := let as := pickF xs g; let P := lawTab x (frG g as); as.filter fun a => a != P
def obsPG (pick : (Addr → Option Obj) → List Addr) (ck : List Chk) (fn : List DefD) (g : Addr → Option Obj) : AlD := obsX ck fn (frG g (pick g))
def hookP (pick : (Addr → Option Obj) → List Addr) (ck : List Chk) (fn : List DefD) : PySem.W.Hook where
  α := AlD
  obs := fun s => obsPG pick ck fn s.heap.get?
  val := fun _ => valD fn
  says := fun _ h => ∃ K : PySem.W.Frag, K.In h ∧ SaysX ck fn K
  of := fun _ _ e => ⟨_, frG_in, e⟩
  keeps := fun _ _ _ ⟨K, hK, c⟩ k => ⟨K, PySem.W.Frag.In.keeps hK k, c⟩
theorem obsPG_eq {pick : (Addr → Option Obj) → List Addr} {ck : List Chk} {fn : List DefD} {g : Addr → Option Obj} {s : Shared} (h : ∀ a, g a = s.heap.get? a) : obsPG pick ck fn g = (hookP pick ck fn).obs s := by
  have e : g = s.heap.get? := funext h
  rw [e] <;> rfl
/-- a def's body, its code object known -/
theorem okC {P : Program} {w : World} {K : PySem.W.Frag} {mg : Str → Option Value} {base : Heap} {x qual : Str} {params : Arguments} {body : List Stmt} {scope : Scope} {dvs : List V} {kws : List (Str × V)} {f : Addr} {fd : FuncData} {CX : CXT} {N ps : List Str} {k : Nat} {sp : Sp} {cdv : Value}
    (F : FunD K x qual params body scope dvs kws f fd) (hcd : fd.code = cdv) (S : FnScope N ps scope) (len : ∀ vs H Q E, sp vs H Q E → vs.length = ps.length)
    (hbody : ∀ (A : Around) (outer : List Env) (s : Shared) (H : Hp) (vs : List V) (Q : VK) (E : XK), Room k (A.deeper (envOfC qual scope s.heap.objs.size f cdv)) → sp vs H Q E →
      ∃ t, PSs (cxOf CX P w K mg base N qual scope f cdv A outer s H E) body t ∧ t { nx := fun _ H' => Q .non H', rt := Q } (start N vs) H) : FnOk P w K mg base CX (k + 1) f fd ps sp := by
  obtain ⟨oc, od, dV, kV, doc, pm, an, cdv', ct, osl, rfl, lk, hcd', _, _⟩ := F.ex
  have e : cdv' = cdv := hcd
  subst e
  exact fn_of lk hcd' S len fun A outer s H vs Q E hr hsp => hbody A outer s H vs Q E hr hsp
end Hx
namespace LamX
open PySem PySem.Spec PyProof.Rows L2
theorem walk_ofOwnE {l : PySem.W.OpenLaw} {n k : Nat} {q : Program} {loose : List Str} {XP : (Str → Option Value) → Heap → Prop} {YP : World → Heap → Prop} {d : DefRec} {CX : World → CXT} {x : Str}
    (hn : l.most = some n) (hn2 : n ≤ sizeLine) (hdf : d.params.defaults = []) (hr : Room k callerA) (hrec : ((recsOf q).any fun e => e.name == d.name) = true)
    (F : ∀ (w : World) (mg : Str → Option Value) (fa : Addr) (h : Heap), YP w h → h.Ns mainGlobals mg → mg d.name = some (.ref fa) → ∃ K : PySem.W.Frag, K.In h ∧ (OwnTab K fa h → LawAtS l w K (CX w) k n x mg fa h))
    (hCX : ∀ (w : World) (H : Hp) (s : Shared) (e : Value) (s' : Shared), CX w [] H s (fun _ _ _ => False) e s' → False) :
    PySem.W.WalkO q loose XP YP l.row.toRowW d [] (fun f vs => PySem.call f vs) := by
  refine Att.attach_callB hn hdf fun w s₀ s₁ mg mb fa o pm cd doc a vs ns G Y ho hd hcd hmg hobj hints hlen hbits hg => ?_
  obtain ⟨K, KX, F2⟩ := F w mg fa _ Y G.T.g hmg
  have own : OwnTab K fa s₁.heap := fun c P o1 fd1 e dd vs1 sl k1 k2 k3 k4 k5 => by
    obtain ⟨dL, hm, hn1⟩ := List.any_eq_true.mp hrec
    have hn2 : dL.name = d.name := beq_iff_eq.mp hn1
    obtain ⟨a', o', fd', c', P', h1, h2, h3, h4, h5, h6⟩ := G.T.tab dL hm
    rw [hn2, hmg] at h1
    cases h1
    have g1 := KX _ _ k1
    rw [g1] at h2
    cases h2
    rw [k2] at h3
    cases h3
    rw [k3] at h4
    cases h4
    obtain ⟨⟨oc, vc, e1, _, e3, e4⟩, hP⟩ := h6
    have g2 := KX _ _ k4
    rw [g2] at e1
    cases e1
    cases e3
    rw [k5] at e4
    cases e4
    exact hP
  obtain ⟨fd, cs, sp, hT, nT, C, hb, hsp, hF⟩ := F2 own
  exact law_callTs KX G.T.g G.T.b G.T.builtins G.T.nolimit hg hT nT C G.T.bmain hobj hints (Nat.le_trans hlen hn2) hr hF hb (fun H hH hS => hsp H a ns hlen hbits hH hS) fun H e s' => hCX w H s₁ e s'
end LamX
set_option maxHeartbeats 4000000
/-! the Hook again, properties' getters among the defs -/
namespace Hy
open PySem PySem.Spec PyProof.Rows L2 He Hx
/-- a function: a global's, a class's method, a property's getter -/
def fAdP (K : PySem.W.Frag) (p : Str × Option Str) : Addr := match p.2 with
  | none => ga K p.1
  | some m => match PySem.W.recIn K (ma K (ga K p.1) m) "property" with
    | some (.ref g :: _) => g
    | _ => match PySem.W.recIn K (ma K (ga K p.1) m) "classmethod" with
      | some (.ref g :: _) => g
      | _ => ma K (ga K p.1) m
def fnP (K : PySem.W.Frag) (p : Str × Option Str) : FnW := match K.lookup (fAdP K p) with
  | some ⟨_, _, .func fd, _⟩ => some (fd.name, fd.qualname, fd.params, fd.body, fd.scope, fd.globals, fd.closure, fd.builtins)
  | _ => none
def okP (K : PySem.W.Frag) (d : DefD) : Bool := PySem.W.keepIn K (.ref (fAdP K d.at_)) && (match K.lookup (fAdP K d.at_) with
  | some ⟨_, _, .func fd, _⟩ => PySem.W.codeIn K fd.code d.qual && (dflB K fd.defaults (d.dvs K) && kwdB K fd.kwdefaults (d.kws K))
  | _ => false)
theorem funP {K : PySem.W.Frag} {d : DefD} (e : fnP K d.at_ = d.val) (c : okP K d = true) : ∃ fd, FunD K d.name d.qual d.params d.body d.scope (d.dvs K) (d.kws K) (fAdP K d.at_) fd := by
  obtain ⟨kp, c2⟩ := ba c
  unfold fnP at e
  cases q : K.lookup (fAdP K d.at_) with
  | none =>
    rw [q] at c2
    cases c2
  | some o =>
    obtain ⟨oc, od, dt, osl⟩ := o
    rw [q] at c2 e
    cases dt with
    | func fd =>
      obtain ⟨n1, n2, n3, n4, n5, n6, n7, n8, n9, n10, n11, n12, n13, n14, n15⟩ := fd
      have e2 : (some (n1, n2, n3, n4, n5, n6, n7, n15) : FnW) = some (d.name, d.qual, d.params, .stmts d.body, d.scope, mainGlobals, [], builtinsNs) := e
      simp only [Option.some.injEq, Prod.mk.injEq] at e2
      obtain ⟨h1, h2, h3, h4, h5, h6, h7, h8⟩ := e2
      subst h1 h2 h3 h4 h5 h6 h7 h8
      have c3 : (PySem.W.codeIn K n13 d.qual && (dflB K n8 (d.dvs K) && kwdB K n9 (d.kws K))) = true := c2
      obtain ⟨k1, k2⟩ := ba c3
      obtain ⟨k3, k4⟩ := ba k2
      exact ⟨_, ⟨oc, od, n8, n9, n10, n11, n12, n13, n14, osl, rfl, q, k1, dflB_ok k3, kwdB_ok k4⟩, kp⟩
    | _ => cases c2
def obsY (ck : List Chk) (fn : List DefD) (K : PySem.W.Frag) : AlD := ((ck.all fun f => f K) && fn.all fun d => okP K d, fn.map fun d => fnP K d.at_)
def SaysY (ck : List Chk) (fn : List DefD) (K : PySem.W.Frag) : Prop := obsY ck fn K = valD fn
section
variable {ck : List Chk} {fn : List DefD} {K : PySem.W.Frag}
theorem SaysY.fact (c : SaysY ck fn K) (i : Nat) {f : Chk} (h : ck[i]? = some f := by rfl) : f K = true := by
  have c1 := (ba (show ((ck.all fun f => f K) && fn.all fun d => okP K d) = true from congrArg (fun z : AlD => z.1) c)).1
  exact List.all_eq_true.mp c1 f (List.mem_of_getElem? h)
theorem SaysY.def_ (c : SaysY ck fn K) (i : Nat) {d : DefD} (h : fn[i]? = some d := by rfl) : ∃ fd, FunD K d.name d.qual d.params d.body d.scope (d.dvs K) (d.kws K) (fAdP K d.at_) fd := by
  have c2 := (ba (show ((ck.all fun f => f K) && fn.all fun d => okP K d) = true from congrArg (fun z : AlD => z.1) c)).2
  have e : fn.map (fun d => fnP K d.at_) = fn.map DefD.val := congrArg (fun z : AlD => z.2) c
  have e2 : (fn.map fun d => fnP K d.at_)[i]? = (fn.map DefD.val)[i]? := by rw [e]
  rw [List.getElem?_map, List.getElem?_map, h] at e2
  exact funP (Option.some.inj e2) (List.all_eq_true.mp c2 d (List.mem_of_getElem? h))
end
def kidsP (g : Addr → Option Obj) (a : Addr) : List Addr := match g a with
  | some ⟨.type t, _, .fields vs, _⟩ => if t = "property" || t = "classmethod" then vs.toList.flatMap refV else []
  | _ => kidsF g a
/-- the module's names xs, their code objects, their classes' methods, these ones' code objects, properties' getters; without the tables of the defs ts -/
def pickP (xs : List Str) (g : Addr → Option Obj) : List Addr :=
  let A1 := xs.map (ga (frG g [mainGlobals]))
  let A2 := A1.flatMap (kidsF g)
  let A3 := A2.flatMap (kidsF g)
  let A4 := A3.flatMap (kidsP g)
  mainGlobals :: sysModules :: (A1 ++ (A2 ++ (A3 ++ (A4 ++ A4.flatMap (kidsF g)))))
def pickY (x : Str) (xs : List Str) (g : Addr → Option Obj) : List Addr := let as := pickP xs g; let P := lawTab x (frG g as); as.filter fun a => a != P
/-- the same, without the tables of the defs ts -/
def pickYs (ts : List Str) (xs : List Str) (g : Addr → Option Obj) : List Addr := let as := pickP xs g; let Ps := ts.map fun x => lawTab x (frG g as); as.filter fun a => Ps.all fun P => a != P
def obsYG (pick : (Addr → Option Obj) → List Addr) (ck : List Chk) (fn : List DefD) (g : Addr → Option Obj) : AlD := obsY ck fn (frG g (pick g))
def hookY (pick : (Addr → Option Obj) → List Addr) (ck : List Chk) (fn : List DefD) : PySem.W.Hook where
  α := AlD
  obs := fun s => obsYG pick ck fn s.heap.get?
  val := fun _ => valD fn
  says := fun _ h => ∃ K : PySem.W.Frag, K.In h ∧ SaysY ck fn K
  of := fun _ _ e => ⟨_, frG_in, e⟩
  keeps := fun _ _ _ ⟨K, hK, c⟩ k => ⟨K, PySem.W.Frag.In.keeps hK k, c⟩
theorem obsYG_eq {pick : (Addr → Option Obj) → List Addr} {ck : List Chk} {fn : List DefD} {g : Addr → Option Obj} {s : Shared} (h : ∀ a, g a = s.heap.get? a) : obsYG pick ck fn g = (hookY pick ck fn).obs s := by
  have e : g = s.heap.get? := funext h
  rw [e] <;> rfl
end Hy
set_option maxHeartbeats 0
namespace K7
open PySem PySem.Spec PyProof.Rows L2
def top (i : Nat) : Stmt := PySem.Challenge.pw_manymarks_k79_errors_of_paths.main.body.getD i (.Pass ⟨0, 0, 0, 0⟩)
abbrev s_is_integer : Stmt := top 14
def d_is_integer : He.DefD := ⟨("is_integer", none), "is_integer", "is_integer", defArgs s_is_integer, defBody s_is_integer, defScope s_is_integer, [], []⟩
abbrev s_is_between : Stmt := top 15
def d_is_between : He.DefD := ⟨("is_between", none), "is_between", "is_between", defArgs s_is_between, defBody s_is_between, defScope s_is_between, [], []⟩
abbrev s_is_word : Stmt := top 16
def d_is_word : He.DefD := ⟨("is_word", none), "is_word", "is_word", defArgs s_is_word, defBody s_is_word, defScope s_is_word, [], []⟩
abbrev s_are_ascending : Stmt := top 18
def d_are_ascending : He.DefD := ⟨("are_ascending", none), "are_ascending", "are_ascending", defArgs s_are_ascending, defBody s_are_ascending, defScope s_are_ascending, [], []⟩
abbrev s_are_letters : Stmt := top 19
def d_are_letters : He.DefD := ⟨("are_letters", none), "are_letters", "are_letters", defArgs s_are_letters, defBody s_are_letters, defScope s_are_letters, [], []⟩
abbrev s_require_length : Stmt := top 20
def d_require_length : He.DefD := ⟨("require_length", none), "require_length", "require_length", defArgs s_require_length, defBody s_require_length, defScope s_require_length, [], []⟩
abbrev s_met_from : Stmt := top 38
def d_met_from : He.DefD := ⟨("met_from", none), "met_from", "met_from", defArgs s_met_from, defBody s_met_from, defScope s_met_from, [], []⟩
abbrev s_linked : Stmt := top 39
def d_linked : He.DefD := ⟨("linked", none), "linked", "linked", defArgs s_linked, defBody s_linked, defScope s_linked, [], []⟩
abbrev s_useful_in : Stmt := top 40
def d_useful_in : He.DefD := ⟨("useful_in", none), "useful_in", "useful_in", defArgs s_useful_in, defBody s_useful_in, defScope s_useful_in, [], []⟩
abbrev s_is_short : Stmt := top 70
def d_is_short : He.DefD := ⟨("is_short", none), "is_short", "is_short", defArgs s_is_short, defBody s_is_short, defScope s_is_short, [], []⟩
abbrev s_is_number : Stmt := top 71
def d_is_number : He.DefD := ⟨("is_number", none), "is_number", "is_number", defArgs s_is_number, defBody s_is_number, defScope s_is_number, [], []⟩
abbrev s_are_worded : Stmt := top 72
def d_are_worded : He.DefD := ⟨("are_worded", none), "are_worded", "are_worded", defArgs s_are_worded, defBody s_are_worded, defScope s_are_worded, [], []⟩
abbrev s_is_edge : Stmt := top 73
def d_is_edge : He.DefD := ⟨("is_edge", none), "is_edge", "is_edge", defArgs s_is_edge, defBody s_is_edge, defScope s_is_edge, [], []⟩
abbrev s_are_edges : Stmt := top 74
def d_are_edges : He.DefD := ⟨("are_edges", none), "are_edges", "are_edges", defArgs s_are_edges, defBody s_are_edges, defScope s_are_edges, [], []⟩
abbrev s_edges_after : Stmt := top 75
def d_edges_after : He.DefD := ⟨("edges_after", none), "edges_after", "edges_after", defArgs s_edges_after, defBody s_edges_after, defScope s_edges_after, [], []⟩
abbrev s_edges_before : Stmt := top 76
def d_edges_before : He.DefD := ⟨("edges_before", none), "edges_before", "edges_before", defArgs s_edges_before, defBody s_edges_before, defScope s_edges_before, [], []⟩
abbrev s_kept_words : Stmt := top 77
def d_kept_words : He.DefD := ⟨("kept_words", none), "kept_words", "kept_words", defArgs s_kept_words, defBody s_kept_words, defScope s_kept_words, [], []⟩
abbrev s_rwInit : Stmt := inClass (top 78) 0
def d_rwInit : He.DefD := ⟨("Rewriter", some "__init__"), "__init__", "Rewriter.__init__", defArgs s_rwInit, defBody s_rwInit, defScope s_rwInit, [], []⟩
abbrev s_require_rewriter : Stmt := top 79
def d_require_rewriter : He.DefD := ⟨("require_rewriter", none), "require_rewriter", "require_rewriter", defArgs s_require_rewriter, defBody s_require_rewriter, defScope s_require_rewriter, [], []⟩
abbrev s_is_text : Stmt := top 17
def d_is_text : He.DefD := ⟨("is_text", none), "is_text", "is_text", defArgs s_is_text, defBody s_is_text, defScope s_is_text, [], []⟩
abbrev s_require_text : Stmt := top 81
def d_require_text : He.DefD := ⟨("require_text", none), "require_text", "require_text", defArgs s_require_text, defBody s_require_text, defScope s_require_text, [], []⟩
abbrev s_require_rest : Stmt := top 82
def d_require_rest : He.DefD := ⟨("require_rest", none), "require_rest", "require_rest", defArgs s_require_rest, defBody s_require_rest, defScope s_require_rest, [], []⟩
abbrev s_pair_targets : Stmt := top 97
def d_pair_targets : He.DefD := ⟨("pair_targets", none), "pair_targets", "pair_targets", defArgs s_pair_targets, defBody s_pair_targets, defScope s_pair_targets, [], []⟩
abbrev s_ways_from : Stmt := top 102
def d_ways_from : He.DefD := ⟨("ways_from", none), "ways_from", "ways_from", defArgs s_ways_from, defBody s_ways_from, defScope s_ways_from, [], []⟩
abbrev s_double_circles : Stmt := top 108
def d_double_circles : He.DefD := ⟨("double_circles", none), "double_circles", "double_circles", defArgs s_double_circles, defBody s_double_circles, defScope s_double_circles, [], []⟩
abbrev s_doubling_in : Stmt := top 109
def d_doubling_in : He.DefD := ⟨("doubling_in", none), "doubling_in", "doubling_in", defArgs s_doubling_in, defBody s_doubling_in, defScope s_doubling_in, [], []⟩
abbrev s_ahead_in : Stmt := top 110
def d_ahead_in : He.DefD := ⟨("ahead_in", none), "ahead_in", "ahead_in", defArgs s_ahead_in, defBody s_ahead_in, defScope s_ahead_in, [], []⟩
abbrev s_triple_targets : Stmt := top 111
def d_triple_targets : He.DefD := ⟨("triple_targets", none), "triple_targets", "triple_targets", defArgs s_triple_targets, defBody s_triple_targets, defScope s_triple_targets, [], []⟩
abbrev s_link_in : Stmt := top 112
def d_link_in : He.DefD := ⟨("link_in", none), "link_in", "link_in", defArgs s_link_in, defBody s_link_in, defScope s_link_in, [], []⟩
abbrev s_links_in : Stmt := top 113
def d_links_in : He.DefD := ⟨("links_in", none), "links_in", "links_in", defArgs s_links_in, defBody s_links_in, defScope s_links_in, [], []⟩
abbrev s_is_state_pair : Stmt := top 105
def d_is_state_pair : He.DefD := ⟨("is_state_pair", none), "is_state_pair", "is_state_pair", defArgs s_is_state_pair, defBody s_is_state_pair, defScope s_is_state_pair, [], []⟩
abbrev s_are_closed : Stmt := top 106
def d_are_closed : He.DefD := ⟨("are_closed", none), "are_closed", "are_closed", defArgs s_are_closed, defBody s_are_closed, defScope s_are_closed, [], []⟩
abbrev s_last_in : Stmt := top 86
def d_last_in : He.DefD := ⟨("last_in", none), "last_in", "last_in", defArgs s_last_in, defBody s_last_in, defScope s_last_in, [], []⟩
abbrev s_is_path_in : Stmt := top 85
def d_is_path_in : He.DefD := ⟨("is_path_in", none), "is_path_in", "is_path_in", defArgs s_is_path_in, defBody s_is_path_in, defScope s_is_path_in, [], []⟩
abbrev s_is_complete_in : Stmt := top 88
def d_is_complete_in : He.DefD := ⟨("is_complete_in", none), "is_complete_in", "is_complete_in", defArgs s_is_complete_in, defBody s_is_complete_in, defScope s_is_complete_in, [], []⟩
abbrev s_is_one_path_paper_in : Stmt := top 107
def d_is_one_path_paper_in : He.DefD := ⟨("is_one_path_paper_in", none), "is_one_path_paper_in", "is_one_path_paper_in", defArgs s_is_one_path_paper_in, defBody s_is_one_path_paper_in, defScope s_is_one_path_paper_in, [], []⟩
abbrev s_is_row_between : Stmt := top 117
def d_is_row_between : He.DefD := ⟨("is_row_between", none), "is_row_between", "is_row_between", defArgs s_is_row_between, defBody s_is_row_between, defScope s_is_row_between, [], []⟩
abbrev s_are_double : Stmt := top 118
def d_are_double : He.DefD := ⟨("are_double", none), "are_double", "are_double", defArgs s_are_double, defBody s_are_double, defScope s_are_double, [], []⟩
abbrev s_is_link : Stmt := top 120
def d_is_link : He.DefD := ⟨("is_link", none), "is_link", "is_link", defArgs s_is_link, defBody s_is_link, defScope s_is_link, [], []⟩
abbrev s_is_chain : Stmt := top 121
def d_is_chain : He.DefD := ⟨("is_chain", none), "is_chain", "is_chain", defArgs s_is_chain, defBody s_is_chain, defScope s_is_chain, [], []⟩
abbrev s_is_growth_paper_in : Stmt := top 123
def d_is_growth_paper_in : He.DefD := ⟨("is_growth_paper_in", none), "is_growth_paper_in", "is_growth_paper_in", defArgs s_is_growth_paper_in, defBody s_is_growth_paper_in, defScope s_is_growth_paper_in, [], []⟩
abbrev s_one_path_paper : Stmt := top 133
def d_one_path_paper : He.DefD := ⟨("one_path_paper", none), "one_path_paper", "one_path_paper", defArgs s_one_path_paper, defBody s_one_path_paper, defScope s_one_path_paper, [], []⟩
abbrev s_doubling_states : Stmt := top 135
def d_doubling_states : He.DefD := ⟨("doubling_states", none), "doubling_states", "doubling_states", defArgs s_doubling_states, defBody s_doubling_states, defScope s_doubling_states, [], []⟩
abbrev s_linked_pairs : Stmt := top 136
def d_linked_pairs : He.DefD := ⟨("linked_pairs", none), "linked_pairs", "linked_pairs", defArgs s_linked_pairs, defBody s_linked_pairs, defScope s_linked_pairs, [], []⟩
abbrev s_growth : Stmt := top 137
def d_growth : He.DefD := ⟨("growth", none), "growth", "growth", defArgs s_growth, defBody s_growth, defScope s_growth, [], []⟩
abbrev s_growth_paper : Stmt := top 138
def d_growth_paper : He.DefD := ⟨("growth_paper", none), "growth_paper", "growth_paper", defArgs s_growth_paper, defBody s_growth_paper, defScope s_growth_paper, [], []⟩
abbrev s_most_paths : Stmt := top 140
def d_most_paths : He.DefD := ⟨("most_paths", none), "most_paths", "most_paths", defArgs s_most_paths, defBody s_most_paths, defScope s_most_paths, [], []⟩
abbrev s_is_one_path_paper : Stmt := top 134
def d_is_one_path_paper : He.DefD := ⟨("is_one_path_paper", none), "is_one_path_paper", "is_one_path_paper", defArgs s_is_one_path_paper, defBody s_is_one_path_paper, defScope s_is_one_path_paper, [], []⟩
abbrev s_is_growth_paper : Stmt := top 139
def d_is_growth_paper : He.DefD := ⟨("is_growth_paper", none), "is_growth_paper", "is_growth_paper", defArgs s_is_growth_paper, defBody s_is_growth_paper, defScope s_is_growth_paper, [], []⟩
abbrev s_count_paths : Stmt := top 130
def d_count_paths : He.DefD := ⟨("count_paths", none), "count_paths", "count_paths", defArgs s_count_paths, defBody s_count_paths, defScope s_count_paths, [], []⟩
abbrev s_counts_of : Stmt := top 131
def d_counts_of : He.DefD := ⟨("counts_of", none), "counts_of", "counts_of", defArgs s_counts_of, defBody s_counts_of, defScope s_counts_of, [], []⟩
abbrev s_paths_with : Stmt := top 132
def d_paths_with : He.DefD := ⟨("paths_with", none), "paths_with", "paths_with", defArgs s_paths_with, defBody s_paths_with, defScope s_paths_with, [], []⟩
abbrev s_iNumber : Stmt := inClass (top 7) 0
def d_iNumber : He.DefD := ⟨("InvalidNumber", some "__init__"), "__init__", "InvalidNumber.__init__", defArgs s_iNumber, defBody s_iNumber, defScope s_iNumber, [], []⟩
abbrev s_sack : Stmt := top 142
def d_sack : He.DefD := ⟨("_law_sack", none), "_law_sack", "_law_sack", defArgs s_sack, defBody s_sack, defScope s_sack, [], []⟩
abbrev s_dip : Stmt := top 143
def d_dip : He.DefD := ⟨("_law_dip", none), "_law_dip", "_law_dip", defArgs s_dip, defBody s_dip, defScope s_dip, [], []⟩
abbrev s_lone : Stmt := top 144
def d_lone : He.DefD := ⟨("_law_one", none), "_law_one", "_law_one", defArgs s_lone, defBody s_lone, defScope s_lone, [], []⟩
abbrev s_met : Stmt := top 145
def d_met : He.DefD := ⟨("_law_met", none), "_law_met", "_law_met", defArgs s_met, defBody s_met, defScope s_met, [], []⟩
abbrev s_right : Stmt := top 146
def d_right : He.DefD := ⟨("_law_right", none), "_law_right", "_law_right", defArgs s_right, defBody s_right, defScope s_right, [], []⟩
abbrev s_law : Stmt := top 147
def d_law : He.DefD := ⟨("law", none), "law", "law", defArgs s_law, defBody s_law, defScope s_law, [], []⟩
def fn : List He.DefD := [d_is_integer, d_is_between, d_is_word, d_are_ascending, d_are_letters, d_require_length, d_met_from, d_linked, d_useful_in, d_is_short, d_is_number, d_are_worded, d_is_edge, d_are_edges, d_edges_after, d_edges_before, d_kept_words, d_rwInit, d_require_rewriter, d_is_text, d_require_text, d_require_rest, d_pair_targets, d_ways_from, d_double_circles, d_doubling_in, d_ahead_in, d_triple_targets, d_link_in, d_links_in, d_is_state_pair, d_are_closed, d_last_in, d_is_path_in, d_is_complete_in, d_is_one_path_paper_in, d_is_row_between, d_are_double, d_is_link, d_is_chain, d_is_growth_paper_in, d_one_path_paper, d_doubling_states, d_linked_pairs, d_growth, d_growth_paper, d_most_paths, d_is_one_path_paper, d_is_growth_paper, d_count_paths, d_counts_of, d_paths_with, d_iNumber, d_sack, d_dip, d_lone, d_met, d_right, d_law]
theorem sc_is_integer : FnScope ["value"] ["value"] (defScope s_is_integer) := ⟨rfl, rfl, rfl, by decide +kernel, rfl, by decide +kernel, by decide +kernel⟩
theorem sc_is_between : FnScope ["value", "low", "high"] ["value", "low", "high"] (defScope s_is_between) := ⟨rfl, rfl, rfl, by decide +kernel, rfl, by decide +kernel, by decide +kernel⟩
theorem sc_is_word : FnScope ["value", "sign"] ["value"] (defScope s_is_word) := ⟨rfl, rfl, rfl, by decide +kernel, rfl, by decide +kernel, by decide +kernel⟩
theorem sc_are_ascending : FnScope ["signs", "one", "other"] ["signs"] (defScope s_are_ascending) := ⟨rfl, rfl, rfl, by decide +kernel, rfl, by decide +kernel, by decide +kernel⟩
theorem sc_are_letters : FnScope ["value"] ["value"] (defScope s_are_letters) := ⟨rfl, rfl, rfl, by decide +kernel, rfl, by decide +kernel, by decide +kernel⟩
theorem sc_require_length : FnScope ["value"] ["value"] (defScope s_require_length) := ⟨rfl, rfl, rfl, by decide +kernel, rfl, by decide +kernel, by decide +kernel⟩
theorem sc_met_from : FnScope ["begins", "follows", "found", "waiting", "state"] ["begins", "follows"] (defScope s_met_from) := ⟨rfl, rfl, rfl, by decide +kernel, rfl, by decide +kernel, by decide +kernel⟩
theorem sc_linked : FnScope ["pairs", "found", "one", "other"] ["pairs"] (defScope s_linked) := ⟨rfl, rfl, rfl, by decide +kernel, rfl, by decide +kernel, by decide +kernel⟩
theorem sc_useful_in : FnScope ["starts", "edges", "ends", "edge", "ahead", "back", "state"] ["starts", "edges", "ends"] (defScope s_useful_in) := ⟨rfl, rfl, rfl, by decide +kernel, rfl, by decide +kernel, by decide +kernel⟩
theorem sc_is_short : FnScope ["value"] ["value"] (defScope s_is_short) := ⟨rfl, rfl, rfl, by decide +kernel, rfl, by decide +kernel, by decide +kernel⟩
theorem sc_is_number : FnScope ["value"] ["value"] (defScope s_is_number) := ⟨rfl, rfl, rfl, by decide +kernel, rfl, by decide +kernel, by decide +kernel⟩
theorem sc_are_worded : FnScope ["value", "state", "word"] ["value"] (defScope s_are_worded) := ⟨rfl, rfl, rfl, by decide +kernel, rfl, by decide +kernel, by decide +kernel⟩
theorem sc_is_edge : FnScope ["letters", "value", "state", "letter", "word", "target"] ["letters", "value"] (defScope s_is_edge) := ⟨rfl, rfl, rfl, by decide +kernel, rfl, by decide +kernel, by decide +kernel⟩
theorem sc_are_edges : FnScope ["letters", "value", "edge"] ["letters", "value"] (defScope s_are_edges) := ⟨rfl, rfl, rfl, by decide +kernel, rfl, by decide +kernel, by decide +kernel⟩
theorem sc_edges_after : FnScope ["edges", "found", "edge"] ["edges"] (defScope s_edges_after) := ⟨rfl, rfl, rfl, by decide +kernel, rfl, by decide +kernel, by decide +kernel⟩
theorem sc_edges_before : FnScope ["edges", "found", "edge", "key"] ["edges"] (defScope s_edges_before) := ⟨rfl, rfl, rfl, by decide +kernel, rfl, by decide +kernel, by decide +kernel⟩
theorem sc_kept_words : FnScope ["words", "states", "state"] ["words", "states"] (defScope s_kept_words) := ⟨rfl, rfl, rfl, by decide +kernel, rfl, by decide +kernel, by decide +kernel⟩
theorem sc_rwInit : FnScope ["self", "letters", "starts", "edges", "ends", "states", "edge", "useful"] ["self", "letters", "starts", "edges", "ends"] (defScope s_rwInit) := ⟨rfl, rfl, rfl, by decide +kernel, rfl, by decide +kernel, by decide +kernel⟩
theorem sc_require_rewriter : FnScope ["value"] ["value"] (defScope s_require_rewriter) := ⟨rfl, rfl, rfl, by decide +kernel, rfl, by decide +kernel, by decide +kernel⟩
theorem sc_is_text : FnScope ["value"] ["value"] (defScope s_is_text) := ⟨rfl, rfl, rfl, by decide +kernel, rfl, by decide +kernel, by decide +kernel⟩
theorem sc_require_text : FnScope ["value"] ["value"] (defScope s_require_text) := ⟨rfl, rfl, rfl, by decide +kernel, rfl, by decide +kernel, by decide +kernel⟩
theorem sc_require_rest : FnScope ["thing", "value", "letter"] ["thing", "value"] (defScope s_require_rest) := ⟨rfl, rfl, rfl, by decide +kernel, rfl, by decide +kernel, by decide +kernel⟩
theorem sc_pair_targets : FnScope ["rewriter", "pair", "found", "letter", "edge", "others", "other"] ["rewriter", "pair"] (defScope s_pair_targets) := ⟨rfl, rfl, rfl, by decide +kernel, rfl, by decide +kernel, by decide +kernel⟩
theorem sc_ways_from : FnScope ["rewriter", "begins", "is_goal", "begin", "origin", "waiting", "at", "here", "rows", "edge", "other", "row", "target", "there"] ["rewriter", "begins", "is_goal"] (defScope s_ways_from) := ⟨rfl, rfl, rfl, by decide +kernel, rfl, by decide +kernel, by decide +kernel⟩
theorem sc_double_circles : FnScope ["rewriter", "state", "found"] ["rewriter", "state"] (defScope s_double_circles) := ⟨rfl, rfl, rfl, by decide +kernel, rfl, by decide +kernel, by decide +kernel⟩
theorem sc_doubling_in : FnScope ["rewriter", "state"] ["rewriter"] (defScope s_doubling_in) := ⟨rfl, rfl, rfl, by decide +kernel, rfl, by decide +kernel, by decide +kernel⟩
theorem sc_ahead_in : FnScope ["rewriter", "state", "found", "waiting", "here", "edge"] ["rewriter", "state"] (defScope s_ahead_in) := ⟨rfl, rfl, rfl, by decide +kernel, rfl, by decide +kernel, by decide +kernel⟩
theorem sc_triple_targets : FnScope ["rewriter", "triple", "letter", "one", "edge", "first", "second", "third", "found", "other", "last"] ["rewriter", "triple", "letter"] (defScope s_triple_targets) := ⟨rfl, rfl, rfl, by decide +kernel, rfl, by decide +kernel, by decide +kernel⟩
theorem sc_link_in : FnScope ["rewriter", "one", "other", "begin", "goal", "texts", "layer", "later", "here", "letter", "target"] ["rewriter", "one", "other"] (defScope s_link_in) := ⟨rfl, rfl, rfl, by decide +kernel, rfl, by decide +kernel, by decide +kernel⟩
theorem sc_links_in : FnScope ["rewriter", "found", "one", "other", "text"] ["rewriter"] (defScope s_links_in) := ⟨rfl, rfl, rfl, by decide +kernel, rfl, by decide +kernel, by decide +kernel⟩
theorem sc_is_state_pair : FnScope ["rewriter", "value", "state"] ["rewriter", "value"] (defScope s_is_state_pair) := ⟨rfl, rfl, rfl, by decide +kernel, rfl, by decide +kernel, by decide +kernel⟩
theorem sc_are_closed : FnScope ["rewriter", "value", "pair", "one", "other", "inside", "edge", "target", "ending"] ["rewriter", "value"] (defScope s_are_closed) := ⟨rfl, rfl, rfl, by decide +kernel, rfl, by decide +kernel, by decide +kernel⟩
theorem sc_last_in : FnScope ["path", "state", "edges"] ["path"] (defScope s_last_in) := ⟨rfl, rfl, rfl, by decide +kernel, rfl, by decide +kernel, by decide +kernel⟩
theorem sc_is_path_in : FnScope ["rewriter", "value", "here", "edges", "edge"] ["rewriter", "value"] (defScope s_is_path_in) := ⟨rfl, rfl, rfl, by decide +kernel, rfl, by decide +kernel, by decide +kernel⟩
theorem sc_is_complete_in : FnScope ["rewriter", "value"] ["rewriter", "value"] (defScope s_is_complete_in) := ⟨rfl, rfl, rfl, by decide +kernel, rfl, by decide +kernel, by decide +kernel⟩
theorem sc_is_one_path_paper_in : FnScope ["rewriter", "value", "text", "path", "other"] ["rewriter", "value"] (defScope s_is_one_path_paper_in) := ⟨rfl, rfl, rfl, by decide +kernel, rfl, by decide +kernel, by decide +kernel⟩
theorem sc_is_row_between : FnScope ["rewriter", "state", "goal", "value", "here", "edge"] ["rewriter", "state", "goal", "value"] (defScope s_is_row_between) := ⟨rfl, rfl, rfl, by decide +kernel, rfl, by decide +kernel, by decide +kernel⟩
theorem sc_are_double : FnScope ["rewriter", "value", "state", "circle", "other", "one"] ["rewriter", "value"] (defScope s_are_double) := ⟨rfl, rfl, rfl, by decide +kernel, rfl, by decide +kernel, by decide +kernel⟩
theorem sc_is_link : FnScope ["rewriter", "value", "one", "other", "text", "ways", "begin", "goal"] ["rewriter", "value"] (defScope s_is_link) := ⟨rfl, rfl, rfl, by decide +kernel, rfl, by decide +kernel, by decide +kernel⟩
theorem sc_is_chain : FnScope ["rewriter", "value", "one", "other"] ["rewriter", "value"] (defScope s_is_chain) := ⟨rfl, rfl, rfl, by decide +kernel, rfl, by decide +kernel, by decide +kernel⟩
theorem sc_is_growth_paper_in : FnScope ["rewriter", "value"] ["rewriter", "value"] (defScope s_is_growth_paper_in) := ⟨rfl, rfl, rfl, by decide +kernel, rfl, by decide +kernel, by decide +kernel⟩
theorem sc_one_path_paper : FnScope ["rewriter"] ["rewriter"] (defScope s_one_path_paper) := ⟨rfl, rfl, rfl, by decide +kernel, rfl, by decide +kernel, by decide +kernel⟩
theorem sc_doubling_states : FnScope ["rewriter"] ["rewriter"] (defScope s_doubling_states) := ⟨rfl, rfl, rfl, by decide +kernel, rfl, by decide +kernel, by decide +kernel⟩
theorem sc_linked_pairs : FnScope ["rewriter"] ["rewriter"] (defScope s_linked_pairs) := ⟨rfl, rfl, rfl, by decide +kernel, rfl, by decide +kernel, by decide +kernel⟩
theorem sc_growth : FnScope ["rewriter"] ["rewriter"] (defScope s_growth) := ⟨rfl, rfl, rfl, by decide +kernel, rfl, by decide +kernel, by decide +kernel⟩
theorem sc_growth_paper : FnScope ["rewriter"] ["rewriter"] (defScope s_growth_paper) := ⟨rfl, rfl, rfl, by decide +kernel, rfl, by decide +kernel, by decide +kernel⟩
theorem sc_most_paths : FnScope ["rewriter", "texts", "layer", "later", "here", "letter", "there", "row", "most", "text"] ["rewriter"] (defScope s_most_paths) := ⟨rfl, rfl, rfl, by decide +kernel, rfl, by decide +kernel, by decide +kernel⟩
theorem sc_is_one_path_paper : FnScope ["rewriter", "value"] ["rewriter", "value"] (defScope s_is_one_path_paper) := ⟨rfl, rfl, rfl, by decide +kernel, rfl, by decide +kernel, by decide +kernel⟩
theorem sc_is_growth_paper : FnScope ["rewriter", "value"] ["rewriter", "value"] (defScope s_is_growth_paper) := ⟨rfl, rfl, rfl, by decide +kernel, rfl, by decide +kernel, by decide +kernel⟩
theorem sc_count_paths : FnScope ["rewriter", "text", "row", "letter"] ["rewriter", "text"] (defScope s_count_paths) := ⟨rfl, rfl, rfl, by decide +kernel, rfl, by decide +kernel, by decide +kernel⟩
theorem sc_counts_of : FnScope ["rewriter", "length", "rows", "turn", "later", "row", "many", "letter", "there", "found", "number"] ["rewriter", "length"] (defScope s_counts_of) := ⟨rfl, rfl, rfl, by decide +kernel, rfl, by decide +kernel, by decide +kernel⟩
theorem sc_paths_with : FnScope ["rewriter", "length", "state", "here", "turn", "later", "edge", "number"] ["rewriter", "length"] (defScope s_paths_with) := ⟨rfl, rfl, rfl, by decide +kernel, rfl, by decide +kernel, by decide +kernel⟩
theorem sc_iNumber : FnScope ["self", "value"] ["self", "value"] (defScope s_iNumber) := ⟨rfl, rfl, rfl, by decide +kernel, rfl, by decide +kernel, by decide +kernel⟩
theorem sc_sack : FnScope ["script", "spot", "cell", "great", "mixed"] ["script", "spot"] (defScope s_sack) := ⟨rfl, rfl, rfl, by decide +kernel, rfl, by decide +kernel, by decide +kernel⟩
theorem sc_dip : FnScope ["sack", "total", "found", "one", "two"] ["sack", "total"] (defScope s_dip) := ⟨rfl, rfl, rfl, by decide +kernel, rfl, by decide +kernel, by decide +kernel⟩
theorem sc_lone : FnScope ["sack", "items"] ["sack", "items"] (defScope s_lone) := ⟨rfl, rfl, rfl, by decide +kernel, rfl, by decide +kernel, by decide +kernel⟩
theorem sc_met : FnScope ["call", "e"] ["call"] (defScope s_met) := ⟨rfl, rfl, rfl, by decide +kernel, rfl, by decide +kernel, by decide +kernel⟩
theorem sc_right : FnScope ["sack", "none", "good", "text", "far", "few", "told", "due", "call", "odd", "value"] ["sack"] (defScope s_right) := ⟨rfl, rfl, rfl, by decide +kernel, rfl, by decide +kernel, by decide +kernel⟩
theorem sc_law : FnScope ["script", "spot", "sack"] ["script"] (defScope s_law) := ⟨rfl, rfl, rfl, by decide +kernel, rfl, by decide +kernel, by decide +kernel⟩
def lo1 : List PySem.Str := ["_wall", "MarkError", "InvalidText", "InvalidRewriter", "InvalidMachine", "InvalidOperation", "InvalidNumber", "TooMany", "NotSingle", "MAX_TEXT", "MOST_LETTERS_words", "LETTERS", "is_integer", "is_between", "is_word", "is_text", "are_ascending", "are_letters", "require_length", "shared_letters"]
def lo2 : List PySem.Str := ["delay_in", "led_on_in", "place_in_order", "ordered", "MOST_RESULTS", "sources_in", "lefts_in", "has_result_in", "words_behind", "some_results_in", "results_in", "MOST_STATES", "MOST_EDGES", "MOST_LETTERS_joining", "met_from", "linked", "useful_in", "numbered_in", "turned_in", "moved_by"]
def lo3 : List PySem.Str := ["chosen_in", "ways_in", "behind_in", "steps_in", "reached_in", "leading_in", "end_pairs", "two_path_in", "way_in", "row_to", "edges_of", "SINGLE_single_inner", "TWO_single_inner", "whole_word", "further_paths", "two_paper", "start_delays", "unlike_ends", "single_paper_in", "MAX_STATES"]
def lo4 : List PySem.Str := ["MAX_EDGES", "MAX_WORD", "SINGLE_rewriters", "is_short", "is_number", "are_worded", "is_edge", "are_edges", "edges_after", "edges_before", "kept_words", "Rewriter", "require_rewriter", "require_one_result", "require_text", "require_rest", "is_edge_at", "is_path_in", "last_in", "reads_in"]
def lo5 : List PySem.Str := ["is_complete_in", "ONE", "TWO_growing", "DOUBLING", "GROWS", "PAIR_SIZE", "TRIPLE_SIZE", "TWO_SIZE", "pair_targets", "start_pairs", "closed_pairs", "ending_pairs", "has_twins", "ways_from", "two_in", "one_path_paper_in", "is_state_pair", "are_closed", "is_one_path_paper_in", "double_circles"]
def lo6 : List PySem.Str := ["doubling_in", "ahead_in", "triple_targets", "link_in", "links_in", "longest_chain", "levels_in", "growth_paper_in", "is_row_between", "are_double", "leads_by", "is_link", "is_chain", "are_levels", "is_growth_paper_in", "MOST_ROWS", "MOST_COUNTED", "first_row", "later_row", "whole_in"]
def lo7 : List PySem.Str := ["count_paths", "counts_of", "paths_with", "one_path_paper", "is_one_path_paper", "doubling_states", "linked_pairs", "growth", "growth_paper", "is_growth_paper", "most_paths", "_law_sack", "_law_dip", "_law_one", "_law_met", "_law_right"]
def lo : List PySem.Str := lo1 ++ lo2 ++ lo3 ++ lo4 ++ lo5 ++ lo6 ++ lo7
end K7
set_option maxHeartbeats 4000000
/-! The checks over the written part. -/
namespace PB
open PySem PySem.Spec PyProof.Rows L2 He Hx Hy
def excCB (K : PySem.W.Frag) (C : Addr) : Bool := eqO (PySem.W.findIn K (.ref C) "__getattribute__") (some (some (.builtin "BaseException.__getattribute__"))) && (eqO (PySem.W.findIn K (.ref C) "__getattr__") (some none) && (decide (PySem.W.subIn K (.ref C) (.type "BaseException") = some true) &&
  (PySem.W.hasDictIn K C && (eqO (PySem.W.findIn K (.ref C) "__class__") (some (some (.builtin "object.__class__"))) && (eqO (PySem.W.specialIn K (.builtin "object.__class__") "__get__") (some (some (.builtin "getset_descriptor.__get__"))) &&
  (decide (PySem.W.takesIn K (.builtin "object.__class__") = some true) && decide (PySem.W.mroIn K C (.type "object") = some true)))))))
def clsB (K : PySem.W.Frag) (C : Addr) (bm : List Value) (newId : String) : Bool := match K.lookup C with
  | some ⟨.type "type", _, .cls cd, sl⟩ => (match sl.toList with
    | [_, _, _, _, some (.builtin n), _] => decide (n = newId) && (decide (cd.mro = .ref C :: bm) && (cd.hasDict && !cd.hasDel))
    | _ => false)
  | _ => false
def initB (K : PySem.W.Frag) (x f : Str) (bm : List Value) (newId : String) : Bool := clsB K (ga K x) bm newId && (eqO (PySem.W.findIn K (.ref (ga K x)) "__setattr__") (some (some (.builtin "object.__setattr__"))) && (eqO (PySem.W.findIn K (.ref (ga K x)) f) (some none) &&
  (eqO (PySem.W.findIn K (.ref (ga K x)) "__init__") (some (some (.ref (ma K (ga K x) "__init__")))) && (decide (PySem.W.typeIn K (.ref (ma K (ga K x) "__init__")) = some (.type "function")) && PySem.W.keepIn K (.ref (ga K x))))))
def tlIndexError : List Value := [.type "IndexError", .type "LookupError", .type "Exception", .type "BaseException", .type "object"]
def tlKeyError : List Value := [.type "KeyError", .type "LookupError", .type "Exception", .type "BaseException", .type "object"]
def tlOverflowError : List Value := [.type "OverflowError", .type "ArithmeticError", .type "Exception", .type "BaseException", .type "object"]
def tlArithmeticError : List Value := [.type "ArithmeticError", .type "Exception", .type "BaseException", .type "object"]
def tlRuntimeError : List Value := [.type "RuntimeError", .type "Exception", .type "BaseException", .type "object"]
def tlLookupError : List Value := [.type "LookupError", .type "Exception", .type "BaseException", .type "object"]
def propG (K : PySem.W.Frag) (C f : Str) : Addr := fAdP K (C, some f)
def propB (K : PySem.W.Frag) (C f : Str) : Bool := eqO (PySem.W.findIn K (.ref (ga K C)) f) (some (some (.ref (ma K (ga K C) f)))) && (eqO (PySem.W.specialIn K (.ref (ma K (ga K C) f)) "__get__") (some (some (.builtin "property.__get__"))) && (decide (PySem.W.takesIn K (.ref (ma K (ga K C) f)) = some true) &&
  (match PySem.W.recIn K (ma K (ga K C) f) "property" with
    | some (.ref g :: _) => decide (g = propG K C f)
    | _ => false)))
def isfB (K : PySem.W.Frag) (x : Str) : Bool := (Fa.cls x).ok K && ((["NoneType", "bool", "int", "str", "list", "tuple", "dict"].all fun t => decide (PySem.W.kitOne K (.type t) (.ref (ga K x)) = some false)) && (decide (PySem.W.kitOne K (.ref (ga K x)) (.ref (ga K x)) = some true) &&
  (eqO (PySem.W.findIn K (.ref (ga K x)) "__class__") (some (some (.builtin "object.__class__"))) && (eqO (PySem.W.specialIn K (.builtin "object.__class__") "__get__") (some (some (.builtin "getset_descriptor.__get__"))) && (decide (PySem.W.takesIn K (.builtin "object.__class__") = some true) && decide (PySem.W.mroIn K (ga K x) (.type "object") = some true))))))
/-- a global that holds a tuple of texts -/
def tupB (K : PySem.W.Frag) (x : Str) (zs : List Str) : Bool := match K.lookup (ga K x) with
  | some ⟨.type "tuple", _, .seq items _, _⟩ => decide ((items.toList.map fun v => match v with
    | .str z _ => some z
    | _ => none) = zs.map some)
  | _ => false
/-- C.m is a classmethod -/
def cmB (K : PySem.W.Frag) (C m : Str) : Bool := PySem.W.readsIn K (ga K C) (.type "type") && (He5.wrapB K (ga K C) "classmethod" "classmethod.__get__" m && (PySem.W.fnIn K (He5.wf K (ga K C) "classmethod" m) && decide (He5.wf K (ga K C) "classmethod" m = fAdP K (C, some m))))
end PB
set_option maxHeartbeats 0
namespace K7
open PySem PySem.Spec PyProof.Rows L2 He Hx Hy
def glo0 : List Str := ["MarkError", "is_integer", "is_between", "is_word", "are_ascending", "are_letters", "require_length", "met_from", "linked", "useful_in", "is_short", "is_number", "are_worded", "is_edge", "are_edges", "edges_after", "edges_before", "kept_words", "require_rewriter", "is_text"]
def glo1 : List Str := ["require_text", "require_rest", "pair_targets", "ways_from", "double_circles", "doubling_in", "ahead_in", "triple_targets", "link_in", "links_in", "is_state_pair", "are_closed", "last_in", "is_path_in", "is_complete_in", "is_one_path_paper_in", "is_row_between", "are_double", "is_link", "is_chain"]
def glo2 : List Str := ["is_growth_paper_in", "one_path_paper", "doubling_states", "linked_pairs", "growth", "growth_paper", "most_paths", "is_one_path_paper", "is_growth_paper", "count_paths", "counts_of", "paths_with", "_law_sack", "_law_dip", "_law_one", "_law_met", "_law_right", "law", "Rewriter", "InvalidText"]
def glo3 : List Str := ["InvalidRewriter", "InvalidMachine", "InvalidOperation", "InvalidNumber", "TooMany", "NotSingle"]
def gloN : List Str := glo0 ++ glo1 ++ glo2 ++ glo3
def freeN : List Str := ["isinstance", "str", "all", "len", "zip", "tuple", "int", "bool", "dict", "list", "set", "sorted", "abs", "max", "min", "range", "repr"]
def intN : List (Str × Int) := [("MAX_TEXT", 60), ("MOST_LETTERS_words", 4), ("MAX_STATES", 12), ("MAX_EDGES", 64), ("MAX_WORD", 8), ("PAIR_SIZE", 2), ("TRIPLE_SIZE", 3), ("TWO_SIZE", 4), ("MOST_COUNTED", 8)]
def strN : List (Str × Str) := [("LETTERS", "abcdefghijklmnopqrstuvwxyz"), ("ONE", "one"), ("TWO_growing", "two"), ("DOUBLING", "doubling"), ("GROWS", "grows")]
def ownN : List Str := ["InvalidText", "InvalidRewriter", "InvalidMachine", "InvalidOperation"]
def clsN : List Str := ["Rewriter"]
def fldN : List (Str × Str) := [("Rewriter", "own_letters"), ("Rewriter", "own_states"), ("Rewriter", "own_starts"), ("Rewriter", "own_edges"), ("Rewriter", "own_ends"), ("Rewriter", "own_after"), ("Rewriter", "own_before")]
def methN : List (Str × Str) := []
def propN : List (Str × Str) := []
def isfN : List Str := ["Rewriter"]
def armN : List Str := ["InvalidText", "InvalidRewriter", "InvalidMachine", "InvalidOperation", "InvalidNumber", "TooMany", "NotSingle"]
def raisN : List Str := ["InvalidText", "InvalidRewriter", "InvalidMachine", "InvalidOperation", "InvalidNumber"]
def atN : List (Str × Str) := [("InvalidNumber", "__init__"), ("Rewriter", "__init__")]
def ckInit : Chk := fun K => PB.initB K "InvalidNumber" "value" PB.tlIndexError "IndexError.__new__"
def lamN : List Str := ["_law_right", "double_circles"]
def cmN : List (Str × Str) := []
def tupN : List (Str × List Str) := []
def ck : List Chk := [fun K => gloN.all fun x => (Fa.glo x).ok K, fun K => freeN.all fun x => (Fa.free x).ok K, fun K => intN.all fun p => (Fa.int p.1 p.2).ok K, fun K => strN.all fun p => (Fa.str p.1 p.2).ok K,
  fun K => ownN.all fun x => (Fa.exc x).ok K, fun K => clsN.all fun x => (Fa.cls x).ok K && (Fa.mkr x).ok K, fun K => fldN.all fun p => (Fa.noat p.1 p.2).ok K, fun K => methN.all fun p => (Fa.meth p.1 p.2).ok K, fun K => propN.all fun p => PB.propB K p.1 p.2,
  fun K => isfN.all fun x => PB.isfB K x, fun K => raisN.all fun x => armN.all fun y => (Fa.exm x y (decide (x = y))).ok K, fun K => raisN.all fun x => PB.excCB K (ga K x), ckInit, fun K => lamN.all fun x => (K.lookup (lawTab x K)).isNone && PySem.W.codeHdIn K (lawCode x K) (lawTab x K), fun K => (K.lookup sysModules).isSome, fun K => atN.all fun p => decide (fAdP K (p.1, some p.2) = ma K (ga K p.1) p.2), fun K => cmN.all fun p => PB.cmB K p.1 p.2, fun K => tupN.all fun p => PB.tupB K p.1 p.2, fun K => decide ((lamN.map fun x => lawTab x K).Nodup)]
abbrev R : PySem.W.OpenRow := PySem.W.OpenLaw.row PySem.Challenge.rw_manymarks_k79_errors_of_paths
abbrev hk : PySem.W.Hook := hookY (pickYs lamN gloN) ck fn
def ob (s : PySem.W.SharedT) : He.AlD := obsYG (pickYs lamN gloN) ck fn (HandSHeadRun.getT s)
theorem ob_eq (s : PySem.W.SharedT) : ob s = hk.obs s.abs := obsYG_eq (HandSHeadRun.getT_eq s)
end K7
set_option maxHeartbeats 0
theorem three {σ α β γ : Type} {o : Option σ} {f : σ → α} {g : σ → β} {h : σ → γ} {a : α} {b : β} {c : γ} (p : o.map f = some a) (q : o.map g = some b) (r : o.map h = some c) : o.map (fun s => (f s, g s, h s)) = some (a, b, c) := by
  cases o with
  | none => cases p
  | some s =>
    cases p
    cases q
    cases r
    rfl
namespace K7
open PySem PySem.Spec PyProof.Rows L2 He Hx Hy HandSHeadRun PySem.W
theorem run_c (w : World) (os : OsState) : (endF (stepQ (denQ tabQ) R.prog w) 20000 R.prog w os).map (fun s => ob s) = some (hk.val w) := by
  kernel_rfl
theorem run_a (w : World) (os : OsState) : (endF (stepQ (denQ tabQ) R.prog w) 20000 R.prog w os).map (fun s => looksF R.prog (boot_heap w.params) s.abs) = some true := by
  kernel_rfl
theorem run_b (w : World) (os : OsState) : (endF (stepQ (denQ tabQ) R.prog w) 20000 R.prog w os).map (fun s => seenQ (view R.prog [108, 146, 147]) lo (importedModules R.prog.main.body) (fun s => xlAt (view R.prog [108, 146, 147]) [] s && recOk R.toRowW.records s) s.abs) = some (openGood (view R.prog [108, 146, 147]) lo) := by
  kernel_rfl
theorem run (w : World) : HandSHeadRun.RunEq R (PySem.W.view R.prog [108, 146, 147]) hk ob 20000 lo w := fun os => three (run_a w os) (run_b w os) (run_c w os)
end K7
set_option maxHeartbeats 4000000
/-! own exception classes over any built-in base whose __init__ stores its one argument: made as values, read, asked for their class -/
namespace PySem
namespace XT
open PySem.W PySem.Calls PyProof.Rows PySem.HandSPX Builtin Builtin.ObjectAttr
/-- what the tail bm of a class's mro must have: the base B that makes it, no AttributeError, no NameError; stores are let through -/
structure TailT (B : String) (bm : List Value) : Prop where
  base : bm.contains (.type B) = true
  attr : bm.contains (.type "AttributeError") = false
  nam : bm.contains (.type "NameError") = false
  ob : bm.contains (.type "object") = true
  pass : ∀ self : Value, refuseLoop self "__setattr__" bm = pure ()
section
variable {M : Model} {A : Around} {E : Value → Shared → Prop} {h : Heap} {g : Array GenState} {d : Drawn} {t : Nat} {os : OsState}
variable {nm q : Str} {C N : Addr} {bs bm bmB : List Value} {hdct : Bool} {sn : List Str} {sub : List Value} {ab : Bool} {col : Option Bool} {dd : Option Addr} {k0 k1 k2 k3 k5 : Option Value} {B newId initId : String}
theorem own_base (T : TailT B bm) : (Value.ref C :: bm).contains (.type B) = true := by rw [List.contains_cons, T.base]; exact Bool.or_true _
theorem own_attr (T : TailT B bm) : (Value.ref C :: bm).contains (.type "AttributeError") = false := by rw [List.contains_cons, T.attr]; rfl
theorem own_nam (T : TailT B bm) : (Value.ref C :: bm).contains (.type "NameError") = false := by rw [List.contains_cons, T.nam]; rfl
theorem look_new (F : ExcBaseFacts B newId initId bmB) (T : TailT B bm) {rest : List Value} {Q : Unit → Shared → Prop}
    (hC : h.get? C = some (excClassObj nm q C N bs bm hdct sn sub ab col dd k0 k1 k2 k3 k5 newId)) (hq : Q () ⟨h, g, d, t, os⟩) : wpAny M A (checkBuiltinCall newId ⟨.ref C :: rest, []⟩) Q E ⟨h, g, d, t, os⟩ := by
  have b1 := own_base (C := C) T
  have b2 := F.noStar
  simp only [checkBuiltinCall, F.newSplit, F.newKind, F.newRow]
  repeat (first | (refine wpAny_isSubtype_exc hC ?_; rw [b1]) | refine wpAny_madeBy_exc hC ?_ | refine wpAny_staticBase_exc hC ?_ | refine wpAny_loadPart_at hC ?_ | simp only [bne_self_eq_false, Bool.false_eq_true, if_false] | wp_step)
  exact hq
end
section
variable {prog : Program} {w : World} {A : Around} {E : Value → Shared → Prop} {R : Result → Shared → Prop} {h : Heap} {g : Array GenState} {d : Drawn} {t : Nat} {os : OsState}
variable {nm q : Str} {C N : Addr} {bs bm bmB : List Value} {hdct : Bool} {sn : List Str} {sub : List Value} {ab : Bool} {col : Option Bool} {dd : Option Addr} {k0 k1 k2 k3 k5 : Option Value} {B newId initId : String}
theorem run_new (F : ExcBaseFacts B newId initId bmB) (T : TailT B bm) {rest : List Value} (hl : rest.length ≤ sizeLine)
    (hC : h.get? C = some (excClassObj nm q C N bs bm hdct sn sub ab col dd k0 k1 k2 k3 k5 newId))
    (hq : R (.ok (.ret (.ref (h.objs.size + 1)))) ⟨(h.push (W.kdv_tup rest)).push (excO C h.objs.size), g, d, t, os⟩) :
    codeAny (model prog w) A (.builtin newId ⟨.ref C :: rest, []⟩) R ⟨h, g, d, t, os⟩ := by
  have e0 := F.ends
  have e1 := own_base (C := C) T
  have e2 := own_attr (C := C) T
  have e3 := own_nam (C := C) T
  refine codeAny_builtinAt F.entry ?_
  unfold Builtin.«BaseException.__new__»
  refine wpAt_bind ?_
  show wpAt _ _ _ (stack >>= _) _ _ _
  refine wpAt_bind (wpAt_stack fun p below => wpAt_of_wpAny ?_)
  wp_walk
  refine wpAt_of_wpAny ?_
  rw [F.owner]
  repeat (first | with_reducible refine wpAny_loadPart_at hC ?_ | with_reducible refine wpAny_madeHere_exc F.canon hC ?_ | (with_reducible refine wpAny_isSubtype_exc hC ?_; first | rw [e1] | rw [e2] | rw [e3]) | wp_step)
  show R _ _
  rw [Heap.size_push]
  exact hq
theorem run_type (F : ExcBaseFacts B newId initId bmB) (T : TailT B bm) {rest : List Value} {fI : Addr} {Q : Fin → Shared → Prop}
    (hC : h.get? C = some (excClassObj nm q C N bs bm hdct sn sub ab col dd k0 k1 k2 k3 k5 newId))
    (hi : W.Looks (model prog w) h (typeLookup (.ref C) "__init__") (some (.ref fI))) (hb : ∀ self, W.Looks (model prog w) h (bindSpecial (.ref fI) self) (.ref fI, [self])) (hl : rest.length ≤ sizeLine)
    (hq : codeAny (model prog w) A (.call (.ref fI) ⟨.ref (h.objs.size + 1) :: rest, []⟩)
      (fun r s' => match r with | .ok (.ret v) => v = .none ∧ Q (.done (.ret (.ref (h.objs.size + 1)))) s' | .ok _ => False | .error e => E e s')
      ⟨(h.push (W.kdv_tup rest)).push (excO C h.objs.size), g, d, t, os⟩) :
    wpAny (model prog w) A (Builtin.«type.__call__» ⟨.ref C :: rest, []⟩) Q E ⟨h, g, d, t, os⟩ := by
  repeat (first | with_reducible refine wpAny_madeBy_exc hC ?_ | with_reducible refine wpAny_loadPart_at hC ?_ | wp_step)
  refine codeAny_call_builtin_code (Code.quiet_builtin _ F.quiet) (look_new F T hC ?_)
  refine run_new F T hl hC ?_
  show wpAny _ _ _ _ _ _
  have kp : ∀ b o, h.get? b = some o → ((h.push (W.kdv_tup rest)).push (excO C h.objs.size)).get? b = some o := fun b o z => Heap.get?_push_of_some _ (Heap.get?_push_of_some _ z)
  have hx : ((h.push (W.kdv_tup rest)).push (excO C h.objs.size)).get? (h.objs.size + 1) = some (excO C h.objs.size) := by heap_get
  have hC' := kp _ _ hC
  have c1 : (Value.ref C :: bm).contains (.ref C) = true := by simp
  have i1 := hi.keeps kp
  have b1 := (hb (.ref (h.objs.size + 1))).keeps kp
  unfold isInstance
  repeat (first | with_reducible refine wpAny_loadPart_at hx ?_ | (with_reducible refine wpAny_isSubtype_exc hC' ?_; rw [c1]) | wp_step)
  show wpAny _ _ (typeLookup (.ref C) _) _ _ _
  refine i1.at (wpAny_holding (wpAny_bind (b1.at (wpAny_bind (wpAny_call (codeAny_mono hq fun r s' z => ?_))))))
  rcases r with e | (v | _ | _ | _) <;> first | exact z | exact z.elim | skip
  obtain ⟨rfl, z⟩ := z
  first
    | exact wpAny_pure (wpAny_pure z)
    | (wp_walk; exact z)
theorem run_call (F : ExcBaseFacts B newId initId bmB) (T : TailT B bm) {rest : List Value} {fI : Addr}
    (hC : h.get? C = some (excClassObj nm q C N bs bm hdct sn sub ab col dd k0 k1 k2 k3 k5 newId))
    (hi : W.Looks (model prog w) h (typeLookup (.ref C) "__init__") (some (.ref fI))) (hb : ∀ self, W.Looks (model prog w) h (bindSpecial (.ref fI) self) (.ref fI, [self])) (hl : rest.length ≤ sizeLine)
    (hq : codeAny (model prog w) (A.under (.builtin "type.__call__" ⟨.ref C :: rest, []⟩)) (.call (.ref fI) ⟨.ref (h.objs.size + 1) :: rest, []⟩) (W.InitBack (h.objs.size + 1) R)
      ⟨(h.push (W.kdv_tup rest)).push (excO C h.objs.size), g, d, t, os⟩) :
    codeAny (model prog w) A (.call (.ref C) ⟨rest, []⟩) R ⟨h, g, d, t, os⟩ := by
  have f1 := tc_lookup
  have f2 := tc_bind (.ref C)
  have ty : (⟨h, g, d, t, os⟩ : Shared).TypeIs (.ref C) "type" := ⟨_, hC, rfl⟩
  refine codeAny_of_tree ?_
  show wpAny _ _ (callAny (.ref C) _) _ _ _
  repeat (any_goals (first | assumption | with_reducible refine wpAny_loadPart_at hC ?_ | wp_step))
  refine ⟨rfl, codeAny_call_builtin_at (Code.quiet_builtin _ (by decide +kernel)) entry_typeCall (wpAny_check_type_call_sub hC (run_type F T hC hi hb hl ?_))⟩
  refine codeAny_mono hq fun r s' z => ?_
  rcases r with e | (v | _ | _ | _) <;> exact z
end
section
variable {prog : Program} {w : World} {A : Around} {R : Result → Shared → Prop} {hp : Heap} {g : Array GenState} {d : Drawn} {t : Nat} {os : OsState}
/-- self.name = v, the exception at x has no dict yet -/
theorem run_store {K : W.Frag} {name : Str} {tk : Tok} {v : Value} {x C : Addr} {fv : Array Value} {cd : ClassData} {bm : List Value} {B : String} (T : TailT B bm)
    (X : K.In hp) (hx : hp.get? x = some { cls := .ref C, data := .fields fv }) (hcd : W.clsIn K C = some cd) (hm : cd.mro = .ref C :: bm) (hh : cd.hasDict = true) (ha : W.findIn K (.ref C) name = some none)
    (hq : ∀ h' tk' dx, (∀ b o, b ≠ x → hp.get? b = some o → h'.get? b = some o) → hp.objs.size ≤ dx → dx ≠ x → h'.get? x = some { cls := .ref C, dict := some dx, data := .fields fv } →
      h'.Ns1 dx (fun y => if y = name then some v else none) → R (.ok (.ret .none)) ⟨h', g, d, tk', os⟩) :
    codeAny (model prog w) A (.call (.builtin "object.__setattr__") ⟨[.ref x, .str name tk, v], []⟩) R ⟨hp, g, d, t, os⟩ := by
  have I : W.InstAt hp x { cls := .ref C, data := .fields fv } C none := ⟨hx, rfl, rfl, trivial⟩
  have SF := F.store_object
  have ne : cd.mro.isEmpty = false := by rw [hm]; rfl
  have hob : cd.mro.contains (.type "object") = true := by rw [hm, List.contains_cons, T.ob]; exact Bool.or_true _
  have hxs : x ≠ hp.objs.size := Nat.ne_of_lt (Heap.lt_size hx)
  have io : W.Looks (model prog w) hp (isInstance (.ref x) (.type "object")) true := I.type.andThen (W.looks_mroIn X (by unfold W.mroIn; rw [hcd, Option.bind_some, if_neg (by rw [ne]; decide), hob]))
  refine codeAny_call_builtin SF.slot.plain SF.entry (@W.check_slot (model prog w) _ _ ⟨hp, g, d, t, os⟩ "object.__setattr__" "object" "__setattr__" (.ref x) [.str name tk, v] [] _ SF.kind SF.split io (SF.args (.ref x) (.str name tk) v) ?_)
  have lm : W.Looks (model prog w) hp (mroOf (.ref C)) cd.mro := (W.looks_clsIn X hcd).andThen .now
  have lc : W.Looks (model prog w) hp (classData C) cd := W.looks_clsIn X hcd
  have ln : W.Looks (model prog w) hp (storeTaker? none) none := .now
  rw [W.osa_eq, refuse_eq]
  refine wpAny_bind (wpAny_bind (I.type.at (wpAny_bind (lm.at ?_))))
  rw [hm, refuseLoop_ref, T.pass]
  refine wpAny_pure (wpAny_bind (I.type.at (wpAny_bind ((W.looks_findIn X ha).at (wpAny_bind (ln.at ?_))))))
  show wpAny _ _ (storeInOwnDict (.ref x) (.ref C) (.str name tk) name v false) _ _ _
  obtain ⟨nm, bs, mro, ns, qn, hd, sn, sb, ab, col, del⟩ := cd
  dsimp only at hh
  subst hh
  unfold storeInOwnDict ownDictForStores
  repeat (first | with_reducible refine store_in_new ?_ ?_ | with_reducible refine lc.at ?_ | with_reducible refine wpAny_loadPart_at hx ?_ | wp_step)
  · exact ⟨_, #[], _, (Heap.get?_update_ne _ _ _ _ hxs.symm).trans (Heap.get?_push_at rfl rfl), rfl, fun e he => absurd he (by simp), fun _ => rfl⟩
  · intro h' tk' hn' hs
    have hx' : (hp.push { cls := .type "dict", data := .dict #[] }).get? x = some { cls := .ref C, data := .fields fv } := Heap.get?_push_of_some _ hx
    refine hq h' tk' hp.objs.size (fun b o hb ho => ?_) (Nat.le_refl _) hxs.symm ((hs.2 x hxs).trans (Heap.get?_update_self _ hx' rfl)) hn'
    exact (hs.2 b (Nat.ne_of_lt (Heap.lt_size ho))).trans ((Heap.get?_update_ne _ _ _ _ hb).trans (Heap.get?_push_of_some _ ho))
end
end XT
end PySem
set_option maxHeartbeats 4000000
namespace PySem
namespace XT
open PySem.W PySem.Calls PyProof.Rows PySem.HandSPX
/-! ### the text of such an __init__(self, f): self.f = f -/
def iA (f : String) (p1 p2 : Pos) : Arguments := { posonlyargs := [], args := [{ arg := "self", annotation := none, pos := p1 }, { arg := f, annotation := none, pos := p2 }], vararg := none, kwonlyargs := [], kw_defaults := [], kwarg := none, defaults := [] }
def iB (f : String) (q1 q2 q3 q4 : Pos) : List Stmt := [.Assign [.Attribute (.Name "self" q1) f q2] (.Name f q3) q4]
def iS (f : String) : Scope := { kind := .function, names := [(PySem.Str.ofString "self", .local), (PySem.Str.ofString f, .local)], isGenerator := false, isCoroutine := false, more := [] }
/-- what the written part says of the class at C, whose __init__ stands at fI -/
structure ClsT (K : Frag) (x f : String) (B newId initId : String) (bm bmB : List Value) (C fI : Addr) : Prop where
  F : ExcBaseFacts B newId initId bmB
  T : TailT B bm
  cls : ∃ nm q N bs sn sub ab col dd k0 k1 k2 k3 k5, K.lookup C = some (excClassObj nm q C N bs bm true sn sub ab col dd k0 k1 k2 k3 k5 newId)
  sa : findIn K (.ref C) "__setattr__" = some (some (.builtin "object.__setattr__"))
  ga : findIn K (.ref C) "__getattribute__" = some (some (.builtin "BaseException.__getattribute__"))
  gg : findIn K (.ref C) "__getattr__" = some none
  noN : findIn K (.ref C) f = some none
  iC : findIn K (.ref C) "__init__" = some (some (.ref fI))
  tC : typeIn K (.ref fI) = some (.type "function")
  kC : keepIn K (.ref C) = true
  exC : subIn K (.ref C) (.type "BaseException") = some true
  hdC : hasDictIn K C = true
  fn : ∃ (oc : Value) (od : Option Addr) (kV doc pm : Value) (an : Option Addr) (cdv ct : Value) (osl : Array (Option Value)) (p1 p2 q1 q2 q3 q4 : Pos) (q : Str),
    K.lookup fI = some ⟨oc, od, .func (fnOf "__init__" q (iA f p1 p2) (iB f q1 q2 q3 q4) (iS f) .none kV doc pm an cdv ct), osl⟩ ∧ codeIn K cdv q = true
/-- what is true of each written name f -/
structure NameT (f : String) : Prop where
  bind : ∀ (q : Str) (p1 p2 q1 q2 q3 q4 : Pos) (kV doc pm : Value) (an : Option Addr) (cdv ct u v : Value),
    bindArgs (fnOf "__init__" q (iA f p1 p2) (iB f q1 q2 q3 q4) (iS f) .none kV doc pm an cdv ct) ⟨[u, v], []⟩ = pure [(("self" : Str), u), ((PySem.Str.ofString f : Str), v)]
  kind : ∀ u v : Value, (([(("self" : Str), u), ((PySem.Str.ofString f : Str), v)] : List (Str × Value)).all fun y => (iS f).names.lookup y.1 == some .local || (iS f).names.lookup y.1 == some .cell) = true
  lself : ∀ (q : Str) (L a : Addr) (cd u v : Value), bindL (envOfC q (iS f) L a cd).kindOf [(("self" : Str), u), ((PySem.Str.ofString f : Str), v)] (fun _ => none) ("self" : Str) = some u
  lf : ∀ (q : Str) (L a : Addr) (cd u v : Value), bindL (envOfC q (iS f) L a cd).kindOf [(("self" : Str), u), ((PySem.Str.ofString f : Str), v)] (fun _ => none) (PySem.Str.ofString f : Str) = some v
  kf : (iS f).names.lookup (PySem.Str.ofString f) = some .local
  db : (PySem.Str.ofString f == ("__debug__" : Str)) = false
theorem one_size (v : Value) : [v].length ≤ sizeLine := by
  rw [sizeLine_eq]
  exact (by decide : 1 ≤ 16777216)
theorem ldC {M : Model} {s : Shared} {name : Str} {scope : Scope} {L a : Addr} {cd : Value} {m : Str → Option Value} {x : Str} {pos : Pos} {v : Value} {Q : Value → Shared → Prop} {A : Around} {E : Value → Shared → Prop} (hn : s.heap.Ns L m) (hv : m x = some v) (h : Q v s)
    (hk : scope.kind = .function) (hl : (envOfC name scope L a cd).kindOf x = some .local) (hd : (x == ("__debug__" : Str)) = false) :
    wpAny M A (eval (.Name x pos) (envOfC name scope L a cd)) Q E s := wpAny_Name (wpAny_loadName_local hk hl hn hv h) hd
/-- what __init__ leaves of a fresh exception at x -/
structure InitEnd (f : Str) (h h' : Heap) (x C dx t1 : Addr) (v : Value) : Prop where
  keep : ∀ b o, b ≠ x → h.get? b = some o → h'.get? b = some o
  obj : h'.get? x = some { cls := .ref C, dict := some dx, data := .fields #[.ref t1, .none, .none, .none, .bool false, .none] }
  dbig : h.objs.size ≤ dx
  dne : dx ≠ x
  ns : h'.Ns1 dx (fun y => if y = f then some v else none)
/-- a made one -/
structure OwnMade (f : Str) (h h' : Heap) (e C d t1 : Addr) (v : Value) : Prop where
  keep : ∀ b o, h.get? b = some o → h'.get? b = some o
  new : h.objs.size ≤ e
  obj : h'.get? e = some { cls := .ref C, dict := some d, data := .fields #[.ref t1, .none, .none, .none, .bool false, .none] }
  dbig : h.objs.size ≤ d
  dne : d ≠ e
  ns : h'.Ns1 d (fun y => if y = f then some v else none)
section
variable {prog : Program} {w : World} {A : Around} {E : Value → Shared → Prop} {R : Result → Shared → Prop} {s : Shared} {K : Frag} {C fI : Addr} {x f B newId initId : String} {bm bmB : List Value}
theorem t_init (T : ClsT K x f B newId initId bm bmB C fI) (NT : NameT f) {e t0 : Addr} {v : Value} (X : K.In s.heap) (hlim : s.heap.NoLimit) (hx : s.heap.get? e = some (excO C t0)) (hroom : A.depth < recursionLimit)
    (hq : ∀ h' tk dx, InitEnd (PySem.Str.ofString f) s.heap h' e C dx t0 v → R (.ok (.ret .none)) { s with heap := h', toks := tk }) :
    codeAny (model prog w) A (.call (.ref fI) ⟨[.ref e, v], []⟩) R s := by
  obtain ⟨oc, od, kV, doc, pm, an, cdv, ct, osl, p1, p2, q1, q2, q3, q4, qq, ho, hcd⟩ := T.fn
  obtain ⟨nm, q, N, bs, sn, sub, ab, col, dd, k0, k1, k2, k3, k5, hC⟩ := T.cls
  have hcl : clsIn K C = some { name := nm, bases := bs, mro := .ref C :: bm, ns := N, qualname := q, hasDict := true, slotNames := sn, subclasses := sub, abstract := ab, collection := col, hasDel := false } := by unfold clsIn; rw [hC] <;> rfl
  refine Att.call_fn (binds := [(("self" : Str), .ref e), ((PySem.Str.ofString f : Str), v)]) X hlim ho hcd hroom (BindsTo.of_eq (NT.bind _ _ _ _ _ _ _ _ _ _ _ _ _ _ _)) (NT.kind _ _) (fun s₁ IC => ?_) rfl rfl rfl
  obtain ⟨h₁, tk₁, rfl⟩ := IC.toInCall.same
  have k : ∀ b o, s.heap.get? b = some o → h₁.get? b = some o := IC.toInCall.keep
  have hn := IC.toInCall.ns
  have hxL : s.heap.objs.size ≠ e := Nat.ne_of_gt (Heap.lt_size hx)
  have X₁ : K.In h₁ := X.keeps k
  have hx₁ := k _ _ hx
  show wpAny _ _ (execs _ _) _ _ _
  refine wpAny_execs_cons (plainObj_wpAny_Assign_Attribute ?_)
  refine ldC (v := v) hn (NT.lf _ _ _ _ _ _) (ldC (v := .ref e) hn (NT.lself _ _ _ _ _ _) ?_ rfl rfl (by decide)) rfl NT.kf NT.db
  refine set_plain X₁ (ox := excO C t0) (od := none) ⟨hx₁, rfl, rfl, trivial⟩ T.sa ?_
  refine run_store T.T X₁ hx₁ hcl rfl rfl T.noN (fun h₃ tk₃ dx k₃ dn dne hx₃ hn₃ => ?_)
  show wpAny _ _ (execs _ _) _ _ _
  have z : s.heap.objs.size < h₁.objs.size := hn.lt
  exact wpAny_execs_nil (hq h₃ tk₃ dx ⟨fun b o hb q => k₃ b o hb (k b o q), hx₃, Nat.le_of_lt (Nat.lt_of_lt_of_le z dn), dne, hn₃⟩)
theorem t_made (T : ClsT K x f B newId initId bm bmB C fI) (NT : NameT f) {v : Value} (X : K.In s.heap) (hlim : s.heap.NoLimit) (hroom : A.depth + 1 < recursionLimit)
    (hq : ∀ h' tk e d t1, OwnMade (PySem.Str.ofString f) s.heap h' e C d t1 v → R (.ok (.ret (.ref e))) { s with heap := h', toks := tk }) :
    codeAny (model prog w) A (.call (.ref C) ⟨[v], []⟩) R s := by
  obtain ⟨nm, q, N, bs, sn, sub, ab, col, dd, k0, k1, k2, k3, k5, hC⟩ := T.cls
  obtain ⟨hp, g, dr, tk, os⟩ := s
  have k : ∀ b o, hp.get? b = some o → ((hp.push (kdv_tup [v])).push (excO C hp.objs.size)).get? b = some o := fun b o z => Heap.get?_push_of_some _ (Heap.get?_push_of_some _ z)
  have hget : ((hp.push (kdv_tup [v])).push (excO C hp.objs.size)).get? (hp.objs.size + 1) = some (excO C hp.objs.size) := by heap_get
  refine run_call T.F T.T (X _ _ hC) (looks_findIn X T.iC) (fun self => bind_fn X self T.tC) (one_size v) ?_
  refine t_init (s := ⟨(hp.push (kdv_tup [v])).push (excO C hp.objs.size), g, dr, tk, os⟩) T NT (X.keeps k) (hlim.keeps k) hget ?_ fun h' tk' dx ⟨k', hx, dn, dne, hns⟩ => ?_
  · show A.depth + 1 < recursionLimit
    exact hroom
  · have old : ∀ b o, hp.get? b = some o → h'.get? b = some o := fun b o z => k' b o (Nat.ne_of_lt (Nat.lt_succ_of_lt (Heap.lt_size z))) (k b o z)
    have z : hp.objs.size + 1 + 1 ≤ dx := by
      first
        | (simpa only [Heap.size_push] using dn)
        | exact dn
        | (have q := dn; rw [Heap.size_push, Heap.size_push] at q; exact q)
    exact ⟨rfl, hq h' tk' (hp.objs.size + 1) dx _ ⟨old, Nat.le_succ _, hx, Nat.le_trans (Nat.le_trans (Nat.le_succ _) (Nat.le_succ _)) z, dne, hns⟩⟩
end
end XT
end PySem

namespace PySem.XT
theorem nt_value : NameT "value" := ⟨fun _ _ _ _ _ _ _ _ _ _ _ _ _ _ _ => rfl, fun _ _ => rfl, fun _ _ _ _ _ _ => rfl, fun _ _ _ _ _ _ => rfl, rfl, by decide⟩
theorem nt_name : NameT "name" := ⟨fun _ _ _ _ _ _ _ _ _ _ _ _ _ _ _ => rfl, fun _ _ => rfl, fun _ _ _ _ _ _ => rfl, fun _ _ _ _ _ _ => rfl, rfl, by decide⟩
theorem nt_limit : NameT "limit" := ⟨fun _ _ _ _ _ _ _ _ _ _ _ _ _ _ _ => rfl, fun _ _ => rfl, fun _ _ _ _ _ _ => rfl, fun _ _ _ _ _ _ => rfl, rfl, by decide⟩
theorem nt_paper : NameT "paper" := ⟨fun _ _ _ _ _ _ _ _ _ _ _ _ _ _ _ => rfl, fun _ _ => rfl, fun _ _ _ _ _ _ => rfl, fun _ _ _ _ _ _ => rfl, rfl, by decide⟩
theorem nt_fork : NameT "fork" := ⟨fun _ _ _ _ _ _ _ _ _ _ _ _ _ _ _ => rfl, fun _ _ => rfl, fun _ _ _ _ _ _ => rfl, fun _ _ _ _ _ _ => rfl, rfl, by decide⟩
theorem nt_many : NameT "many" := ⟨fun _ _ _ _ _ _ _ _ _ _ _ _ _ _ _ => rfl, fun _ _ => rfl, fun _ _ _ _ _ _ => rfl, fun _ _ _ _ _ _ => rfl, rfl, by decide⟩
end PySem.XT
set_option maxHeartbeats 4000000
namespace L2
open PySem PySem.Spec PyProof.Rows
theorem relO_one {v : V} {v' : Value} {g : Str} (r : RelV v v') (f : Str) : RelO (List.lookup f [(g, v)]) (if f = g then some v' else none) := by
  by_cases hw : f = g
  · subst hw
    rw [if_pos rfl]
    have q : List.lookup f [(f, v)] = some v := by simp [List.lookup]
    rw [q]
    exact r
  · rw [if_neg hw]
    have qw : (f == g) = false := by simpa using hw
    have q2 : List.lookup f [(g, v)] = none := by simp [List.lookup, qw]
    rw [q2]
    trivial
/-- C(e), the own class with an __init__ that stores its argument: a new exception object with its own dict -/
def tExcI (C : Addr) (f : Str) (ta : TA) : TE := fun σ H Q => ta σ H fun vs H1 => ∃ v, vs = [v] ∧ ∀ a d, H1 a = none → H1 d = none → d ≠ a → Q (.ref a) (upd (upd H1 d (.xd [(f, v)])) a (exo a C (some d)))
section
variable {X : Cx} {C fI : Addr} {x f B newId initId : String} {bm bmB : List Value}
theorem pe_excI {a : Expr} {ta : TA} {p pos : Pos} {k : Nat} (T : PySem.XT.ClsT X.K x f B newId initId bm bmB C fI) (NT : PySem.XT.NameT f) (gC : X.mg x = some (.ref C)) (hr : Room k X.A) (ha : PA X [a] ta) (hg : Gl X x)
    (hdb : ((PySem.Str.ofString x : Str) == ("__debug__" : Str)) = false := by decide)
    (he : starEach (a :: []) X.env = (false, eval a X.env) :: starEach [] X.env := by rfl) (hpl : (backTo pos (starEach [] X.env)).any (·.1) = false := by rfl) :
    PE X (.Call (.Name x p) [a] [] pos) (tExcI C f ta) := by
  refine ⟨fun pins s σ H Q I h => ?_⟩
  refine wpAny_Call_Name_kw (ld_glob I hg gC ?_ hdb)
  refine PySem.W.callWith_K (h₀ := X.base) I.ok.mod.kin T.kC (thn (ha.run pos pins s σ H _ I h) fun us s1 hh => ?_) he hpl
  obtain ⟨vs, H1, I1, r1, v, ev, q1⟩ := hh
  subst ev
  refine ⟨I1.kIn, ?_⟩
  cases r1 with
  | cons rv rn =>
    rename_i v' us'
    cases rn
    show wpAny _ _ (call (.ref C) [v']) _ _ _
    have hlim := I1.nolimit
    obtain ⟨hp, g, dr, tk, os⟩ := s1
    refine wpAny_call (PySem.XT.t_made T NT I1.kIn hlim (by have := hr.dp; omega) fun h' tk' e d t1 M => ?_)
    obtain ⟨G', g1, g2⟩ := restrict h' fun b => decide (b ≠ e)
    have gk : ∀ b, b ≠ e → G'.get? b = h'.get? b := fun b hb => g1 b (decide_eq_true hb)
    have ge : G'.get? e = none := g2 e (by simp)
    have old : ∀ b o, hp.get? b = some o → G'.get? b = some o := fun b o q => (gk b (Nat.ne_of_lt (Nat.lt_of_lt_of_le (Heap.lt_size q) M.new))).trans (M.keep b o q)
    have ob : ObjOk X.prog X.w (upd H1 d (.xd [((f : Str), v)])) G' d (.xd [((f : Str), v)]) :=
      ⟨_, M.ns.at (fun o q => (gk d M.dne).trans q), fun f => relO_one rv f⟩
    have J : Inv X pins σ (upd H1 d (.xd [((f : Str), v)])) ⟨G', g, dr, tk', os⟩ := I1.laid (t' := tk') old M.dbig ob
    have ke : ∀ b o, G'.get? b = some o → h'.get? b = some o := fun b o q => by
      by_cases hb : b = e
      · rw [hb, ge] at q
        cases q
      · exact (gk b hb).symm.trans q
    have n1 : H1 e = none := I1.hok.fresh M.new
    have nd : H1 d = none := I1.hok.fresh M.dbig
    have n2 : (upd H1 d (.xd [((f : Str), v)])) e = none := by
      rw [upd_ne (Ne.symm M.dne)]
      exact n1
    have J2 : Inv X pins σ (upd (upd H1 d (.xd [((f : Str), v)])) e (exo e C (some d))) ⟨h', g, dr, tk', os⟩ := J.laidN (t' := tk') (a := e) ke ge n2 (exo_ok M.obj)
    exact ⟨.ref e, _, J2, rfl, q1 e d n1 nd M.dne⟩
/-- e.f of such an exception -/
def tExF (K : PySem.W.Frag) (f : Str) (te : TE) : TE := fun σ H Q => te σ H fun x H1 => ∃ (a C d : Addr) (v : V) (fs : List (Str × V)), x = .ref a ∧ H1 a = some (exo a C (some d)) ∧ H1 d = some (.xd fs) ∧ fs.lookup f = some v ∧
  (PySem.W.findIn K (.ref C) "__getattribute__" = some (some (.builtin "BaseException.__getattribute__")) ∧ PySem.W.findIn K (.ref C) "__getattr__" = some none ∧ PySem.W.subIn K (.ref C) (.type "BaseException") = some true ∧ PySem.W.hasDictIn K C = true ∧ PySem.W.findIn K (.ref C) f = some none) ∧ Q v H1
theorem pe_exF {e : Expr} {te : TE} {f : String} {pos : Pos} (he : PE X e te) (hb : attributeBase e f X.env (eval e X.env) = eval e X.env := by rfl) : PE X (.Attribute e f pos) (tExF X.K f te) := by
  refine ⟨fun pins s σ H Q I h => ?_⟩
  refine attr_of hb (thn (he.run pins s σ H _ I h) fun u s1 hh => ?_)
  obtain ⟨x, H1, I1, rx, a, C, d, v, fs, ex, ha, hd, hl, ⟨ga, gg, exC, hdC, noN⟩, q⟩ := hh
  subst ex
  obtain rfl : u = Value.ref a := rx
  obtain ⟨t1, hget⟩ := exo_at I1.hok ha
  have hx : ObjOk X.prog X.w H1 s1.heap d (.xd fs) := I1.hok d _ hd
  obtain ⟨mA, hns, hr⟩ := hx
  obtain ⟨od, ho, hlo⟩ := lookIn_ns hns
  obtain ⟨u, hu, ru⟩ := RelO.some_of (v := v) (o := mA f) (by rw [← hl]; exact hr f)
  have J : PySem.W.InstAt s1.heap a _ C (some od) := ⟨hget, rfl, rfl, ho⟩
  exact HandSPX.exc_get I1.kIn J ga gg exC (PySem.W.findObj_own hdC noN rfl (by rw [hlo, hu])) (handed_of ru) ⟨v, H1, I1.tok _, ru, q⟩
/-- an exception object of the class at C: made (with or without a dict), or pinned -/
def IsEx (pn : List (Addr × Obj)) (H : Hp) (a C : Addr) : Prop := H a = some (ExO (.ref C) a) ∨ (∃ d u, H a = some (exo a C (some d)) ∧ H d = some u) ∨ ∃ oe vs, (a, oe) ∈ pn ∧ Zc (.ref C) none oe ∧ oe.data = .fields vs
theorem IsEx.inst {pins : List (Addr × Obj)} {σ : St} {H : Hp} {s : Shared} {a C : Addr} (e : IsEx X.pn H a C) (I : Inv X pins σ H s) : ∃ ox od, PySem.W.InstAt s.heap a ox C od := by
  rcases e with e | ⟨d, u, e, ed⟩ | ⟨oe, vs, hm, hz, hd⟩
  · have x : ObjOk X.prog X.w H s.heap a (.ext fun h => ∃ (oe : Obj) (vs : Array Value), h.get? a = some oe ∧ Zc (.ref C) none oe ∧ oe.data = .fields vs ∧ vs[1]? = some .none ∧ vs[2]? = some .none ∧ 4 < vs.size) := I.hok a _ e
    obtain ⟨⟨oe, vs, hget, hz, hd, _⟩, _, _⟩ := x
    obtain ⟨oc, od, oda, osl⟩ := oe
    obtain ⟨h1, h2⟩ := hz
    dsimp only at h1 h2 hd
    subst h1 h2 hd
    exact ⟨_, none, hget, rfl, rfl, trivial⟩
  · obtain ⟨t1, hget⟩ := exo_at I.hok e
    obtain ⟨o, ho⟩ := objOk_get (I.hok d u ed)
    exact ⟨_, some o, hget, rfl, rfl, ho⟩
  · obtain ⟨hget, _⟩ := I.pin (a, oe) (List.mem_append.mpr (.inl hm))
    obtain ⟨oc, od, oda, osl⟩ := oe
    obtain ⟨h1, h2⟩ := hz
    dsimp only at h1 h2 hd
    subst h1 h2 hd
    exact ⟨_, none, hget, rfl, rfl, trivial⟩
theorem IsEx.mono {pn : List (Addr × Obj)} {H H' : Hp} {a C : Addr} (e : IsEx pn H a C) (k : ∀ b o, H b = some o → H' b = some o) : IsEx pn H' a C := by
  rcases e with e | ⟨d, u, e, ed⟩ | e
  · exact .inl (k _ _ e)
  · exact .inr (.inl ⟨d, u, k _ _ e, k _ _ ed⟩)
  · exact .inr (.inr e)
/-- isinstance(e, c), e any exception object of an own class -/
def rIsV (K : PySem.W.Frag) (pn : List (Addr × Obj)) : List V → Hp → VK → Prop := fun xs H Q => ∃ (a C : Addr) (c : V) (cv : Value) (b : Bool), xs = [.ref a, c] ∧ ExcC K C ∧ IsEx pn H a C ∧ (∀ u, RelV c u → u = cv) ∧ PySem.W.kitOne K (.ref C) cv = some b ∧ Q (.bl b) H
theorem call_isV : CallR X (.builtin "isinstance") (rIsV X.K X.pn) := by
  intro pins s σ H xs us Q I r h
  obtain ⟨a, C, c, cv, b, rfl, F, ie, hcv, e, q⟩ := h
  cases r with
  | cons rx rr =>
    cases rr with
    | cons rt rr =>
      cases rr
      cases rx
      have ec := hcv _ rt
      subst ec
      obtain ⟨ox, od, J⟩ := ie.inst I
      have hcl : (PySem.W.clsIn X.K C).isSome = true := by
        obtain ⟨cd, hc, _⟩ := PySem.W.any_some F.hd
        rw [hc]
        rfl
      exact PySem.W.kia_one (PySem.W.kitx_exc hcl F.hg F.hk F.hs F.ha F.hn F.ht F.hm) I.kIn J e (fun z => nomatch z) fun tk => ⟨.bl b, H, I.kept (t' := tk) fun _ _ z => z, rfl, q⟩
end
end L2
set_option maxHeartbeats 4000000
namespace L2
open PySem PySem.Spec PyProof.Rows
theorem szd1 : (1 : Nat) ≤ sizeLine := by decide
section
variable {X : Cx} {pins : List (Addr × Obj)} {σ : L2.St} {H : Hp} {s : Shared}
/-- {k: v}, k a tuple of numbers and texts: a dict of one entry -/
def tDisp1T (tk tv : TE) : TE := fun σ H Q => ∀ d, H d = none → tk σ (upd H d (.dT [])) fun x H1 => tv σ H1 fun y H2 => H2 d = some (.dT []) ∧ ∃ t ks, x = .ref t ∧ H2 t = some (.tup (ks.map kV)) ∧ Q (.ref d) (upd H2 d (.dT [(ks, y)]))
theorem pe_disp1T {pos : Pos} {k v : Expr} {tk tv : TE} {n : Nat} (hr : Room n X.A) (hk : PE X k tk) (hv : PE X v tv) : PE X (.Dict [some k] [v] pos) (tDisp1T tk tv) := by
  refine ⟨fun pins s σ H Q I q => ?_⟩
  have hn := I.hok.fresh (Nat.le_refl s.heap.objs.size)
  have I1 := I.laid (a := s.heap.objs.size) (o := .dT []) (h' := s.heap.push { cls := .type "dict", data := .dict #[] }) (t' := s.toks) (fun _ _ q => Heap.get?_push_of_some _ q) (Nat.le_refl _) (dt_empty s.heap I.big)
  have hP : PPs X pos [some k] [v] [(tk, tv)] := pps_cons hk hv pps_nil
  rw [arm_eval_Dict]
  have sh : (evalEachOpt [some k] X.env).zip ((evalEach [v] X.env).map fun v => do let x ← v; standAt pos; pure x) = (pairTrees [some k] [v] X.env pos).map fun p => (some p.1, p.2) := rfl
  rw [sh, dictDisplay_pairs (pairTrees [some k] [v] X.env pos) (by simp [pairTrees]) (by simp [pairTrees])]
  refine wpAny_bind (wpAny_standAt (wpAny_bind (wpAny_subDictH (knd := tupleKind (mixKind X.prog X.w)) (Q := fun d s' => wpAny (model X.prog X.w) X.A (pure (Value.ref d)) (EP X pins σ Q) X.xe s') ?_ (by simp [pairTrees]) ?_)))
  · show X.A.units < cLine
    exact hr.units0
  refine thn (hP.run pins _ σ _ (fun ps H2 => match ps with
    | [(x, y)] => H2 s.heap.objs.size = some (.dT []) ∧ ∃ t ks, x = .ref t ∧ H2 t = some (.tup (ks.map kV)) ∧ Q (.ref s.heap.objs.size) (upd H2 s.heap.objs.size (.dT [(ks, y)]))
    | _ => False) I1 (q _ hn)) fun ws s2 ⟨ps, H2, I2, rel, q2⟩ => ?_
  match ps, q2 with
  | [(x, y)], q3 =>
    obtain ⟨e, t, ks, ex, et, q4⟩ := q3
    subst ex
    cases rel with
    | @cons p0 p ps0 qs0 h1 h2 =>
      cases h2
      obtain ⟨u, u2⟩ := p
      obtain ⟨ru, rv⟩ := h1
      obtain rfl : u = Value.ref t := ru
      obtain ⟨z, hd, xs, r0, dd⟩ := dt_of I2.hok e
      cases r0
      have kis := key_of I2.hok et
      refine ⟨[(ks, t, u2)], ⟨rfl, rfl, kis, trivial⟩, dd, fun h' tk' dd' hs => wpAny_pure ⟨.ref s.heap.objs.size, _, ?_, rfl, q4⟩⟩
      obtain ⟨o, es, ep, g1, g2, g3, g4, g5, g6⟩ := dd'
      refine d_write I2 (by rw [e]; exact True.intro) hs ⟨_, g1⟩ ?_
      have hne : t ≠ s.heap.objs.size := fun z => by
        rw [z, e] at et
        cases et
      exact ⟨szd1, hd, [(ks, t, u2)], .cons ⟨rfl, by rw [upd_ne hne]; exact et, rv⟩ .nil, o, es, ep, g1, g2, g3, g4, g6⟩
end
end L2
set_option maxHeartbeats 4000000
namespace L2
open PySem PySem.Spec PyProof.Rows
mutual
/-- a value and the data that it shows: lists, tuples, dicts of one entry are tracked -/
inductive DR (H : Hp) : V → PyData → Prop
  | non : DR H .non .none
  | bl (b : Bool) : DR H (.bl b) (.bool b)
  | int (i : Int) : DR H (.int i) (.int i)
  | str (x : Str) : DR H (.str x) (.str x)
  | lst {a : Addr} {xs : List V} {ds : List PyData} : H a = some (.lst xs) → DRs H xs ds → DR H (.ref a) (.list ds)
  | tup {a : Addr} {xs : List V} {ds : List PyData} : H a = some (.tup xs) → DRs H xs ds → DR H (.ref a) (.tuple ds)
  | d0 {a : Addr} : H a = some (.dK []) → DR H (.ref a) (.dict [])
  | dk {a : Addr} {k : Str} {v : V} {d : PyData} : H a = some (.dK [(.inr k, v)]) → DR H v d → DR H (.ref a) (.dict [(.str k, d)])
  | dt {a : Addr} {i j : Int} {v : V} {d : PyData} : H a = some (.dT [([.inl i, .inl j], v)]) → DR H v d → DR H (.ref a) (.dict [(.tuple [.int i, .int j], d)])
inductive DRs (H : Hp) : List V → List PyData → Prop
  | nil : DRs H [] []
  | cons {v : V} {vs : List V} {d : PyData} {ds : List PyData} : DR H v d → DRs H vs ds → DRs H (v :: vs) (d :: ds)
end
section
variable {H H' : Hp}
mutual
theorem DR.mono (s : Same H H') : ∀ (d : PyData) (v : V), DR H v d → DR H' v d
  | .none, _, h => by cases h; exact .non
  | .bool b, _, h => by cases h; exact .bl b
  | .int i, _, h => by cases h; exact .int i
  | .str x, _, h => by cases h; exact .str x
  | .list ds, _, h => by
    cases h with
    | lst e t => exact .lst (s _ _ e) (DRs.mono s ds _ t)
  | .tuple ds, _, h => by
    cases h with
    | tup e t => exact .tup (s _ _ e) (DRs.mono s ds _ t)
  | .dict [(k, d)], _, h => by
    cases h with
    | dk e t => exact .dk (s _ _ e) (DR.mono s d _ t)
    | dt e t => exact .dt (s _ _ e) (DR.mono s d _ t)
  | .dict [], _, h => by
    cases h with
    | d0 e => exact .d0 (s _ _ e)
  | .dict (_ :: _ :: _), _, h => by cases h
theorem DRs.mono (s : Same H H') : ∀ (ds : List PyData) (vs : List V), DRs H vs ds → DRs H' vs ds
  | [], _, h => by cases h; exact .nil
  | d :: ds, _, h => by
    cases h with
    | cons a b => exact .cons (DR.mono s d _ a) (DRs.mono s ds _ b)
end
end
section
variable {X : Cx} {pins : List (Addr × Obj)} {σ : L2.St} {H : Hp} {s : Shared}
theorem not_sys (I : Inv X pins σ H s) (hs : (X.K.lookup sysModules).isSome = true) {a : Addr} {o : HO} (e : H a = some o) : a ≠ sysModules := fun z => by
  obtain ⟨ob, hk⟩ := Option.isSome_iff_exists.mp hs
  have b := I.mod.kin _ _ hk
  have n := (I.bs _ _ b).2
  rw [z, n] at e
  cases e
theorem nin_cons {a : Addr} {as : List Addr} (h : a ≠ sysModules) (t : sysModules ∉ as) : sysModules ∉ a :: as := fun z => by
  rcases List.mem_cons.mp z with e | e
  · exact h e.symm
  · exact t e
theorem nin_app {as bs : List Addr} (h : sysModules ∉ as) (t : sysModules ∉ bs) : sysModules ∉ as ++ bs := fun z => by
  rcases List.mem_append.mp z with e | e
  · exact h e
  · exact t e
mutual
theorem DR.reads (I : Inv X pins σ H s) (hs : (X.K.lookup sysModules).isSome = true) : ∀ (d : PyData) (v : V) (u : Value), DR H v d → RelV v u → ∃ as, Reads s.heap u d as ∧ sysModules ∉ as
  | .none, _, _, h, r => by
    cases h
    cases r
    exact ⟨_, .none, by simp⟩
  | .bool b, _, _, h, r => by
    cases h
    cases r
    exact ⟨_, .bool b, by simp⟩
  | .int i, _, _, h, r => by
    cases h
    obtain ⟨t, rfl⟩ := r
    exact ⟨_, .int i t, by simp⟩
  | .str x, _, _, h, r => by
    cases h
    obtain ⟨t, rfl⟩ := r
    exact ⟨_, .str x t, by simp⟩
  | .list ds, _, _, h, r => by
    cases h with
    | lst e t =>
      cases r
      obtain ⟨_, its, n, rv, ho⟩ := (show ObjOk X.prog X.w H s.heap _ (.lst _) from I.hok _ _ e)
      obtain ⟨as, hr, ns⟩ := DRs.reads I hs ds _ its t rv
      exact ⟨_, .list ho rfl rfl (by simpa using hr), nin_cons (not_sys I hs e) ns⟩
  | .tuple ds, _, _, h, r => by
    cases h with
    | tup e t =>
      cases r
      obtain ⟨_, its, rv, o, ho, hc, n, hd⟩ := (show ObjOk X.prog X.w H s.heap _ (.tup _) from I.hok _ _ e)
      obtain ⟨as, hr, ns⟩ := DRs.reads I hs ds _ its t rv
      exact ⟨_, .tuple ho hc hd (by simpa using hr), ns⟩
  | .dict [], _, _, h, r => by
    cases h with
    | d0 e =>
      cases r
      obtain ⟨_, _, vs, rk, dd⟩ := dk_of I.hok e
      cases rk
      have pr : PyProof.V.PairsRead s.heap (fun k : Key => match k with | .inl i => PyData.int i | .inr x => PyData.str x) [] [] [] := .nil
      have rd := PyProof.V.reads_dictOf (knd := mixKind X.prog X.w) (enc := fun k : Key => match k with | .inl i => PyData.int i | .inr x => PyData.str x) (fun k key hk => by
        rcases keyIs_shape hk with ⟨i, t, rfl, rfl⟩ | ⟨x, t, rfl, rfl⟩
        · exact .int i t
        · exact .str x t) dd pr
      exact ⟨_, rd, nin_cons (not_sys I hs e) (by simp)⟩
  | .dict [(k, d)], _, _, h, r => by
    cases h with
    | dk e t =>
      rename_i a0 k0 v0
      cases r
      obtain ⟨_, _, vs, rk, dd⟩ := dk_of I.hok e
      cases rk with
      | @cons p q ps qs h1 h2 =>
        cases h2
        obtain ⟨qk, qv⟩ := q
        obtain ⟨e1, rv⟩ := h1
        obtain rfl : _ = qk := e1
        obtain ⟨bs, hr, ns⟩ := DR.reads I hs d _ qv t rv
        have pr : PyProof.V.PairsRead s.heap (fun k : Key => match k with | .inl i => PyData.int i | .inr x => PyData.str x) [(Sum.inr k0, qv)] [(.str k0, d)] (bs ++ []) := .cons hr .nil
        have rd := PyProof.V.reads_dictOf (knd := mixKind X.prog X.w) (enc := fun k : Key => match k with | .inl i => PyData.int i | .inr x => PyData.str x) (fun k key hk => by
          rcases keyIs_shape hk with ⟨i, t, rfl, rfl⟩ | ⟨x, t, rfl, rfl⟩
          · exact .int i t
          · exact .str x t) dd pr
        exact ⟨_, rd, nin_cons (not_sys I hs e) (by simpa using ns)⟩
    | dt e t =>
      rename_i a0 i0 j0 v0
      cases r
      obtain ⟨_, _, xs, rk, o, es, ep, ho, hc, hd, he, _⟩ := (show ObjOk X.prog X.w H s.heap _ (.dT _) from I.hok _ _ e)
      cases rk with
      | @cons p q ps qs h1 h2 =>
        cases h2
        obtain ⟨qk, qa, qv⟩ := q
        obtain ⟨e1, e2, rv⟩ := h1
        obtain rfl : _ = qk := e1
        obtain ⟨bs, hr, ns⟩ := DR.reads I hs d _ qv t rv
        obtain ⟨_, its, ri, o2, ho2, hc2, n2, hd2⟩ := (show ObjOk X.prog X.w H s.heap _ (.tup _) from I.hok _ _ e2)
        have rt : ∃ as, Reads s.heap (.ref qa) (.tuple [.int i0, .int j0]) as ∧ sysModules ∉ as := by
          cases ri with
          | cons r1 r2 =>
            cases r2 with
            | cons r3 r4 =>
              cases r4
              obtain ⟨t1, rfl⟩ := r1
              obtain ⟨t2, rfl⟩ := r3
              exact ⟨_, .tuple ho2 hc2 hd2 (.cons (.int i0 _) (.cons (.int j0 _) .nil)), by simp⟩
        obtain ⟨as, hr2, ns2⟩ := rt
        refine ⟨_, .dict ho hc.1 hd (as := as ++ []) (bs := bs ++ []) ?_ ?_, nin_app (nin_cons (not_sys I hs e) (by simpa using ns2)) (by simpa using ns)⟩
        · rw [he]
          exact .cons hr2 .nil
        · rw [he]
          exact .cons hr .nil
  | .dict (_ :: _ :: _), _, _, h, _ => by cases h
theorem DRs.reads (I : Inv X pins σ H s) (hs : (X.K.lookup sysModules).isSome = true) : ∀ (ds : List PyData) (vs : List V) (us : List Value), DRs H vs ds → Vals vs us → ∃ as, ReadsAll s.heap us ds as ∧ sysModules ∉ as
  | [], _, _, h, r => by
    cases h
    cases r
    exact ⟨_, .nil, by simp⟩
  | d :: ds, _, _, h, r => by
    cases h with
    | cons h1 h2 =>
      cases r with
      | cons r1 r2 =>
        obtain ⟨as, q1, n1⟩ := DR.reads I hs d _ _ h1 r1
        obtain ⟨bs, q2, n2⟩ := DRs.reads I hs ds _ _ h2 r2
        exact ⟨_, .cons q1 q2, nin_app n1 n2⟩
end
/-- repr(x), x a list | tuple | dict of data; nothing is being shown around (hg) -/
def rReprG : List V → Hp → VK → Prop := fun xs H Q => ∃ (a : Addr) (d : PyData), xs = [.ref a] ∧ DR H (.ref a) d ∧ d.showable = true ∧ d.depth ≤ 50 ∧ d.shown.length ≤ sizeLine ∧ Q (.str d.shown) H
theorem call_reprG (hs : (X.K.lookup sysModules).isSome = true) (hg : X.A.guards = some []) {n : Nat} (hr : Room n X.A) : CallR X (.builtin "repr") rReprG := by
  intro pins s σ H xs us Q I r h
  obtain ⟨a, d, rfl, hd, h1, h2, h3, q⟩ := h
  cases r with
  | cons ra rr =>
    cases rr
    obtain ⟨as, hr2, ns⟩ := DR.reads I hs d _ _ hd ra
    cases ra
    have hu := hr.un
    refine repr_of_reads' hr2 h1 (fun _ => ns) hg (by omega) (fun _ _ e => e) (fun h' u tk hk => ?_) h3
    exact ⟨.str d.shown, H, I.kept (t' := tk) hk, ⟨_, rfl⟩, q⟩
end
end L2
set_option maxHeartbeats 4000000
namespace L2
open PySem PySem.Spec PyProof.Rows
/-- the heap without the objects at hs (they may change) -/
def hidL (hs : List Addr) (H : Hp) : Hp := fun b => if b ∈ hs then none else H b
theorem hid_at {hs : List Addr} {H : Hp} {b : Addr} {o : HO} (h : hidL hs H b = some o) : H b = some o := by
  unfold hidL at h
  by_cases c : b ∈ hs
  · rw [if_pos c] at h
    cases h
  · rw [if_neg c] at h
    exact h
theorem hid_of {hs : List Addr} {H : Hp} {b : Addr} {o : HO} (n : b ∉ hs) (h : H b = some o) : hidL hs H b = some o := by
  unfold hidL
  rw [if_neg n]
  exact h
theorem hid_new {hs : List Addr} {H : Hp} {q : Addr} {o : HO} (hq : H q = none) (hh : ∀ b ∈ hs, H b ≠ none) : hidL hs (upd H q o) = upd (hidL hs H) q o := by
  funext b
  unfold hidL upd
  by_cases c : b ∈ hs
  · rw [if_pos c]
    by_cases e : b = q
    · subst e
      exact absurd hq (hh b c)
    · refine Eq.trans ?_ (if_neg e).symm
      exact (if_pos c).symm
  · rw [if_neg c]
    by_cases e : b = q
    · rw [if_pos e]
      exact (if_pos e).symm
    · rw [if_neg e]
      refine Eq.trans ?_ (if_neg e).symm
      exact (if_neg c).symm
theorem hid_none {hs : List Addr} {H : Hp} {q : Addr} (h : H q = none) : hidL hs H q = none := by
  unfold hidL
  by_cases c : q ∈ hs
  · rw [if_pos c]
  · rw [if_neg c]
    exact h
theorem hid_upd {hs : List Addr} {H : Hp} {q : Addr} {o : HO} (h : q ∈ hs) : hidL hs (upd H q o) = hidL hs H := by
  funext b
  unfold hidL upd
  by_cases c : b ∈ hs
  · rw [if_pos c, if_pos c]
  · rw [if_neg c, if_neg c]
    by_cases e : b = q
    · subst e
      exact absurd h c
    · rw [if_neg e]
theorem hid_cons {hs : List Addr} {G H : Hp} {q : Addr} (s : Same G (hidL hs H)) (hq : G q = none) : Same G (hidL (q :: hs) H) := fun b o e => by
  have z := s b o e
  unfold hidL at z ⊢
  by_cases c : b ∈ hs
  · rw [if_pos c] at z
    cases z
  · rw [if_neg c] at z
    have n : b ∉ q :: hs := fun m => by
      rcases List.mem_cons.mp m with m | m
      · rw [m, hq] at e
        cases e
      · exact c m
    rw [if_neg n]
    exact z
theorem drs_len {H : Hp} : ∀ {vs : List V} {ds : List PyData}, DRs H vs ds → vs.length = ds.length
  | _, _, .nil => rfl
  | _, _, .cons _ t => by rw [List.length_cons, List.length_cons, drs_len t]
theorem drs_at {H : Hp} : ∀ {vs : List V} {ds : List PyData} {i : Nat} {v : V}, DRs H vs ds → vs[i]? = some v → ∃ d, ds[i]? = some d ∧ DR H v d
  | _, _, _, _, .nil, h => by simp at h
  | _, _, 0, _, .cons r _, h => by
    simp at h
    subst h
    exact ⟨_, rfl, r⟩
  | _, _, i + 1, _, .cons _ t, h => by
    obtain ⟨d, h1, h2⟩ := drs_at (i := i) t (by simpa using h)
    exact ⟨d, by simpa using h1, h2⟩
theorem drs_at' {H : Hp} : ∀ {vs : List V} {ds : List PyData} {i : Nat} {d : PyData}, DRs H vs ds → ds[i]? = some d → ∃ v, vs[i]? = some v ∧ DR H v d
  | _, _, _, _, .nil, h => by simp at h
  | _, _, 0, _, .cons r _, h => by
    simp at h
    subst h
    exact ⟨_, rfl, r⟩
  | _, _, i + 1, _, .cons _ t, h => by
    obtain ⟨d, h1, h2⟩ := drs_at' (i := i) t (by simpa using h)
    exact ⟨d, by simpa using h1, h2⟩
theorem drs_app {H : Hp} : ∀ {vs ws : List V} {ds es : List PyData}, DRs H vs ds → DRs H ws es → DRs H (vs ++ ws) (ds ++ es)
  | _, _, _, _, .nil, h => h
  | _, _, _, _, .cons r t, h => .cons r (drs_app t h)
def Alive (hs : List Addr) (H : Hp) : Prop := ∀ b ∈ hs, H b ≠ none
/-- te gives a value that shows d; what stands behind hs stays; all else is new -/
def EvR (hs : List Addr) (te : TE) (σ : L2.St) (G : Hp) (d : PyData) : Prop := ∀ H1, Same G (hidL hs H1) → Alive hs H1 → ∀ Q : VK, (∀ v H2, Same (hidL hs H1) (hidL hs H2) → (∀ b ∈ hs, H2 b = H1 b) → DR (hidL hs H2) v d → Q v H2) → te σ H1 Q
def EvRs (hs : List Addr) (ta : TA) (σ : L2.St) (G : Hp) (ds : List PyData) : Prop := ∀ H1, Same G (hidL hs H1) → Alive hs H1 → ∀ Q : List V → Hp → Prop, (∀ vs H2, Same (hidL hs H1) (hidL hs H2) → (∀ b ∈ hs, H2 b = H1 b) → DRs (hidL hs H2) vs ds → Q vs H2) → ta σ H1 Q
section
variable {hs : List Addr} {σ : L2.St} {G : Hp} {te : TE} {ta : TA} {d : PyData} {ds : List PyData} {K : PySem.W.Frag}
theorem alive_eq {H1 H2 : Hp} (a : Alive hs H1) (e : ∀ b ∈ hs, H2 b = H1 b) : Alive hs H2 := fun b hb => by
  rw [e b hb]
  exact a b hb
theorem evr_non : EvR hs (tC .non) σ G .none := fun H1 s a Q q => q _ H1 (Same.refl _) (fun _ _ => rfl) .non
theorem evr_bl {b : Bool} : EvR hs (tC (.bl b)) σ G (.bool b) := fun H1 s a Q q => q _ H1 (Same.refl _) (fun _ _ => rfl) (.bl b)
theorem evr_int {i : Int} : EvR hs (tC (.int i)) σ G (.int i) := fun H1 s a Q q => q _ H1 (Same.refl _) (fun _ _ => rfl) (.int i)
theorem evr_str {x : Str} : EvR hs (tC (.str x)) σ G (.str x) := fun H1 s a Q q => q _ H1 (Same.refl _) (fun _ _ => rfl) (.str x)
theorem evr_neg {i : Int} : EvR hs (tUn (rU fun i => .int (-i)) (tC (.int i))) σ G (.int (-i)) := fun H1 s a Q q => ⟨i, rfl, q _ H1 (Same.refl _) (fun _ _ => rfl) (.int (-i))⟩
theorem evr_pow {i j : Int} (h : CPow i j) : EvR hs (tOp (rI CPow fun i j => .int (i ^ j.toNat)) (tC (.int i)) (tC (.int j))) σ G (.int (i ^ j.toNat)) := fun H1 s a Q q => ⟨i, j, rfl, rfl, h, q _ H1 (Same.refl _) (fun _ _ => rfl) (.int _)⟩
theorem evr_var {i : Nat} {v : V} (h : σ[i]? = some (some v)) (r : DR G v d) : EvR hs (tVar i) σ G d := fun H1 s a Q q => ⟨v, h, q _ H1 (Same.refl _) (fun _ _ => rfl) (DR.mono s _ _ r)⟩
theorem evrs_nil : EvRs hs tNil σ G [] := fun H1 s a Q q => q _ H1 (Same.refl _) (fun _ _ => rfl) .nil
theorem evrs_cons (h : EvR hs te σ G d) (t : EvRs hs ta σ G ds) : EvRs hs (tCons te ta) σ G (d :: ds) := fun H1 s a Q q =>
  h H1 s a _ fun v H2 s2 e2 r2 => t H2 (s.trans s2) (alive_eq a e2) _ fun vs H3 s3 e3 r3 => q _ H3 (s2.trans s3) (fun b hb => (e3 b hb).trans (e2 b hb)) (.cons (DR.mono s3 _ _ r2) r3)
theorem Same.new {G H : Hp} {q : Addr} {o : HO} (s : Same G H) (h : H q = none) : Same G (upd H q o) := fun b o' e => by
  by_cases c : b = q
  · subst c
    rw [s _ _ e] at h
    cases h
  · rw [upd_ne c]
    exact s _ _ e
theorem evr_new {H1 H2 : Hp} {Q : VK} {o : HO} {p : Addr} (a : Alive hs H1) (s2 : Same (hidL hs H1) (hidL hs H2)) (e2 : ∀ b ∈ hs, H2 b = H1 b) (hp : H2 p = none) (q : ∀ v H3, Same (hidL hs H1) (hidL hs H3) → (∀ b ∈ hs, H3 b = H1 b) → DR (hidL hs H3) v d → Q v H3)
    (r : Same (hidL hs H2) (hidL hs (upd H2 p o)) → hidL hs (upd H2 p o) p = some o → DR (hidL hs (upd H2 p o)) (.ref p) d) : Q (.ref p) (upd H2 p o) := by
  have a2 := alive_eq a e2
  have z := hid_new (o := o) hp a2
  have s3 : Same (hidL hs H2) (hidL hs (upd H2 p o)) := by
    rw [z]
    exact (Same.refl _).new (hid_none hp)
  refine q _ _ (s2.trans s3) (fun b hb => ?_) (r s3 (by rw [z]; exact upd_same))
  rw [upd_ne (fun e => a2 b hb (by rw [e]; exact hp))]
  exact e2 b hb
theorem evr_tup (h : EvRs hs ta σ G ds) (hl : ds.length ≤ 1000) : EvR hs (tTup ta) σ G (.tuple ds) := fun H1 s a Q q =>
  h H1 s a _ fun vs H2 s2 e2 r2 => ⟨by rw [drs_len r2]; exact Nat.le_trans hl (by decide), fun p hp => evr_new a s2 e2 hp q fun s3 e => .tup e (DRs.mono s3 _ _ r2)⟩
theorem evr_lst (h : EvRs hs ta σ G ds) (hl : ds.length ≤ 1000) : EvR hs (tLst ta) σ G (.list ds) := fun H1 s a Q q =>
  h H1 s a _ fun vs H2 s2 e2 r2 => ⟨by rw [drs_len r2]; exact Nat.le_trans hl (by decide), fun p hp => evr_new a s2 e2 hp q fun s3 e => .lst e (DRs.mono s3 _ _ r2)⟩
/-- {'a': 1} -/
theorem evr_dk {k : Str} {i : Int} : EvR hs (tDisp [(tC (.str k), tC (.int i))]) σ G (.dict [(.str k, .int i)]) := fun H1 s a Q q p hp => by
  refine ⟨upd_same, [(.inr k, .int i)], rfl, (by show 1 ≤ 15; decide), ?_⟩
  rw [upd_upd]
  exact evr_new a (Same.refl _) (fun _ _ => rfl) hp q fun s3 e => .dk e (.int i)
/-- {} -/
theorem evr_d0 : EvR hs tDNewK σ G (.dict []) := fun H1 s a Q q p hp => evr_new a (Same.refl _) (fun _ _ => rfl) hp q fun s3 e => .d0 e
/-- {(i, j): (x, y)} -/
theorem evr_dt {i j : Int} {x y : Str} : EvR hs (tDisp1T (tTup (tCons (tC (.int i)) (tCons (tC (.int j)) tNil))) (tTup (tCons (tC (.str x)) (tCons (tC (.str y)) tNil)))) σ G (.dict [(.tuple [.int i, .int j], .tuple [.str x, .str y])]) := fun H1 s a Q q p hp => by
  refine ⟨(by show 2 ≤ sizeLine; decide), fun t ht => ⟨(by show 2 ≤ sizeLine; decide), fun u hu => ?_⟩⟩
  have n1 : p ≠ t := ne_of_none upd_same ht
  have n2 : p ≠ u := ne_of_none (by rw [upd_ne n1]; exact upd_same) hu
  have n3 : t ≠ u := ne_of_none upd_same hu
  refine ⟨by rw [upd_ne n2, upd_ne n1]; exact upd_same, t, [.inl i, .inl j], rfl, by rw [upd_ne n3]; exact upd_same, ?_⟩
  have ht' : H1 t = none := by
    rw [upd_ne (Ne.symm n1)] at ht
    exact ht
  have hu' : H1 u = none := by
    rw [upd_ne (Ne.symm n3), upd_ne (Ne.symm n2)] at hu
    exact hu
  have eq : upd (upd (upd (upd H1 p (.dT [])) t (.tup [.int i, .int j])) u (.tup [.str x, .str y])) p (.dT [([.inl i, .inl j], .ref u)]) = upd (upd (upd H1 t (.tup [.int i, .int j])) u (.tup [.str x, .str y])) p (.dT [([.inl i, .inl j], .ref u)]) := by
    funext b
    unfold upd
    by_cases c : b = p
    · rw [if_pos c, if_pos c]
    · rw [if_neg c, if_neg c]
      by_cases c2 : b = u
      · rw [if_pos c2, if_neg c]
      · rw [if_neg c2, if_neg c]
  rw [eq]
  have at_ : ∀ {q : Addr}, H1 q = none → ∀ b ∈ hs, b ≠ q := fun hq b hb e => a b hb (by rw [e]; exact hq)
  have a1 : Alive hs (upd H1 t (.tup [.int i, .int j])) := fun b hb => by
    rw [upd_ne (at_ ht' b hb)]
    exact a b hb
  have hu2 : (upd H1 t (.tup [.int i, .int j])) u = none := by
    rw [upd_ne (Ne.symm n3)]
    exact hu'
  have a2 : Alive hs (upd (upd H1 t (.tup [.int i, .int j])) u (.tup [.str x, .str y])) := fun b hb => by
    rw [upd_ne (at_ hu' b hb)]
    exact a1 b hb
  have hp2 : (upd (upd H1 t (.tup [.int i, .int j])) u (.tup [.str x, .str y])) p = none := by
    rw [upd_ne n2, upd_ne n1]
    exact hp
  have s1 : Same (hidL hs H1) (hidL hs (upd (upd H1 t (.tup [.int i, .int j])) u (.tup [.str x, .str y]))) := by
    rw [hid_new hu2 a1, hid_new ht' a]
    exact ((Same.refl _).new (hid_none ht')).new (by rw [upd_ne (Ne.symm n3)]; exact hid_none hu')
  have e1 : ∀ b ∈ hs, (upd (upd H1 t (.tup [.int i, .int j])) u (.tup [.str x, .str y])) b = H1 b := fun b hb => by
    rw [upd_ne (at_ hu' b hb), upd_ne (at_ ht' b hb)]
  refine evr_new (H2 := upd (upd H1 t (.tup [.int i, .int j])) u (.tup [.str x, .str y])) a s1 e1 hp2 q fun s3 e => .dt e (.tup (s3 _ _ ?_) (.cons (.str x) (.cons (.str y) .nil)))
  rw [hid_new hu2 a1]
  exact upd_same
theorem dr_tup {H : Hp} {v : V} (r : DR H v (.tuple ds)) : ∃ a xs, v = .ref a ∧ H a = some (.tup xs) ∧ DRs H xs ds := by
  cases r with
  | tup e t => exact ⟨_, _, rfl, e, t⟩
theorem dr_lst {H : Hp} {v : V} (r : DR H v (.list ds)) : ∃ a xs, v = .ref a ∧ H a = some (.lst xs) ∧ DRs H xs ds := by
  cases r with
  | lst e t => exact ⟨_, _, rfl, e, t⟩
/-- t[j] -/
theorem evr_ixT {j : Nat} (h : EvR hs te σ G (.tuple ds)) (hj : ds[j]? = some d) : EvR hs (tOp (rIxT K) te (tC (.int (j : Nat)))) σ G d := fun H1 s a Q q =>
  h H1 s a _ fun v H2 s2 e2 r2 => by
    obtain ⟨b, xs, rfl, e, t⟩ := dr_tup r2
    obtain ⟨x, hx, rx⟩ := drs_at' t hj
    exact ⟨b, xs, (j : Nat), x, rfl, rfl, SqT.of (hid_at e), atI_nat hx, q x H2 s2 e2 rx⟩
/-- t * 2 -/
theorem evr_rep2 (h : EvR hs te σ G (.tuple ds)) (hn : ds ≠ []) (hl : ds.length ≤ 100) : EvR hs (tOp (rRepT K) te (tC (.int 2))) σ G (.tuple (ds ++ ds)) := fun H1 s a Q q =>
  h H1 s a _ fun v H2 s2 e2 r2 => by
    obtain ⟨b, xs, rfl, e, t⟩ := dr_tup r2
    have ln := drs_len t
    refine ⟨b, 2, xs, rfl, rfl, SqT.of (hid_at e), fun z => hn ?_, by decide, by decide, by omega, fun p hp => ?_⟩
    · rw [z] at ln
      exact List.eq_nil_of_length_eq_zero ln.symm
    · have z : (List.replicate (2 : Int).toNat xs).flatten = xs ++ xs := by
        show (List.replicate 2 xs).flatten = _
        simp [List.replicate]
      rw [z]
      refine evr_new a s2 e2 hp q fun s3 e3 => .tup e3 ?_
      exact drs_app (DRs.mono s3 _ _ t) (DRs.mono s3 _ _ t)
end
end L2
set_option maxHeartbeats 4000000
/-! Dict keys of any depth: None, truths, ints, texts and tuples of such (a truth is its number). -/
namespace NKx
open PySem PySem.Spec PyProof.Rows L2
inductive NK where
  | int (i : Int)
  | str (x : Str)
  | non
  | nil
  | cons (a b : NK)
  deriving DecidableEq
mutual
def nkOf : PyData → Option NK
  | .none => some .non
  | .bool b => some (.int (if b then 1 else 0))
  | .int i => some (.int i)
  | .str x => some (.str x)
  | .tuple ds => nksOf ds
  | .list _ => none
  | .dict _ => none
def nksOf : List PyData → Option NK
  | [] => some .nil
  | d :: ds => match nkOf d, nksOf ds with
    | some a, some b => some (.cons a b)
    | _, _ => none
end
def tupN : NK → Bool
  | .nil => true
  | .cons _ _ => true
  | _ => false
theorem nks_tup : ∀ {ds : List PyData} {k : NK}, nksOf ds = some k → tupN k = true
  | [], k, h => by
    simp only [nksOf] at h
    cases h
    rfl
  | d :: ds, k, h => by
    simp only [nksOf] at h
    split at h
    · cases h
      rfl
    · cases h
theorem nks_cons {d : PyData} {ds : List PyData} {k : NK} (h : nksOf (d :: ds) = some k) : ∃ a b, nkOf d = some a ∧ nksOf ds = some b ∧ k = .cons a b := by
  simp only [nksOf] at h
  split at h
  · rename_i a b h1 h2
    cases h
    exact ⟨a, b, h1, h2, rfl⟩
  · cases h
theorem beq_d (a b : Int) : (a == b) = decide (NK.int a = NK.int b) := by
  by_cases e : a = b
  · subst e
    simp
  · have h : ¬ NK.int a = NK.int b := fun q => e (NK.int.inj q)
    rw [decide_eq_false h]
    exact beq_eq_false_iff_ne.mpr e
theorem beq_s (a b : Str) : (a == b) = decide (NK.str a = NK.str b) := by
  by_cases e : a = b
  · subst e
    simp
  · have h : ¬ NK.str a = NK.str b := fun q => e (NK.str.inj q)
    rw [decide_eq_false h]
    exact beq_eq_false_iff_ne.mpr e
theorem ne_tup {a b : NK} (ha : tupN a = true) (hb : tupN b = false) : decide (a = b) = false := decide_eq_false fun e => by
  subst e
  rw [ha] at hb
  cases hb
theorem ne_tup' {a b : NK} (ha : tupN a = false) (hb : tupN b = true) : decide (a = b) = false := decide_eq_false fun e => by
  subst e
  rw [ha] at hb
  cases hb
mutual
theorem eqv_nk : ∀ {d e : PyData} {a b : NK}, nkOf d = some a → nkOf e = some b → PyData.eqv d e = decide (a = b)
  | .none, e, a, b, h1, h2 => by
    simp only [nkOf] at h1
    cases h1
    cases e <;> simp only [nkOf] at h2 <;> first | cases h2 | skip
    all_goals simp only [PyData.eqv]
    · simp
    · simp
    · simp
    · simp
    · exact (ne_tup' rfl (nks_tup h2)).symm
  | .bool x, e, a, b, h1, h2 => by
    simp only [nkOf] at h1
    cases h1
    cases e <;> simp only [nkOf] at h2 <;> first | cases h2 | skip
    all_goals simp only [PyData.eqv]
    · simp
    · rename_i y
      cases x <;> cases y <;> simp
    · exact beq_d _ _
    · simp
    · exact (ne_tup' rfl (nks_tup h2)).symm
  | .int x, e, a, b, h1, h2 => by
    simp only [nkOf] at h1
    cases h1
    cases e <;> simp only [nkOf] at h2 <;> first | cases h2 | skip
    all_goals simp only [PyData.eqv]
    · simp
    · exact beq_d _ _
    · exact beq_d _ _
    · simp
    · exact (ne_tup' rfl (nks_tup h2)).symm
  | .str x, e, a, b, h1, h2 => by
    simp only [nkOf] at h1
    cases h1
    cases e <;> simp only [nkOf] at h2 <;> first | cases h2 | skip
    all_goals simp only [PyData.eqv]
    · simp
    · simp
    · simp
    · exact beq_s _ _
    · exact (ne_tup' rfl (nks_tup h2)).symm
  | .list _, _, _, _, h1, _ => by simp only [nkOf] at h1; cases h1
  | .dict _, _, _, _, h1, _ => by simp only [nkOf] at h1; cases h1
  | .tuple ds, e, a, b, h1, h2 => by
    simp only [nkOf] at h1
    have ta := nks_tup h1
    cases e <;> simp only [nkOf] at h2 <;> first | cases h2 | skip
    all_goals simp only [PyData.eqv]
    · exact (ne_tup ta rfl).symm
    · exact (ne_tup ta rfl).symm
    · exact (ne_tup ta rfl).symm
    · exact (ne_tup ta rfl).symm
    · exact eqvs_nk h1 h2
theorem eqvs_nk : ∀ {ds es : List PyData} {a b : NK}, nksOf ds = some a → nksOf es = some b → PyData.eqvAll ds es = decide (a = b)
  | [], [], a, b, h1, h2 => by
    simp only [nksOf] at h1 h2
    cases h1
    cases h2
    simp [PyData.eqvAll]
  | [], e :: es, a, b, h1, h2 => by
    simp only [nksOf] at h1
    cases h1
    obtain ⟨x, y, _, _, rfl⟩ := nks_cons h2
    simp [PyData.eqvAll]
  | d :: ds, [], a, b, h1, h2 => by
    simp only [nksOf] at h2
    cases h2
    obtain ⟨x, y, _, _, rfl⟩ := nks_cons h1
    simp [PyData.eqvAll]
  | d :: ds, e :: es, a, b, h1, h2 => by
    obtain ⟨x, y, p1, p2, rfl⟩ := nks_cons h1
    obtain ⟨u, v, q1, q2, rfl⟩ := nks_cons h2
    simp only [PyData.eqvAll]
    rw [eqv_nk p1 q1, eqvs_nk p2 q2]
    by_cases e1 : x = u
    · by_cases e2 : y = v
      · simp [e1, e2]
      · simp [e1, e2]
    · simp [e1]
end
/-! ### hashes -/
mutual
def hashN (w : World) : NK → Int
  | .int i => hashInt i
  | .str x => hashStr w x
  | .non => reduceHash 0xFCA86420
  | .nil => reduceHash (Builtin.Tuple.tupleHashOf [])
  | .cons a b => reduceHash (Builtin.Tuple.tupleHashOf (hashN w a :: hashesN w b))
def hashesN (w : World) : NK → List Int
  | .cons a b => hashN w a :: hashesN w b
  | .int _ => []
  | .str _ => []
  | .non => []
  | .nil => []
end
mutual
def drawsN : NK → Nat
  | .int _ => 1
  | .str _ => 1
  | .non => 1
  | .nil => 1
  | .cons a b => drawsN a + drawssN b + 1
def drawssN : NK → Nat
  | .cons a b => drawsN a + drawssN b
  | .int _ => 0
  | .str _ => 0
  | .non => 0
  | .nil => 0
end
theorem hash_tup (w : World) {k : NK} (h : tupN k = true) : hashN w k = reduceHash (Builtin.Tuple.tupleHashOf (hashesN w k)) ∧ drawsN k = drawssN k + 1 := by
  cases k with
  | nil => simp only [hashN, hashesN, drawsN, drawssN, and_self]
  | cons a b => simp only [hashN, hashesN, drawsN, drawssN, and_self]
  | int i => cases h
  | str x => cases h
  | non => cases h
def depthN : NK → Nat
  | .int _ => 0
  | .str _ => 0
  | .non => 0
  | .nil => 1
  | .cons a b => max (depthN a + 1) (depthN b)
section
variable {prog : Program} {w : World}
theorem hash_data {s₀ : Shared} : ∀ {d : PyData} {k : NK} {v : Value} {as : List Addr}, nkOf d = some k → Reads s₀.heap v d as → ∀ {A : Around} {E : Value → Shared → Prop} {s : Shared} {Q : Int → Shared → Prop}, s.heap = s₀.heap → A.units + depthN k < cLine → Q (hashN w k) { s with toks := s.toks + drawsN k } →
    wpAny (model prog w) A (pyHash v) Q E s
  | .none, k, v, as, h, r, A, E, s, Q, hs, hu, q => by
    simp only [nkOf] at h
    cases h
    cases r
    simp only [hashN, drawsN] at q
    exact PySem.W.pyHash_slot (T := "NoneType") rfl PySem.F.slot_NoneType_hash PySem.F.entry_NoneType_hash (PySem.F.args_NoneType_hash_1 _) (beq_builtin_none _) (.inl rfl) (wpAny_bind (wpAny_pure (wpAny_bind (wpAny_mkInt (wpAny_pure ⟨_, _, rfl, q⟩)))))
  | .bool b, k, v, as, h, r, A, E, s, Q, hs, hu, q => by
    simp only [nkOf] at h
    cases h
    cases r
    simp only [hashN, drawsN] at q
    exact PpSet.pyHash_bool q
  | .int i, k, v, as, h, r, A, E, s, Q, hs, hu, q => by
    simp only [nkOf] at h
    cases h
    cases r
    simp only [hashN, drawsN] at q
    exact wpAny_pyHash_int q
  | .str x, k, v, as, h, r, A, E, s, Q, hs, hu, q => by
    simp only [nkOf] at h
    cases h
    cases r
    simp only [hashN, drawsN] at q
    exact wpAny_pyHash_str q
  | .list _, _, _, _, h, _, _, _, _, _, _, _, _ => by simp only [nkOf] at h; cases h
  | .dict _, _, _, _, h, _, _, _, _, _, _, _, _ => by simp only [nkOf] at h; cases h
  | .tuple ds, k, v, as, h, r, A, E, s, Q, hs, hu, q => by
    simp only [nkOf] at h
    obtain ⟨e1, e2⟩ := hash_tup w (nks_tup h)
    rw [e1, e2] at q
    cases r with
    | @tuple a o items n xs as ho hc hd hi =>
      rw [← hs] at ho
      have hT : s.TypeIs (.ref a) "tuple" := ⟨o, ho, hc⟩
      unfold pyHash
      first | unfold pyHashByItsType | skip
      first | refine wpAny_bind (wpAny_cRoomFor_or (.inr (Nat.lt_of_le_of_lt (Nat.le_add_right _ _) hu)) ?_) | skip
      refine wpAny_bind (wpAny_specialOf hT F.slot_tuple_hash.lookup ?_)
      show wpAny _ _ (if (some (Value.builtin "tuple.__hash__") == some Value.none) = true then _ else _) Q E s
      rw [if_neg (by rw [beq_builtin_none]; exact Bool.false_ne_true)]
      refine wpAny_bind (wpAny_specialOf hT F.slot_tuple_hash.lookup ?_)
      show wpAny _ _ (callSpecialIfBoundUnlessNone? (.ref a) "__hash__" _ >>= _) Q E s
      refine wpAny_bind (wpAny_callSpecialIfBoundUnlessNone?_slot hT F.slot_tuple_hash (wpAny_call_entry F.slot_tuple_hash hT F.entry_tuple_hash ?_ (F.args_tuple_hash_1 _)))
      show wpAny _ _ (Builtin.Tuple.tupleItemsOf (.ref a) >>= _) _ _ s
      refine wpAny_bind (wpAny_tupleItemsOf ho hd ?_)
      refine wpAny_bind ?_
      rw [← Array.forIn_toList]
      have ihs := fun d (hm : d ∈ ds) k v as h r => @hash_data s₀ d k v as h r
      refine wpAny_forIn_list _
        (fun rest (b : Array Int) s' => ∃ left hs' n k' as', (∀ d ∈ left, d ∈ ds) ∧ nksOf left = some k' ∧ ReadsAll s₀.heap rest left as' ∧ b.toList = hs' ∧ hs' ++ hashesN w k' = hashesN w k ∧ n + drawssN k' = drawssN k ∧ depthN k' ≤ depthN k ∧ s' = { s with toks := s.toks + n })
        _ ?_ ?_ _ _ ⟨ds, [], 0, k, as, fun _ z => z, h, hi, rfl, rfl, Nat.zero_add _, Nat.le_refl _, rfl⟩
      · rintro x rest b s' ⟨left, hs', n', k', as', hm, hk, hl, hb, hh, hn, hdp, rfl⟩
        cases hl with
        | @cons v' vs' d' ds' as1 bs1 r1 rs =>
          obtain ⟨x', y', p1, p2, rfl⟩ := nks_cons hk
          simp only [hashesN] at hh
          simp only [drawssN] at hn
          simp only [depthN] at hdp
          refine wpAny_bind (ihs d' (hm d' List.mem_cons_self) x' _ _ p1 r1 (by exact hs) (by show A.units + 1 + _ < _; omega) ?_)
          first
            | exact wpAny_pure ⟨ds', hs' ++ [hashN w x'], n' + drawsN x', y', _, fun d hd => hm d (List.mem_cons_of_mem _ hd), p2, rs, by simp [hb], by simp [← hh], by omega, by omega, by simp [Nat.add_assoc]⟩
            | exact wpAny_bind (wpAny_pure (wpAny_pure ⟨ds', hs' ++ [hashN w x'], n' + drawsN x', y', _, fun d hd => hm d (List.mem_cons_of_mem _ hd), p2, rs, by simp [hb], by simp [← hh], by omega, by omega, by simp [Nat.add_assoc]⟩))
      · rintro b s' ⟨left, hs', n', k', as', hm, hk, hl, hb, hh, hn, hdp, rfl⟩
        cases hl
        simp only [nksOf] at hk
        cases hk
        simp only [hashesN, List.append_nil] at hh
        simp only [drawssN, Nat.add_zero] at hn
        subst hn
        rw [← hh, ← hb] at q
        show wpAny _ _ (retInt (Builtin.Tuple.tupleHashOf b.toList)) _ _ _
        refine wpAny_ret_mkInt ?_
        show wpAny _ _ (if (decide (-(2 : Int) ^ 63 ≤ Builtin.Tuple.tupleHashOf b.toList) && decide (Builtin.Tuple.tupleHashOf b.toList < 2 ^ 63)) = true then _ else _) Q E _
        unfold reduceHash at q
        by_cases hr : (decide (-(2 : Int) ^ 63 ≤ Builtin.Tuple.tupleHashOf b.toList) && decide (Builtin.Tuple.tupleHashOf b.toList < 2 ^ 63)) = true
        · rw [if_pos hr]
          rw [if_pos hr] at q
          exact wpAny_pure (by simpa [Nat.add_assoc] using q)
        · rw [if_neg hr]
          rw [if_neg hr] at q
          exact wpAny_bind (wpAny_rule (wpAny_pure (by simpa [Nat.add_assoc] using q)))
termination_by d => sizeOf d
decreasing_by
  have := List.sizeOf_lt_of_mem hm
  simp
  omega
end
end NKx
set_option maxHeartbeats 4000000
namespace NKx
open PySem PySem.Spec PyProof.Rows L2
theorem app_nil {α : Type} {as bs : List α} (h : [] = as ++ bs) : as = [] ∧ bs = [] := by
  cases as with
  | nil => exact ⟨rfl, h.symm⟩
  | cons x xs => cases h
mutual
/-- data of tuples stay, whatever dict is changed -/
theorem reads_but {h h' : Heap} {x : Addr} {o : Obj} {es ep} (ho : h.get? x = some o) (hd : o.data = .dict es ep) (hs : Heap.SameBut x h h') : ∀ {d : PyData} {v : Value} {k : NK}, nkOf d = some k → Reads h v d [] → Reads h' v d []
  | .none, _, _, _, r => by cases r; exact .none
  | .bool b, _, _, _, r => by cases r; exact .bool b
  | .int i, _, _, _, r => by cases r; exact .int i _
  | .str y, _, _, _, r => by cases r; exact .str y _
  | .list _, _, _, e, _ => by simp only [nkOf] at e; cases e
  | .dict _, _, _, e, _ => by simp only [nkOf] at e; cases e
  | .tuple ds, v, k, e, r => by
    simp only [nkOf] at e
    cases r with
    | @tuple a o' items n xs as ho' hc hd' hi =>
      have ne : a ≠ x := by
        rintro rfl
        obtain rfl : o' = o := Option.some.inj (ho'.symm.trans ho)
        rw [hd] at hd'
        exact nomatch hd'
      exact .tuple ((hs.2 a ne).trans ho') hc hd' (readsAll_but ho hd hs e hi)
theorem readsAll_but {h h' : Heap} {x : Addr} {o : Obj} {es ep} (ho : h.get? x = some o) (hd : o.data = .dict es ep) (hs : Heap.SameBut x h h') : ∀ {ds : List PyData} {vs : List Value} {k : NK}, nksOf ds = some k → ReadsAll h vs ds [] → ReadsAll h' vs ds []
  | [], _, _, _, r => by cases r; exact .nil
  | d :: ds, _, _, e, r => by
    obtain ⟨a, b, h1, h2, _⟩ := nks_cons e
    generalize ez : ([] : List Addr) = z at r
    cases r with
    | @cons v vs _ _ as bs r1 r2 =>
      obtain ⟨rfl, rfl⟩ := app_nil ez
      exact .cons (as := []) (bs := []) (reads_but ho hd hs h1 r1) (readsAll_but ho hd hs h2 r2)
end
section
variable {prog : Program} {w : World}
theorem quiet_data : ∀ {d : PyData} {k : NK} {v : Value} {as : List Addr} {n : Nat} {A : Around} {E : Value → Shared → Prop} {s : Shared} {Q : Bool → Shared → Prop}, nkOf d = some k → Reads s.heap v d as → depthN k ≤ n → Q true s → wpAny (model prog w) A (eqIsQuiet n v) Q E s
  | .none, _, _, _, n, _, _, _, _, _, r, _, q => by
    cases r
    rw [eqIsQuiet_byValue n rfl]
    exact wpAny_pure q
  | .bool b, _, _, _, n, _, _, _, _, _, r, _, q => by
    cases r
    rw [eqIsQuiet_byValue n rfl]
    exact wpAny_pure q
  | .int i, _, _, _, n, _, _, _, _, _, r, _, q => by
    cases r
    rw [eqIsQuiet_byValue n rfl]
    exact wpAny_pure q
  | .str y, _, _, _, n, _, _, _, _, _, r, _, q => by
    cases r
    rw [eqIsQuiet_byValue n rfl]
    exact wpAny_pure q
  | .list _, _, _, _, _, _, _, _, _, e, _, _, _ => by simp only [nkOf] at e; cases e
  | .dict _, _, _, _, _, _, _, _, _, e, _, _, _ => by simp only [nkOf] at e; cases e
  | .tuple ds, k, v, as, n, A, E, s, Q, e, r, hn, q => by
    simp only [nkOf] at e
    cases r with
    | @tuple a o items m xs as ho hc hd hi =>
      have hT : s.TypeIs (.ref a) "tuple" := ⟨o, ho, hc⟩
      cases n with
      | zero =>
        have := nks_tup e
        cases k with
        | nil => simp only [depthN] at hn; omega
        | cons x y => simp only [depthN] at hn; omega
        | int i => cases this
        | str i => cases this
        | non => cases this
      | succ n =>
        unfold eqIsQuiet
        refine wpAny_bind (wpAny_specialOf hT F.slot_tuple_eq.lookup ?_)
        show wpAny _ _ (isInstance (.ref a) (.type "tuple") >>= _) _ _ s
        refine wpAny_bind (wpAny_isInstance hT isSubtype_tuple_tuple ?_)
        simp only [Bool.not_true, Bool.false_eq_true, if_false]
        refine wpAny_bind (wpAny_seqItems ho hd ?_)
        refine wpAny_bind ?_
        show wpAny _ _ (forIn items _ _) _ _ s
        rw [← Array.forIn_toList]
        have ihs := fun d (hm : d ∈ ds) k v as n A E s Q => @quiet_data d k v as n A E s Q
        refine wpAny_forIn_list _ (fun rest r s' => r.1 = none ∧ s' = s ∧ ∃ left k' as', (∀ d ∈ left, d ∈ ds) ∧ nksOf left = some k' ∧ ReadsAll s.heap rest left as' ∧ depthN k' ≤ n + 1) _ ?_ ?_ _ _ ⟨rfl, rfl, ds, k, _, fun _ z => z, e, hi, hn⟩
        · rintro v rest r s' ⟨hr, rfl, left, k', as', hm, hk, hl, hd'⟩
          cases hl with
          | @cons v' vs' d' ds' as1 bs1 r1 rs =>
            obtain ⟨x', y', p1, p2, rfl⟩ := nks_cons hk
            simp only [depthN] at hd'
            refine wpAny_bind (ihs d' (hm d' List.mem_cons_self) x' _ _ n _ _ _ _ p1 r1 (by omega) ?_)
            simp only [Bool.not_true, Bool.false_eq_true, if_false]
            exact wpAny_pure ⟨rfl, rfl, ds', y', _, fun d hd => hm d (List.mem_cons_of_mem _ hd), p2, rs, by omega⟩
        · rintro ⟨r1, r2⟩ s' ⟨hr, rfl, _⟩
          simp only at hr
          subst hr
          exact wpAny_pure q
termination_by d => sizeOf d
decreasing_by
  have := List.sizeOf_lt_of_mem hm
  simp
  omega
/-- the key at a is k -/
def IsN (h : Heap) (k : NK) (a : Addr) : Prop := ∃ d, nkOf d = some k ∧ tupN k = true ∧ Reads h (.ref a) d [] ∧ SeqAt.shaped d = true ∧ depthN k ≤ 8
def nkind (prog : Program) (w : World) : HeapKind prog w NK where
  is := IsN
  hash := hashN w
  draws := drawsN
  room := fun A => A.units + 64 < cLine
  inj := fun {h a x y} hx hy => by
    obtain ⟨d, e1, _, r1, s1, _⟩ := hx
    obtain ⟨e, e2, _, r2, _, _⟩ := hy
    have z := (Reads.unique r1 e _ r2).1
    subst z
    exact Option.some.inj (e1.symm.trans e2)
  keeps := fun {h h' k a d o es ep} x ho hd hs => by
    obtain ⟨dd, e1, t1, r1, s1, d1⟩ := x
    exact ⟨dd, e1, t1, reads_but ho hd hs e1 r1, s1, d1⟩
  pyHash := fun {A E s k a Q} hu hk h => by
    obtain ⟨d, e1, t1, r1, s1, d1⟩ := hk
    exact hash_data (s₀ := s) e1 r1 rfl (by omega) h
  eqBool := fun {A E s x y a b Q} hu hx hy h => by
    obtain ⟨d, e1, t1, r1, s1, d1⟩ := hx
    obtain ⟨e, e2, t2, r2, s2, d2⟩ := hy
    rw [← eqv_nk e1 e2] at h
    exact SeqAt.eqAt_reads d e A s _ _ _ _ r1 r2 (SeqAt.canLay_of_shaped s1) (SeqAt.canLay_of_shaped s2) (SeqAt.room_of_shaped s1 hu) prog w E Q h
  quiet := fun {A E s k a Q} hk h => by
    obtain ⟨d, e1, t1, r1, s1, d1⟩ := hk
    exact quiet_data e1 r1 d1 h
end
end NKx
set_option maxHeartbeats 4000000
/-! Dicts whose keys are tuples of any depth. -/
namespace NKx
open PySem PySem.Spec PyProof.Rows L2
abbrev KVN := List (NK × Addr × V)
abbrev PrN (p : NK × Addr × V) (q : NK × Addr × Value) : Prop := p.1 = q.1 ∧ p.2.1 = q.2.1 ∧ RelV p.2.2 q.2.2
def entN (w : World) (x : NK × Addr × Value) : DictEntry := ⟨hashN w x.1, .ref x.2.1, x.2.2⟩
def RawN (w : World) (a : Addr) (kvs : KVN) (h : Heap) : Prop := kvs.length ≤ sizeLine ∧ (a == sysModules) = false ∧ ∃ xs : List (NK × Addr × Value), Paired PrN kvs xs ∧
  ∃ o es ep, h.get? a = some o ∧ o.ExactDict ∧ o.data = .dict es ep ∧ es.toList = xs.map (entN w) ∧ (xs.map (·.1)).Nodup
def NDo (w : World) (a : Addr) (kvs : KVN) : HO := .ext (RawN w a kvs)
/-- the key k stands at b -/
def NKey (H : Hp) (k : NK) (b : Addr) : Prop := ∃ d, nkOf d = some k ∧ tupN k = true ∧ DR H (.ref b) d ∧ SeqAt.shaped d = true ∧ depthN k ≤ 8
def valN (kvs : KVN) (k : NK) : Option V := (kvs.find? fun p => decide (p.1 = k)).map (·.2.2)
def putN (kvs : KVN) (k : NK) (b : Addr) (v : V) : KVN := if (kvs.any fun p => decide (p.1 = k)) = true then kvs.map (fun p => if p.1 = k then (p.1, p.2.1, v) else p) else kvs ++ [(k, b, v)]
theorem NKey.keeps {H H' : Hp} (ht : ∀ b o, H b = some o → H' b = some o) {k : NK} {b : Addr} (h : NKey H k b) : NKey H' k b := by
  obtain ⟨d, h1, h2, h3, h4, h5⟩ := h
  exact ⟨d, h1, h2, DR.mono ht d _ h3, h4, h5⟩
section
variable {P : Program} {w : World} {H H' : Hp} {h : Heap} {a a' : Addr} {kvs : KVN}
theorem raw_stay {h1 h2 : Heap} (r : RawN w a kvs h1) (k : ∀ o, h1.get? a = some o → h2.get? a = some o) : RawN w a kvs h2 := by
  obtain ⟨z1, z2, xs, z3, o, es, ep, z4, z5⟩ := r
  exact ⟨z1, z2, xs, z3, o, es, ep, k o z4, z5⟩
theorem ndo_new (r : RawN w a kvs h) : ObjOk P w H h a (NDo w a kvs) := by
  obtain ⟨z1, z2, xs, z3, o, es, ep, z4, z5⟩ := id r
  exact ⟨r, ⟨o, z4⟩, fun h1 h2 r k => raw_stay r k⟩
theorem ndo_at (x : ObjOk P w H h a (NDo w a' kvs)) : a' = a := by
  obtain ⟨r, ⟨o, ho⟩, st⟩ := x
  by_cases c : a' = a
  · exact c
  · exfalso
    have alive : ∀ {cls d sl}, o ≠ ⟨cls, d, .freed, sl⟩ := fun {cls d sl} e => by
      subst e
      unfold Heap.get? at ho
      split at ho <;> simp_all
    let h2 : Heap := ⟨(Array.replicate (a + 1) ({ cls := .none, data := .freed } : Obj)).set! a o, h.life⟩
    have e2 : h2.get? a = some o := by
      show (match ((Array.replicate (a + 1) ({ cls := .none, data := .freed } : Obj)).set! a o)[a]? with
        | some ⟨_, _, .freed, _⟩ => none
        | o => o) = some o
      have e : ((Array.replicate (a + 1) ({ cls := .none, data := .freed } : Obj)).set! a o)[a]? = some o := by simp
      rw [e]
      split
      · rename_i e
        exact absurd (Option.some.inj e) alive
      · rfl
    have r2 := st h h2 r fun o' h' => by
      rw [ho] at h'
      cases h'
      exact e2
    obtain ⟨_, _, xs, _, o3, es, ep, z4, _⟩ := r2
    have e3 : h2.get? a' = none := by
      show (match ((Array.replicate (a + 1) ({ cls := .none, data := .freed } : Obj)).set! a o)[a']? with
        | some ⟨_, _, .freed, _⟩ => none
        | o => o) = none
      by_cases l : a' < a + 1
      · have e : ((Array.replicate (a + 1) ({ cls := .none, data := .freed } : Obj)).set! a o)[a']? = some { cls := .none, data := .freed } := by
          simp [Array.set!, Array.setIfInBounds, Array.getElem?_set, Ne.symm c, l]
        rw [e]
      · have e : ((Array.replicate (a + 1) ({ cls := .none, data := .freed } : Obj)).set! a o)[a']? = none := by
          simp [Array.set!, Array.setIfInBounds, Array.getElem?_set, Ne.symm c, l]
        rw [e]
    rw [e3] at z4
    cases z4
/-- a code object is none -/
theorem ndo_code {c : Addr} {q : Str} (e : LamX.CodeO c q = NDo w a kvs) : False := by
  unfold LamX.CodeO NDo at e
  have e := HO.ext.inj e
  let X : Obj := { cls := .none, data := .fields #[.none, .str q default] }
  let h2 : Heap := ⟨Array.replicate (c + 1) X, default⟩
  have g : h2.get? c = some X := by
    show (match (Array.replicate (c + 1) X)[c]? with
      | some ⟨_, _, .freed, _⟩ => none
      | o => o) = some X
    have e : (Array.replicate (c + 1) X)[c]? = some X := by simp
    rw [e]
  have z : (fun h => ∃ (oc : Obj) (vs : Array Value) (t : Tok), h.get? c = some oc ∧ oc.data = .fields vs ∧ vs[1]? = some (.str q t)) h2 := ⟨X, _, default, g, rfl, rfl⟩
  rw [e] at z
  obtain ⟨_, _, xs, _, o3, es, ep, z4, _, z5, _⟩ := z
  have f : ∀ b o, h2.get? b = some o → o = X := fun b o hb => by
    have hb : (match (Array.replicate (c + 1) X)[b]? with
      | some ⟨_, _, .freed, _⟩ => none
      | o => o) = some o := hb
    by_cases l : b < c + 1
    · have e : (Array.replicate (c + 1) X)[b]? = some X := by simp [l]
      rw [e] at hb
      exact (Option.some.inj hb).symm
    · have e : (Array.replicate (c + 1) X)[b]? = none := by simp [l]
      rw [e] at hb
      cases hb
  rw [f _ _ z4] at z5
  cases z5
end
theorem pr_find {kvs : KVN} {xs : List (NK × Addr × Value)} (r : Paired PrN kvs xs) (k : NK) : RelO (valN kvs k) ((atKey xs k).map (·.2)) := by
  induction r with
  | nil => exact True.intro
  | @cons p q ps qs h t ih =>
    obtain ⟨h1, h2, h3⟩ := h
    unfold valN atKey
    rw [List.find?_cons, List.find?_cons, h1]
    by_cases c : q.1 = k
    · simp only [c, decide_true]
      exact h3
    · simp only [c, decide_false]
      exact ih
theorem pr_any {kvs : KVN} {xs : List (NK × Addr × Value)} (r : Paired PrN kvs xs) (k : NK) : (kvs.any fun p => decide (p.1 = k)) = (atKey xs k).isSome := by
  have z := pr_find r k
  have e := RelO.isSome_eq z
  rw [Option.isSome_map] at e
  rw [← e]
  unfold valN
  rw [Option.isSome_map]
  clear r z e
  induction kvs with
  | nil => rfl
  | cons p ps ih =>
    rw [List.any_cons, List.find?_cons]
    by_cases c : p.1 = k
    · simp [c]
    · simp [c, ih]
theorem pr_map {kvs : KVN} {xs : List (NK × Addr × Value)} (r : Paired PrN kvs xs) (k : NK) {v : V} {u : Value} (rv : RelV v u) : Paired PrN (kvs.map fun p => if p.1 = k then (p.1, p.2.1, v) else p) (xs.map (putAt k u)) := by
  induction r with
  | nil => exact .nil
  | @cons p q ps qs h t ih =>
    obtain ⟨h1, h2, h3⟩ := h
    rw [List.map_cons, List.map_cons]
    refine .cons ?_ ih
    unfold putAt
    by_cases c : q.1 = k
    · rw [if_pos (h1.trans c), if_pos c]
      exact ⟨h1, h2, rv⟩
    · rw [if_neg fun z => c (h1.symm.trans z), if_neg c]
      exact ⟨h1, h2, h3⟩
theorem pr_app {kvs : KVN} {xs : List (NK × Addr × Value)} (r : Paired PrN kvs xs) (k : NK) (b : Addr) {v : V} {u : Value} (rv : RelV v u) : Paired PrN (kvs ++ [(k, b, v)]) (xs ++ [(k, b, u)]) := by
  induction r with
  | nil => exact .cons ⟨rfl, rfl, rv⟩ .nil
  | cons h t ih => exact .cons h ih
theorem pr_put {kvs : KVN} {xs : List (NK × Addr × Value)} (r : Paired PrN kvs xs) (k : NK) (b : Addr) {v : V} {u : Value} (rv : RelV v u) : Paired PrN (putN kvs k b v) (storedH xs k b u) := by
  unfold putN storedH
  rw [pr_any r k]
  split
  · exact pr_map r k rv
  · exact pr_app r k b rv
theorem length_putN (kvs : KVN) (k : NK) (b : Addr) (v : V) : (putN kvs k b v).length ≤ kvs.length + 1 := by
  unfold putN
  split <;> simp
theorem putN_mem {kvs : KVN} {k : NK} {b : Addr} {v : V} {p : NK × Addr × V} (h : p ∈ putN kvs k b v) : (p.1 = k ∧ p.2.1 = b) ∨ ∃ q ∈ kvs, p.1 = q.1 ∧ p.2.1 = q.2.1 := by
  unfold putN at h
  split at h
  · obtain ⟨q, hq, rfl⟩ := List.mem_map.mp h
    refine .inr ⟨q, hq, ?_⟩
    split <;> exact ⟨rfl, rfl⟩
  · rcases List.mem_append.mp h with h | h
    · exact .inr ⟨p, h, rfl, rfl⟩
    · rw [List.mem_singleton.mp h]
      exact .inl ⟨rfl, rfl⟩
/-- what the dict at a holds at y: keys of any depth; an empty one holds nothing -/
def NGet (w : World) (H : Hp) (a : Addr) (y : V) (o : Option V) : Prop := ∃ k b, y = .ref b ∧ NKey H k b ∧
  ((∃ a' kvs, Rd H a (NDo w a' kvs) ∧ (∀ p ∈ kvs, NKey H p.1 p.2.1) ∧ o = valN kvs k) ∨ (Rd H a (.dK []) ∧ o = none))
def NPut (w : World) (H : Hp) (a : Addr) (y v : V) (H' : Hp) : Prop := ∃ k b, y = .ref b ∧ NKey H k b ∧
  ((∃ a' kvs, H a = some (NDo w a' kvs) ∧ (∀ p ∈ kvs, NKey H p.1 p.2.1) ∧ kvs.length < sizeLine ∧ H' = upd H a (NDo w a (putN kvs k b v))) ∨ (H a = some (.dK []) ∧ H' = upd H a (NDo w a [(k, b, v)])))
def XGet (w : World) (H : Hp) (a : Addr) (y : V) (o : Option V) : Prop := DGet H a y o ∨ NGet w H a y o
def XPut (w : World) (H : Hp) (a : Addr) (y v : V) (H' : Hp) : Prop := DPut H a y v H' ∨ NPut w H a y v H'
section
variable {X : Cx} {pins : List (Addr × Obj)} {σ : L2.St} {H : Hp} {s : Shared} {a : Addr} {A : Around} {E : Value → Shared → Prop} {y v d : V} {u r : Value} {o : Option V}
mutual
theorem nil_of_nk {h : Heap} : ∀ {d : PyData} {k : NK} {v : Value} {as : List Addr}, nkOf d = some k → Reads h v d as → as = []
  | .none, _, _, _, _, r => by cases r; rfl
  | .bool b, _, _, _, _, r => by cases r; rfl
  | .int i, _, _, _, _, r => by cases r; rfl
  | .str x, _, _, _, _, r => by cases r; rfl
  | .list _, _, _, _, e, _ => by simp only [nkOf] at e; cases e
  | .dict _, _, _, _, e, _ => by simp only [nkOf] at e; cases e
  | .tuple ds, k, v, as, e, r => by
    simp only [nkOf] at e
    cases r with
    | @tuple a o items m xs as ho hc hd hi => exact nils_of_nk e hi
theorem nils_of_nk {h : Heap} : ∀ {ds : List PyData} {k : NK} {vs : List Value} {as : List Addr}, nksOf ds = some k → ReadsAll h vs ds as → as = []
  | [], _, _, _, _, r => by cases r; rfl
  | d :: ds, _, _, _, e, r => by
    obtain ⟨x, y, h1, h2, _⟩ := nks_cons e
    cases r with
    | cons r1 r2 =>
      rw [nil_of_nk h1 r1, nils_of_nk h2 r2]
      rfl
end
theorem key_is (I : Inv X pins σ H s) (hs : (X.K.lookup sysModules).isSome = true) {k : NK} {b : Addr} (h : NKey H k b) : IsN s.heap k b := by
  obtain ⟨d, h1, h2, h3, h4, h5⟩ := h
  obtain ⟨as, hr, _⟩ := DR.reads I hs d _ (.ref b) h3 rfl
  have e := nil_of_nk h1 hr
  subst e
  exact ⟨d, h1, h2, hr, h4, h5⟩
theorem nd_rd (I : Inv X pins σ H s) (hs : (X.K.lookup sysModules).isSome = true) {a' : Addr} {kvs : KVN} (e : Rd H a (NDo X.w a' kvs)) (hk : ∀ p ∈ kvs, NKey H p.1 p.2.1) :
    kvs.length ≤ sizeLine ∧ (a == sysModules) = false ∧ ∃ xs, Paired PrN kvs xs ∧ s.heap.DictOfH (nkind X.prog X.w) a xs := by
  have ok := e.ok I.hok
  have ea := ndo_at ok
  subst ea
  obtain ⟨⟨z1, z2, xs, z3, o, es, ep, z4, z5, z6, z7, z8⟩, _⟩ := ok
  refine ⟨z1, z2, xs, z3, o, es, ep, z4, z5, z6, z7, fun x hx => ?_, z8⟩
  have : ∀ {kvs : KVN} {xs : List (NK × Addr × Value)}, Paired PrN kvs xs → (∀ p ∈ kvs, NKey H p.1 p.2.1) → ∀ x ∈ xs, IsN s.heap x.1 x.2.1 := by
    intro kvs xs r
    induction r with
    | nil => intro _ x hx; simp at hx
    | @cons p q ps qs h t ih =>
      intro hk x hx
      rcases List.mem_cons.mp hx with rfl | hx
      · have z := key_is I hs (hk p List.mem_cons_self)
        rw [h.1, h.2.1] at z
        exact z
      · exact ih (fun p hp => hk p (List.mem_cons_of_mem _ hp)) x hx
  exact this z3 hk x hx
theorem nil_rd (I : Inv X pins σ H s) (e : Rd H a (.dK [])) : (a == sysModules) = false ∧ s.heap.DictOfH (nkind X.prog X.w) a [] := by
  obtain ⟨_, hd, vs, rel, o, es, ep, h1, h2, h3, _, h5, _⟩ := dk_rd I.hok e
  cases rel
  refine ⟨hd, o, es, ep, h1, h2, h3, ?_, fun x hx => by simp at hx, List.nodup_nil⟩
  revert h5
  generalize es.toList = l
  intro h5
  cases h5
  rfl
theorem room_in1 (hu : A.units + 65 < cLine) : (nkind X.prog X.w).room A.in1 := by
  show A.units + 1 + 64 < cLine
  omega
/-- the lookup's facts -/
theorem ng_at (I : Inv X pins σ H s) (hs : (X.K.lookup sysModules).isSome = true) (g : NGet X.w H a y o) : ∃ k b xs, y = .ref b ∧ IsN s.heap k b ∧ (a == sysModules) = false ∧ s.heap.DictOfH (nkind X.prog X.w) a xs ∧ RelO o ((atKey xs k).map (·.2)) := by
  obtain ⟨k, b, rfl, hk, ⟨a', kvs, e, hks, rfl⟩ | ⟨e, rfl⟩⟩ := g
  · obtain ⟨_, hd, xs, rel, dd⟩ := nd_rd I hs e hks
    exact ⟨k, b, xs, rfl, key_is I hs hk, hd, dd, pr_find rel k⟩
  · obtain ⟨hd, dd⟩ := nil_rd I e
    exact ⟨k, b, [], rfl, key_is I hs hk, hd, dd, True.intro⟩
theorem x_getItem {Q : Value → Shared → Prop} (hs : (X.K.lookup sysModules).isSome = true) (hu : A.units + 65 < cLine) (I : Inv X pins σ H s) (g : XGet X.w H a y (some v)) (ry : RelV y u) (h : ∀ w' s', Inv X pins σ H s' → RelV v w' → Q w' s') :
    wpAny (model X.prog X.w) A (getItem (.ref a) u) Q E s := by
  rcases g with g | g
  · exact d_getItem (by omega) I g ry h
  · obtain ⟨k, b, xs, rfl, hk, hd, dd, rel⟩ := ng_at I hs g
    cases (show u = Value.ref b from ry)
    obtain ⟨w', hw, rw'⟩ := RelO.some_of (v := v) (o := (atKey xs k).map (·.2)) rel
    obtain ⟨p, hp, hp2⟩ := Option.map_eq_some_iff.mp hw
    refine wpAny_getItem_heap (room_in1 hu) hk dd hp ?_
    rw [hp2]
    exact h w' _ (I.tok _) rw'
theorem x_in {Q : Value → Shared → Prop} (hs : (X.K.lookup sysModules).isSome = true) (hu : A.units + 65 < cLine) (I : Inv X pins σ H s) (g : XGet X.w H a y o) (ry : RelV y u) (h : ∀ s', Inv X pins σ H s' → Q (.bool o.isSome) s') :
    wpAny (model X.prog X.w) A (compareOp .In u (.ref a)) Q E s := by
  rcases g with g | g
  · exact d_in (by omega) I g ry h
  · obtain ⟨k, b, xs, rfl, hk, hd, dd, rel⟩ := ng_at I hs g
    cases (show u = Value.ref b from ry)
    refine wpAny_in_heap (room_in1 hu) hk hd dd ?_
    have q := rel.isSome_eq
    rw [Option.isSome_map] at q
    rw [← q]
    exact h _ (I.tok _)
theorem x_notIn {Q : Value → Shared → Prop} (hs : (X.K.lookup sysModules).isSome = true) (hu : A.units + 65 < cLine) (I : Inv X pins σ H s) (g : XGet X.w H a y o) (ry : RelV y u) (h : ∀ s', Inv X pins σ H s' → Q (.bool (!o.isSome)) s') :
    wpAny (model X.prog X.w) A (compareOp .NotIn u (.ref a)) Q E s := by
  rcases g with g | g
  · exact d_notIn (by omega) I g ry h
  · obtain ⟨k, b, xs, rfl, hk, hd, dd, rel⟩ := ng_at I hs g
    cases (show u = Value.ref b from ry)
    refine wpAny_notIn_heap (room_in1 hu) hk hd dd ?_
    have q := rel.isSome_eq
    rw [Option.isSome_map] at q
    rw [← q]
    exact h _ (I.tok _)
theorem ndo_write {h' : Heap} {kvs : KVN} {xs : List (NK × Addr × Value)} {t' : Nat} (I : Inv X pins σ H s) (mu : Mut (H a)) (hs : Heap.SameBut a s.heap h') (hd : (a == sysModules) = false) (z : kvs.length ≤ sizeLine) (rel : Paired PrN kvs xs) (dd : h'.DictOfH (nkind X.prog X.w) a xs) :
    Inv X pins σ (upd H a (NDo X.w a kvs)) { s with heap := h', toks := t' } := by
  obtain ⟨q, es, ep, hq, h2, h3, h4, _, h5⟩ := dd
  exact d_write I mu hs ⟨q, hq⟩ (ndo_new ⟨z, hd, xs, rel, q, es, ep, hq, h2, h3, h4, h5⟩)
theorem np_set {α : Type} {f : Addr → Value → Value → Sem α} {Qf : Shared → Prop} {H' : Hp} (hs : (X.K.lookup sysModules).isSome = true) (I : Inv X pins σ H s) (g : NPut X.w H a y v H') (ry : RelV y u) (rv : RelV v r)
    (fin : ∀ s', Inv X pins σ H' s' → Qf s') (goal : Prop)
    (step : ∀ (k : NK) (b : Addr) (xs : List (NK × Addr × Value)), u = .ref b → IsN s.heap k b → s.heap.DictOfH (nkind X.prog X.w) a xs → xs.length ≤ sizeLine → (∀ h', h'.DictOfH (nkind X.prog X.w) a (storedH xs k b r) → Heap.SameBut a s.heap h' → Qf { s with heap := h', toks := s.toks + drawsN k }) → goal) : goal := by
  obtain ⟨k, b, rfl, hk, ⟨a', kvs, e, hks, hl, rfl⟩ | ⟨e, rfl⟩⟩ := g
  · cases (show u = Value.ref b from ry)
    obtain ⟨z, hd, xs, rel, dd⟩ := nd_rd I hs (.inl e) hks
    have hz : xs.length ≤ sizeLine := by rw [← Paired.length rel]; exact z
    have hl2 : (putN kvs k b v).length ≤ sizeLine := by have := length_putN kvs k b v; omega
    exact step k b xs rfl (key_is I hs hk) dd hz fun h' dd' sb => fin _ (ndo_write I (by rw [e]; exact True.intro) sb hd hl2 (pr_put rel k b rv) dd')
  · cases (show u = Value.ref b from ry)
    obtain ⟨hd, dd⟩ := nil_rd I (.inl e)
    exact step k b [] rfl (key_is I hs hk) dd (Nat.zero_le _) fun h' dd' sb => fin _ (ndo_write (kvs := [(k, b, v)]) I (by rw [e]; exact True.intro) sb hd (by show 1 ≤ sizeLine; decide) (.cons ⟨rfl, rfl, rv⟩ .nil) dd')
theorem x_setItem {H' : Hp} {Q : Unit → Shared → Prop} (hs : (X.K.lookup sysModules).isSome = true) (hu : A.units + 65 < cLine) (I : Inv X pins σ H s) (g : XPut X.w H a y v H') (ry : RelV y u) (rv : RelV v r) (h : ∀ s', Inv X pins σ H' s' → Q () s') :
    wpAny (model X.prog X.w) A (setItem (.ref a) u r) Q E s := by
  rcases g with g | g
  · exact d_setItem (by omega) I g ry rv h
  · refine np_set (α := Unit) (f := fun _ _ _ => pure ()) hs I g ry rv h _ fun k b xs eu hk dd hz fin => ?_
    subst eu
    exact wpAny_setItem_heap (hsz := hz) (room_in1 hu) hk dd fun h' dd' sb => fin h' dd' sb
end
end NKx
/-! ### readings and rules -/
namespace NKx
open PySem PySem.Spec PyProof.Rows L2
def tXGet (w : World) (td ty : TE) : TE := fun σ H Q => td σ H fun x H1 => ty σ H1 fun y H2 => ∃ a v, x = .ref a ∧ XGet w H2 a y (some v) ∧ Q v H2
def tXIn (w : World) (neg : Bool) (ty td : TE) : TE := fun σ H Q => ty σ H fun y H1 => td σ H1 fun x H2 => ∃ a o, x = .ref a ∧ XGet w H2 a y o ∧ Q (.bl (if neg = true then !o.isSome else o.isSome)) H2
def rSetX (w : World) : TSet := fun o i v H Q => ∃ a H', o = .ref a ∧ XPut w H a i v H' ∧ Q H'
def IsX (w : World) (H : Hp) (a : Addr) : Prop := IsD H a ∨ ∃ a' kvs, Rd H a (NDo w a' kvs)
def tXGet1 (w : World) (td ty : TE) : TE := fun σ H Q => td σ H fun x H1 => ∃ a, x = .ref a ∧ IsX w H1 a ∧ ty σ H1 fun y H2 => ∃ o, XGet w H2 a y o ∧ Q (o.getD .non) H2
def tXGet2 (w : World) (td ty tx : TE) : TE := fun σ H Q => td σ H fun x H1 => ∃ a, x = .ref a ∧ IsX w H1 a ∧ ty σ H1 fun y H2 => tx σ H2 fun z H3 => ∃ o, XGet w H3 a y o ∧ Q (o.getD z) H3
section
variable {X : Cx} {pins : List (Addr × Obj)} {σ : L2.St} {H : Hp} {s : Shared} {a : Addr} {y : V} {o : Option V}
theorem isX_at (I : Inv X pins σ H s) (d : IsX X.w H a) : s.TypeIs (.ref a) "dict" ∧ (∀ b, Value.ref a = .ref b → ∃ ob, s.heap.get? b = some ob ∧ ob.dict = none) ∧ (a == sysModules) = false := by
  rcases d with d | ⟨a', kvs, e⟩
  · exact isD_at I d
  · have ok := e.ok I.hok
    have ea := ndo_at ok
    subst ea
    obtain ⟨⟨_, z2, xs, z3, o, es, ep, z4, z5, _⟩, _⟩ := ok
    exact ⟨⟨o, z4, z5.1⟩, fun b q => by
      cases q
      exact ⟨o, z4, z5.2.1⟩, z2⟩
theorem xget_is {w : World} (g : XGet w H a y o) : IsX w H a := by
  rcases g with g | ⟨k, b, _, _, ⟨a', kvs, e, _⟩ | ⟨e, _⟩⟩
  · rcases g with ⟨kvs, k, e, _, _⟩ | ⟨kvs, k, b, e, _, _, _⟩
    · exact .inl (.inl ⟨_, e⟩)
    · exact .inl (.inr ⟨_, e⟩)
  · exact .inr ⟨_, _, e⟩
  · exact .inl (.inl ⟨_, e⟩)
end
section
variable {X : Cx} {o i e value : Expr} {pos pos' tpos : Pos} {td ty tv : TE}
theorem pe_xget (hs : (X.K.lookup sysModules).isSome = true) (hu : X.A.units + 65 < cLine) (ho : PE X o td) (hi : PE X i ty) (hsl : NoSl i) : PE X (.Subscript o i pos) (tXGet X.w td ty) := by
  refine ⟨fun pins s σ H Q I h => ?_⟩
  refine subD_of PySem.F.slot_dict_getitem.lookup hsl (thn (ho.run pins s σ H _ I h) fun u s1 ⟨x, H1, I1, rx, q1⟩ => thn (hi.run pins s1 σ H1 _ I1 q1) fun iv s2 ⟨y, H2, I2, ry, a, v, ex, g, q2⟩ => ?_)
  subst ex
  obtain rfl : u = Value.ref a := rx
  exact ⟨(isX_at I2 (xget_is g)).1, x_getItem hs hu I2 g ry fun w' s3 I3 rw' => ⟨v, H2, I3, rw', q2⟩⟩
theorem pc_xin (hs : (X.K.lookup sysModules).isSome = true) (hu : X.A.units + 65 < cLine) (hi : PE X i ty) (ho : PE X o td) : PC X .In i o (tXIn X.w false ty td) := by
  refine ⟨fun pins s σ H Q I h => ?_⟩
  refine thn (hi.run pins s σ H _ I h) fun iv s1 ⟨y, H1, I1, ry, q1⟩ => thn (ho.run pins s1 σ H1 _ I1 q1) fun u s2 ⟨x, H2, I2, rx, a, ov, ex, g, q2⟩ => ?_
  subst ex
  obtain rfl : u = Value.ref a := rx
  exact x_in hs hu I2 g ry fun s3 I3 => ⟨.bl ov.isSome, H2, I3, rfl, q2⟩
theorem pc_xnotin (hs : (X.K.lookup sysModules).isSome = true) (hu : X.A.units + 65 < cLine) (hi : PE X i ty) (ho : PE X o td) : PC X .NotIn i o (tXIn X.w true ty td) := by
  refine ⟨fun pins s σ H Q I h => ?_⟩
  refine thn (hi.run pins s σ H _ I h) fun iv s1 ⟨y, H1, I1, ry, q1⟩ => thn (ho.run pins s1 σ H1 _ I1 q1) fun u s2 ⟨x, H2, I2, rx, a, ov, ex, g, q2⟩ => ?_
  subst ex
  obtain rfl : u = Value.ref a := rx
  exact x_notIn hs hu I2 g ry fun s3 I3 => ⟨.bl (!ov.isSome), H2, I3, rfl, q2⟩
theorem set_x (hs : (X.K.lookup sysModules).isSome = true) (hu : X.A.units + 65 < cLine) : PSet X (rSetX X.w) := by
  intro pins s σ H o i v ov iv u Q I ro ri rv h
  obtain ⟨a, H', eo, g, q⟩ := h
  subst eo
  cases (show ov = Value.ref a from ro)
  exact x_setItem hs hu I g ri rv fun s' I' => ⟨H', I', q⟩
end
section
variable {X : Cx} {pins : List (Addr × Obj)} {σ : L2.St} {H : Hp} {s : Shared} {a : Addr} {y d : V} {u r : Value} {o : Option V} {A : Around} {E : Value → Shared → Prop}
theorem x_get1 {Q : Value → Shared → Prop} (hs : (X.K.lookup sysModules).isSome = true) (hu : A.units + 65 < cLine) (I : Inv X pins σ H s) (g : XGet X.w H a y o) (ry : RelV y u) (h : ∀ w' s', Inv X pins σ H s' → RelV (o.getD .non) w' → Q w' s') :
    wpAny (model X.prog X.w) A (call (.builtin "dict.get") [.ref a, u]) Q E s := by
  rcases g with g | g
  · exact d_get1 (by omega) I g ry h
  · obtain ⟨k, b, xs, rfl, hk, hd, dd, rel⟩ := ng_at I hs g
    cases (show u = Value.ref b from ry)
    exact call_meetsIn PySem.F.slot_dict_get dd.typeIs PySem.F.entry_dict_get (PySem.F.args_dict_get_2 _ _) (meetsH_dict_get (nkind X.prog X.w) a b hd) ⟨room_in1 hu, k, xs, hk, dd, h _ _ (I.tok _) (rel.getD rfl)⟩
theorem x_get2 {Q : Value → Shared → Prop} (hs : (X.K.lookup sysModules).isSome = true) (hu : A.units + 65 < cLine) (I : Inv X pins σ H s) (g : XGet X.w H a y o) (ry : RelV y u) (rd : RelV d r) (h : ∀ w' s', Inv X pins σ H s' → RelV (o.getD d) w' → Q w' s') :
    wpAny (model X.prog X.w) A (call (.builtin "dict.get") [.ref a, u, r]) Q E s := by
  rcases g with g | g
  · exact d_get2 (by omega) I g ry rd h
  · obtain ⟨k, b, xs, rfl, hk, hd, dd, rel⟩ := ng_at I hs g
    cases (show u = Value.ref b from ry)
    exact call_meetsIn PySem.F.slot_dict_get dd.typeIs PySem.F.entry_dict_get (PySem.F.args_dict_get_3 _ _ _) (meetsH_dict_get_default (nkind X.prog X.w) a b hd r) ⟨room_in1 hu, k, xs, hk, dd, h _ _ (I.tok _) (rel.getD rd)⟩
end
section
variable {X : Cx} {o e f : Expr} {apos cpos : Pos} {td ty tx : TE}
theorem pe_xget1 (hs : (X.K.lookup sysModules).isSome = true) (hu : X.A.units + 65 < cLine) (ho : PE X o td) (he : PE X e ty) (m : M1 X o "get" apos e cpos) : PE X (.Call (.Attribute o "get" apos) [e] [] cpos) (tXGet1 X.w td ty) := by
  refine ⟨fun pins s σ H Q I h => ?_⟩
  refine wpAny_Call_method m.base m.few m.line PySem.F.plainAttrs_dict PySem.F.slot_dict_get PySem.F.type_dict_get (thn (ho.run pins s σ H _ I h) fun u s1 ⟨x, H1, I1, rx, a, ex, d, q1⟩ => ?_)
  subst ex
  obtain rfl : u = Value.ref a := rx
  obtain ⟨t1, t2, _⟩ := isX_at I1 d
  refine ⟨t1, t2, ?_⟩
  rw [m.trees]
  refine Calls.callWith_builtin rfl (Calls.evalArgs_plain (Calls.spliced_cons (thn (he.run pins s1 σ H1 _ I1 q1) fun iv s2 ⟨y, H2, I2, ry, ov, g, q2⟩ => Calls.spliced_nil ?_)))
  exact x_get1 hs hu I2 g ry fun w' s3 I3 rw' => ⟨_, H2, I3, rw', q2⟩
theorem pe_xget2 (hs : (X.K.lookup sysModules).isSome = true) (hu : X.A.units + 65 < cLine) (ho : PE X o td) (he : PE X e ty) (hf : PE X f tx) (m : M2 X o "get" apos e f cpos) : PE X (.Call (.Attribute o "get" apos) [e, f] [] cpos) (tXGet2 X.w td ty tx) := by
  refine ⟨fun pins s σ H Q I h => ?_⟩
  refine wpAny_Call_method m.base m.few m.line PySem.F.plainAttrs_dict PySem.F.slot_dict_get PySem.F.type_dict_get (thn (ho.run pins s σ H _ I h) fun u s1 ⟨x, H1, I1, rx, a, ex, d, q1⟩ => ?_)
  subst ex
  obtain rfl : u = Value.ref a := rx
  obtain ⟨t1, t2, _⟩ := isX_at I1 d
  refine ⟨t1, t2, ?_⟩
  rw [m.trees]
  refine Calls.callWith_builtin rfl (Calls.evalArgs_plain (Calls.spliced_cons (thn (he.run pins s1 σ H1 _ I1 q1) fun iv s2 ⟨y, H2, I2, ry, q2⟩ =>
    Calls.spliced_cons (thn (hf.run pins s2 σ H2 _ I2 q2) fun fv s3 ⟨z, H3, I3, rz, ov, g, q3⟩ => Calls.spliced_nil ?_))))
  exact x_get2 hs hu I3 g ry rz fun w' s4 I4 rw' => ⟨_, H3, I4, rw', q3⟩
end
end NKx
set_option maxHeartbeats 4000000
/-! Readings that run: values and objects with numbers for addresses, and for each word of the layer an evaluator with its soundness (a class, so that a printed reading finds its evaluator by itself). -/
namespace RunX
open PySem PySem.Spec PyProof.Rows L2 He
inductive DV where
  | non
  | bl (b : Bool)
  | int (i : Int)
  | str (x : Str)
  | ty (n : String)
  | glo (x : Str)
  | ref (n : Nat)
  | drw (i t : Nat)
  | cb
  deriving DecidableEq
inductive DO where
  | lst (xs : List DV)
  | tup (xs : List DV)
  | dK (kvs : List (Key × DV))
  | dT (kvs : List (List Key × DV))
  | xd (fs : List (Str × DV))
  | ins (C : Str) (dx : Nat) (fs : List (Str × DV))
  | own (x : Nat)
  | frz (kvs : List (Key × DV))
  | frzT (kvs : List (List Key × DV))
  | bag (k : Nat)
  | any
  | dN (es : List (NKx.NK × Nat × DV))
  | frzN (es : List (NKx.NK × Nat × DV))
  deriving DecidableEq
/-! ### draws: the i-th draw's number is told ahead; a value drawn stands for one of a table's values -/
def bkOf (F : Int × Int × Int → Nat → Nat × (Int × Int × Int)) (b0 : Int × Int × Int) (tab : Nat → List DV) : Nat → Int × Int × Int
  | 0 => b0
  | k + 1 => (F (bkOf F b0 tab k) (tab k).length).2
class Drw where
  tab : Nat → List DV
  ntab : Nat
  F : Int × Int × Int → Nat → Nat × (Int × Int × Int)
  b0 : Int × Int × Int
  fix : Nat → Option Nat
  tabs : List (Addr × Str)
  prog : Program
  wld : World
  lam : Bool
  hF : ∀ b n, 0 < n → (F b n).1 < n
  hfix : ∀ k j, fix k = some j → (F (bkOf F b0 tab k) (tab k).length).1 = j
/-- a lambda in the air: its address, code objects that are known, the addresses that were known when it was made -/
class Cbv where
  cb : Addr
  codes : List (Addr × Str)
  pre : List Addr
variable [Drw] [Cbv]
def bk (k : Nat) : Int × Int × Int := bkOf Drw.F Drw.b0 Drw.tab k
def idx (k : Nat) : Nat := (Drw.F (bk k) (Drw.tab k).length).1
/-- the value that the i-th draw picks out of the t-th table -/
def pickD (i t : Nat) : DV := (Drw.tab t).getD (idx i) .non
section
variable (K : PySem.W.Frag) (ρ : List Addr)
def dV0 : DV → V
  | .non => .non
  | .bl b => .bl b
  | .int i => .int i
  | .str x => .str x
  | .ty n => .ty n
  | .glo x => .ref (ga K x)
  | .ref n => .ref (ρ.getD n 0)
  | .drw _ _ => .non
  | .cb => .ref Cbv.cb
def dV : DV → V
  | .non => .non
  | .bl b => .bl b
  | .int i => .int i
  | .str x => .str x
  | .ty n => .ty n
  | .glo x => .ref (ga K x)
  | .ref n => .ref (ρ.getD n 0)
  | .drw i t => dV0 K ρ (pickD i t)
  | .cb => .ref Cbv.cb
def dO : DO → HO
  | .lst xs => .lst (xs.map (dV K ρ))
  | .tup xs => .tup (xs.map (dV K ρ))
  | .dK kvs => .dK (kvs.map fun p => (p.1, dV K ρ p.2))
  | .dT kvs => .dT (kvs.map fun p => (p.1, dV K ρ p.2))
  | .xd fs => .xd (fs.map fun p => (p.1, dV K ρ p.2))
  | .ins C dx fs => .ins (ga K C) (ρ.getD dx 0) (fs.map fun p => (p.1, dV K ρ p.2))
  | .own x => .own (ρ.getD x 0)
  | .frz kvs => .dK (kvs.map fun p => (p.1, dV K ρ p.2))
  | .frzT kvs => .dT (kvs.map fun p => (p.1, dV K ρ p.2))
  | .bag k => .lst [.int (bk k).1, .int (bk k).2.1, .int (bk k).2.2]
  | .any => .xd []
  | .dN _ => .xd []
  | .frzN _ => .xd []
def esV (es : List (NKx.NK × Nat × DV)) : NKx.KVN := es.map fun p => (p.1, ρ.getD p.2.1 0, dV K ρ p.2.2)
/-- h shows o (a dict that is walked is known with its object) -/
def Sh : DO → HO → Prop
  | .frz kvs, h => ∃ o, h = .frz o (.dK (kvs.map fun p => (p.1, dV K ρ p.2)))
  | .frzT kvs, h => ∃ o, h = .frz o (.dT (kvs.map fun p => (p.1, dV K ρ p.2)))
  | .any, h => (∀ ps, h ≠ .tbl ps) ∧ (∀ φ, h ≠ .ext φ) ∧ ∀ xs, h ≠ .tup xs
  | .dN es, h => ∃ a, h = NKx.NDo Drw.wld a (esV K ρ es)
  | .frzN es, h => ∃ o a, h = .frz o (NKx.NDo Drw.wld a (esV K ρ es))
  | o, h => h = dO K ρ o
def dSt (σ : List (Option DV)) : L2.St := σ.map (Option.map (dV K ρ))
end
def wf0 (n : Nat) : DV → Bool
  | .ref m => decide (m < n)
  | .drw _ _ => false
  | .cb => Drw.lam
  | _ => true
def wf (n : Nat) : DV → Bool
  | .ref m => decide (m < n)
  | .drw _ t => (Drw.tab t).all (wf0 n)
  | .cb => Drw.lam
  | _ => true
def wfO (n : Nat) : DO → Bool
  | .lst xs => xs.all (wf n)
  | .tup xs => xs.all (wf n)
  | .dK kvs => kvs.all fun p => wf n p.2
  | .dT kvs => kvs.all fun p => wf n p.2
  | .xd fs => fs.all fun p => wf n p.2
  | .ins _ dx fs => decide (dx < n) && fs.all fun p => wf n p.2
  | .own x => decide (x < n)
  | .frz kvs => kvs.all fun p => wf n p.2
  | .frzT kvs => kvs.all fun p => wf n p.2
  | .bag _ => true
  | .any => true
  | .dN es => es.all fun p => decide (p.2.1 < n) && wf n p.2.2
  | .frzN es => es.all fun p => decide (p.2.1 < n) && wf n p.2.2
def plainO : DO → Bool
  | .frz _ => false
  | .frzT _ => false
  | .any => false
  | .dN _ => false
  | .frzN _ => false
  | _ => true
def wfS (n : Nat) (σ : List (Option DV)) : Bool := σ.all fun x => match x with
  | some v => wf n v
  | none => true
variable {K : PySem.W.Frag}
theorem wf0_le {m n : Nat} (h : m ≤ n) : ∀ {v : DV}, wf0 m v = true → wf0 n v = true
  | .ref k, q => decide_eq_true (Nat.lt_of_lt_of_le (of_decide_eq_true q) h)
  | .drw _ _, q => by cases q
  | .non, _ => rfl
  | .bl _, _ => rfl
  | .int _, _ => rfl
  | .str _, _ => rfl
  | .ty _, _ => rfl
  | .glo _, _ => rfl
  | .cb, q => q
theorem wf_le {m n : Nat} (h : m ≤ n) : ∀ {v : DV}, wf m v = true → wf n v = true
  | .ref k, q => decide_eq_true (Nat.lt_of_lt_of_le (of_decide_eq_true q) h)
  | .drw _ t, q => List.all_eq_true.mpr fun v hv => wf0_le h (List.all_eq_true.mp (show (Drw.tab t).all (wf0 m) = true from q) v hv)
  | .non, _ => rfl
  | .bl _, _ => rfl
  | .int _, _ => rfl
  | .str _, _ => rfl
  | .ty _, _ => rfl
  | .glo _, _ => rfl
  | .cb, q => q
theorem dV0_app {ρ m : List Addr} : ∀ {v : DV}, wf0 ρ.length v = true → dV0 K (ρ ++ m) v = dV0 K ρ v
  | .ref k, q => by
    have hk : k < ρ.length := of_decide_eq_true q
    simp only [dV0, List.getD_eq_getElem?_getD, List.getElem?_append_left hk]
  | .drw _ _, q => by cases q
  | .non, _ => rfl
  | .bl _, _ => rfl
  | .int _, _ => rfl
  | .str _, _ => rfl
  | .ty _, _ => rfl
  | .glo _, _ => rfl
  | .cb, _ => rfl
theorem pick_wf {n i t : Nat} (h : wf n (.drw i t) = true) : wf0 n (pickD i t) = true := by
  unfold pickD
  rw [List.getD_eq_getElem?_getD]
  cases e : (Drw.tab t)[idx i]? with
  | none => rfl
  | some v => exact List.all_eq_true.mp (show (Drw.tab t).all (wf0 n) = true from h) v (List.mem_of_getElem? e)
/-- a value without draws -/
theorem dV_0 {ρ : List Addr} {n : Nat} : ∀ {v : DV}, wf0 n v = true → dV K ρ v = dV0 K ρ v ∧ wf n v = true
  | .ref k, q => ⟨rfl, q⟩
  | .drw _ _, q => by cases q
  | .non, _ => ⟨rfl, rfl⟩
  | .bl _, _ => ⟨rfl, rfl⟩
  | .int _, _ => ⟨rfl, rfl⟩
  | .str _, _ => ⟨rfl, rfl⟩
  | .ty _, _ => ⟨rfl, rfl⟩
  | .glo _, _ => ⟨rfl, rfl⟩
  | .cb, q => ⟨rfl, q⟩
/-- a drawn value is what is picked -/
theorem dV_pick {ρ : List Addr} {n i t : Nat} (h : wf n (.drw i t) = true) : dV K ρ (.drw i t) = dV K ρ (pickD i t) := (dV_0 (pick_wf h)).1.symm
theorem dV_app {ρ m : List Addr} : ∀ {v : DV}, wf ρ.length v = true → dV K (ρ ++ m) v = dV K ρ v
  | .drw i t, q => dV0_app (pick_wf q)
  | .ref k, q => by
    have hk : k < ρ.length := of_decide_eq_true q
    simp only [dV, List.getD_eq_getElem?_getD, List.getElem?_append_left hk]
  | .non, _ => rfl
  | .bl _, _ => rfl
  | .int _, _ => rfl
  | .str _, _ => rfl
  | .ty _, _ => rfl
  | .glo _, _ => rfl
  | .cb, _ => rfl
theorem app_getD {ρ m : List Addr} {n : Nat} (h : n < ρ.length) : (ρ ++ m).getD n 0 = ρ.getD n 0 := by
  simp only [List.getD_eq_getElem?_getD, List.getElem?_append_left h]
theorem map_app {ρ m : List Addr} {xs : List DV} (h : xs.all (wf ρ.length) = true) : xs.map (dV K (ρ ++ m)) = xs.map (dV K ρ) :=
  List.map_congr_left fun v hv => dV_app (List.all_eq_true.mp h v hv)
theorem dO_app {ρ m : List Addr} : ∀ {o : DO}, wfO ρ.length o = true → dO K (ρ ++ m) o = dO K ρ o
  | .lst xs, h => by simp only [dO, map_app h]
  | .tup xs, h => by simp only [dO, map_app h]
  | .dK kvs, h => by
    simp only [dO]
    exact congrArg HO.dK (List.map_congr_left fun p hp => by rw [dV_app (List.all_eq_true.mp h p hp)])
  | .dT kvs, h => by
    simp only [dO]
    exact congrArg HO.dT (List.map_congr_left fun p hp => by rw [dV_app (List.all_eq_true.mp h p hp)])
  | .xd kvs, h => by
    simp only [dO]
    exact congrArg HO.xd (List.map_congr_left fun p hp => by rw [dV_app (List.all_eq_true.mp h p hp)])
  | .ins C dx fs, h => by
    obtain ⟨h1, h2⟩ := ba h
    simp only [dO, app_getD (of_decide_eq_true h1)]
    exact congrArg (HO.ins _ _) (List.map_congr_left fun p hp => by rw [dV_app (List.all_eq_true.mp h2 p hp)])
  | .own x, h => by
    simp only [dO, app_getD (of_decide_eq_true h)]
  | .frz kvs, h => by
    simp only [dO]
    exact congrArg HO.dK (List.map_congr_left fun p hp => by rw [dV_app (List.all_eq_true.mp h p hp)])
  | .frzT kvs, h => by
    simp only [dO]
    exact congrArg HO.dT (List.map_congr_left fun p hp => by rw [dV_app (List.all_eq_true.mp h p hp)])
  | .bag k, _ => rfl
  | .any, _ => rfl
  | .dN _, _ => rfl
  | .frzN _, _ => rfl
theorem esV_app {ρ m : List Addr} {es : List (NKx.NK × Nat × DV)} (h : (es.all fun p => decide (p.2.1 < ρ.length) && wf ρ.length p.2.2) = true) : esV K (ρ ++ m) es = esV K ρ es :=
  List.map_congr_left fun p hp => by
    obtain ⟨h1, h2⟩ := ba (List.all_eq_true.mp h p hp)
    rw [dV_app h2, app_getD (of_decide_eq_true h1)]
theorem Sh.eq {ρ : List Addr} {o : DO} {h : HO} (s : Sh K ρ o h) (p : plainO o = true) : h = dO K ρ o := by
  cases o with
  | frz kvs => cases p
  | frzT kvs => cases p
  | any => cases p
  | dN _ => cases p
  | frzN _ => cases p
  | _ => exact s
theorem dO_nf {ρ : List Addr} {o : DO} {od : Obj} {u : HO} (h : dO K ρ o = .frz od u) : False := by
  cases o <;> cases h
theorem Sh.of {ρ : List Addr} {o : DO} (p : plainO o = true) : Sh K ρ o (dO K ρ o) := by
  cases o with
  | frz kvs => cases p
  | frzT kvs => cases p
  | any => cases p
  | dN _ => cases p
  | frzN _ => cases p
  | _ => exact rfl
theorem Sh.app {ρ m : List Addr} {o : DO} {h : HO} (w : wfO ρ.length o = true) (s : Sh K ρ o h) : Sh K (ρ ++ m) o h := by
  cases o with
  | frz kvs =>
    obtain ⟨od, e⟩ := s
    refine ⟨od, ?_⟩
    have z := dO_app (K := K) (m := m) (o := .frz kvs) w
    simp only [dO] at z
    rw [z]
    exact e
  | frzT kvs =>
    obtain ⟨od, e⟩ := s
    refine ⟨od, ?_⟩
    have z := dO_app (K := K) (m := m) (o := .frzT kvs) w
    simp only [dO] at z
    rw [z]
    exact e
  | any => exact s
  | dN es =>
    obtain ⟨a, e⟩ := s
    refine ⟨a, ?_⟩
    rw [esV_app w]
    exact e
  | frzN es =>
    obtain ⟨o, a, e⟩ := s
    refine ⟨o, a, ?_⟩
    rw [esV_app w]
    exact e
  | lst _ | tup _ | dK _ | dT _ | xd _ | ins _ _ _ | own _ | bag _ =>
    have e : h = dO K ρ _ := s
    rw [e, ← dO_app (m := m) w]
    exact rfl
theorem wfO_le {m n : Nat} (h : m ≤ n) : ∀ {o : DO}, wfO m o = true → wfO n o = true
  | .lst xs, q => List.all_eq_true.mpr fun v hv => wf_le h (List.all_eq_true.mp q v hv)
  | .tup xs, q => List.all_eq_true.mpr fun v hv => wf_le h (List.all_eq_true.mp q v hv)
  | .dK kvs, q => List.all_eq_true.mpr fun v hv => wf_le h (List.all_eq_true.mp q v hv)
  | .dT kvs, q => List.all_eq_true.mpr fun v hv => wf_le h (List.all_eq_true.mp q v hv)
  | .xd kvs, q => List.all_eq_true.mpr fun v hv => wf_le h (List.all_eq_true.mp q v hv)
  | .ins _ dx fs, q => by
    obtain ⟨q1, q2⟩ := ba q
    show (decide _ && _) = true
    rw [decide_eq_true (Nat.lt_of_lt_of_le (of_decide_eq_true q1) h), show (fs.all fun p => wf n p.2) = true from List.all_eq_true.mpr fun v hv => wf_le h (List.all_eq_true.mp q2 v hv)]
    rfl
  | .own x, q => decide_eq_true (Nat.lt_of_lt_of_le (of_decide_eq_true q) h)
  | .frz kvs, q => List.all_eq_true.mpr fun v hv => wf_le h (List.all_eq_true.mp q v hv)
  | .frzT kvs, q => List.all_eq_true.mpr fun v hv => wf_le h (List.all_eq_true.mp q v hv)
  | .bag k, _ => rfl
  | .any, _ => rfl
  | .dN es, q => List.all_eq_true.mpr fun p hp => by
    obtain ⟨q1, q2⟩ := ba (List.all_eq_true.mp q p hp)
    show (decide _ && _) = true
    rw [decide_eq_true (Nat.lt_of_lt_of_le (of_decide_eq_true q1) h), wf_le h q2]
    rfl
  | .frzN es, q => List.all_eq_true.mpr fun p hp => by
    obtain ⟨q1, q2⟩ := ba (List.all_eq_true.mp q p hp)
    show (decide _ && _) = true
    rw [decide_eq_true (Nat.lt_of_lt_of_le (of_decide_eq_true q1) h), wf_le h q2]
    rfl
theorem wfS_le {m n : Nat} (h : m ≤ n) {σ : List (Option DV)} (q : wfS m σ = true) : wfS n σ = true :=
  List.all_eq_true.mpr fun x hx => by
    have z := List.all_eq_true.mp q x hx
    cases x with
    | none => rfl
    | some v => exact wf_le h z
theorem dSt_app {ρ m : List Addr} {σ : List (Option DV)} (h : wfS ρ.length σ = true) : dSt K (ρ ++ m) σ = dSt K ρ σ :=
  List.map_congr_left fun x hx => by
    have z := List.all_eq_true.mp h x hx
    cases x with
    | none => rfl
    | some v =>
      show some (dV K (ρ ++ m) v) = some (dV K ρ v)
      rw [dV_app z]
def notTup : DO → Bool
  | .tup _ => false
  | _ => true
def mutO : DO → Bool
  | .tup _ => false
  | .frz _ => false
  | .frzT _ => false
  | .any => false
  | .dN _ => false
  | .frzN _ => false
  | _ => true
theorem mutO_plain {o : DO} (h : mutO o = true) : plainO o = true := by
  cases o <;> first | rfl | cases h
theorem sh_tup {ρ : List Addr} {o : DO} {xs : List V} (s : Sh K ρ o (.tup xs)) : ∃ ys, o = .tup ys := by
  cases o with
  | tup ys => exact ⟨ys, rfl⟩
  | frz kvs => obtain ⟨_, e⟩ := s; cases e
  | frzT kvs => obtain ⟨_, e⟩ := s; cases e
  | any => exact absurd rfl (s.2.2 xs)
  | dN es => obtain ⟨_, e⟩ := s; cases e
  | frzN es => obtain ⟨_, _, e⟩ := s; cases e
  | lst _ | dK _ | dT _ | xd _ | ins _ _ _ | own _ | bag _ => cases (show HO.tup xs = dO K ρ _ from s)
theorem sh_notbl {ρ : List Addr} {o : DO} {ps : Array Value} (s : Sh K ρ o (.tbl ps)) : False := by
  cases o with
  | frz kvs => obtain ⟨_, e⟩ := s; cases e
  | frzT kvs => obtain ⟨_, e⟩ := s; cases e
  | any => exact s.1 ps rfl
  | dN es => obtain ⟨_, e⟩ := s; cases e
  | frzN es => obtain ⟨_, _, e⟩ := s; cases e
  | lst _ | tup _ | dK _ | dT _ | xd _ | ins _ _ _ | own _ | bag _ => cases (show HO.tbl ps = dO K ρ _ from s)
theorem sh_nocode {ρ : List Addr} {o : DO} {c : Addr} {q : Str} (s : Sh K ρ o (LamX.CodeO c q)) : False := by
  cases o with
  | frz kvs => obtain ⟨_, e⟩ := s; cases e
  | frzT kvs => obtain ⟨_, e⟩ := s; cases e
  | any => exact s.2.1 _ rfl
  | dN es => obtain ⟨_, e⟩ := s; exact NKx.ndo_code e
  | frzN es => obtain ⟨_, _, e⟩ := s; cases e
  | lst _ | tup _ | dK _ | dT _ | xd _ | ins _ _ _ | own _ | bag _ => cases (show LamX.CodeO c q = dO K ρ _ from s)
/-! ### tables of code objects, kept -/
omit [Drw] [Cbv] in
theorem tabs_keep {Tq : List (Addr × Str)} {H H' : Hp} (h : LamX.Tabs Tq H) (k : ∀ b o, H b = some o → ((∃ ps, o = .tbl ps) ∨ ∃ c q, o = LamX.CodeO c q) → H' b = some o) : LamX.Tabs Tq H' := fun p hp => by
  obtain ⟨ps, h1, h2, h3⟩ := h p hp
  refine ⟨ps, k _ _ h1 (.inl ⟨_, rfl⟩), h2, fun pos cv hc => ?_⟩
  obtain ⟨c, e1, e2⟩ := h3 pos cv hc
  exact ⟨c, e1, k _ _ e2 (.inr ⟨_, _, rfl⟩)⟩
/-- what is known of the heap besides -/
structure Tb (ρ : List Addr) (H : Hp) : Prop where
  tabs : LamX.Tabs Drw.tabs H
  codes : ∀ p ∈ Cbv.codes, H p.1 = some (LamX.CodeO p.1 p.2)
  pre : ∃ m, ρ = Cbv.pre ++ m
theorem Tb.keep {ρ : List Addr} {H H' : Hp} (h : Tb ρ H) (k : ∀ b o, H b = some o → ((∃ ps, o = .tbl ps) ∨ ∃ c q, o = LamX.CodeO c q) → H' b = some o) : Tb ρ H' := ⟨tabs_keep h.tabs k, fun p hp => k _ _ (h.codes p hp) (.inr ⟨_, _, rfl⟩), h.pre⟩
theorem Tb.ext {ρ : List Addr} {H H' : Hp} (h : Tb ρ H) (k : ∀ b o, H b = some o → H' b = some o) : Tb ρ H' := h.keep fun b o e _ => k b o e
theorem Tb.app {ρ m : List Addr} {H : Hp} (h : Tb ρ H) : Tb (ρ ++ m) H := ⟨h.tabs, h.codes, by
  obtain ⟨n, e⟩ := h.pre
  exact ⟨n ++ m, by rw [e, List.append_assoc]⟩⟩
theorem Tb.at_ {ρ ρ' : List Addr} {H H' : Hp} (h : Tb ρ H) (h' : Tb ρ' H') : Tb ρ H' := ⟨h'.tabs, h'.codes, h.pre⟩
/-- the heap H shows S at the addresses ρ (a tuple may stand there twice) -/
structure Rep (K : PySem.W.Frag) (ρ : List Addr) (S : List DO) (H : Hp) : Prop where
  len : ρ.length = S.length
  nd : ∀ (i j : Nat) (a : Addr), ρ[i]? = some a → ρ[j]? = some a → i ≠ j → ∃ xs, S[i]? = some (.tup xs)
  obj : ∀ (i : Nat) (o : DO) (a : Addr), S[i]? = some o → ρ[i]? = some a → ∃ h, H a = some h ∧ Sh K ρ o h
  wf : ∀ o ∈ S, wfO S.length o = true
  tb : Tb ρ H
def LnP (ρ : List Addr) (n : Nat) : Prop := ρ.length = n ∧ ∃ m, ρ = Cbv.pre ++ m
theorem Rep.ln {ρ : List Addr} {S : List DO} {H : Hp} (r : Rep K ρ S H) : LnP ρ S.length := ⟨r.len, r.tb.pre⟩
/-- later: ρ grew by new addresses (or by tuples that stood there), what stands outside stays, what is walked stays, tuples stay and come of nothing else -/
structure Fr (ρ : List Addr) (H : Hp) (ρ' : List Addr) (H' : Hp) : Prop where
  pre : ∃ m, ρ' = ρ ++ m ∧ ∀ a ∈ m, H a = none ∨ (∃ xs, H a = some (.tup xs)) ∨ ∃ ps, H a = some (.tbl ps)
  out : ∀ b o, b ∉ ρ → H b = some o → (∀ ps, o ≠ .tbl ps) → H' b = some o
  frz : ∀ b o u, H b = some (.frz o u) → H' b = some (.frz o u)
  tup : ∀ b xs, H b = some (.tup xs) → H' b = some (.tup xs)
  was : ∀ b xs, H' b = some (.tup xs) → H b = none ∨ H b = some (.tup xs) ∨ ∃ ps, H b = some (.tbl ps)
theorem Fr.refl (ρ : List Addr) (H : Hp) : Fr ρ H ρ H := ⟨⟨[], by simp, fun a h => by simp at h⟩, fun _ _ _ h _ => h, fun _ _ _ h => h, fun _ _ h => h, fun _ _ h => .inr (.inl h)⟩
theorem Rep.at_ {ρ : List Addr} {S : List DO} {H : Hp} (r : Rep K ρ S H) {a : Addr} (h : a ∈ ρ) : ∃ o, H a = some o := by
  obtain ⟨i, hi, e⟩ := List.mem_iff_getElem.mp h
  have hs : i < S.length := by rw [← r.len]; exact hi
  obtain ⟨h, eh, _⟩ := r.obj i (S[i]'hs) a (List.getElem?_eq_getElem hs) (by rw [List.getElem?_eq_getElem hi, e])
  exact ⟨h, eh⟩
theorem Rep.sh_ {ρ : List Addr} {S : List DO} {H : Hp} (r : Rep K ρ S H) {b : Addr} {u : HO} (hb : b ∈ ρ) (e : H b = some u) : ∃ o, Sh K ρ o u ∧ o ∈ S := by
  obtain ⟨i, hi, ei⟩ := List.mem_iff_getElem.mp hb
  have hs : i < S.length := by rw [← r.len]; exact hi
  obtain ⟨h, eh, s⟩ := r.obj i (S[i]'hs) b (List.getElem?_eq_getElem hs) (by rw [List.getElem?_eq_getElem hi, ei])
  rw [e] at eh
  cases eh
  exact ⟨_, s, List.getElem_mem hs⟩
theorem Fr.trans {ρ ρ1 ρ2 : List Addr} {S1 : List DO} {H H1 H2 : Hp} (a : Fr ρ H ρ1 H1) (r : Rep K ρ1 S1 H1) (b : Fr ρ1 H1 ρ2 H2) : Fr ρ H ρ2 H2 := by
  obtain ⟨⟨m, e, hm⟩, o1, f1, t1, w1⟩ := a
  obtain ⟨⟨m2, e2, hm2⟩, o2, f2, t2, w2⟩ := b
  have sub : ∀ x, x ∈ ρ → x ∈ ρ1 := fun x hx => by rw [e]; exact List.mem_append_left _ hx
  refine ⟨⟨m ++ m2, by rw [e2, e, List.append_assoc], fun x hx => ?_⟩, fun x o n h nt => ?_, fun x o u h => f2 x o u (f1 x o u h), fun x xs h => t2 x xs (t1 x xs h), fun x xs h => ?_⟩
  · rcases List.mem_append.mp hx with q | q
    · exact hm x q
    · cases z : H x with
      | none => exact .inl rfl
      | some o =>
        by_cases ct : ∃ ps, o = .tbl ps
        · obtain ⟨ps, rfl⟩ := ct
          exact .inr (.inr ⟨ps, rfl⟩)
        have nt : ∀ ps, o ≠ .tbl ps := fun ps e => ct ⟨ps, e⟩
        rcases hm2 x q with n1 | ⟨xs, n1⟩ | ⟨ps, n1⟩
        · by_cases c : x ∈ ρ
          · obtain ⟨o', h'⟩ := r.at_ (sub x c)
            rw [n1] at h'
            cases h'
          · have := o1 x o c z nt
            rw [n1] at this
            cases this
        · rcases w1 x xs n1 with k | k | ⟨ps, k⟩
          · rw [z] at k
            cases k
          · rw [z] at k
            exact .inr (.inl ⟨xs, k⟩)
          · rw [z] at k
            exact .inr (.inr ⟨ps, k⟩)
        · by_cases c : x ∈ ρ
          · obtain ⟨o', h', sh⟩ := r.sh_ (sub x c) n1
            exact (sh_notbl h').elim
          · have := o1 x o c z nt
            rw [n1] at this
            exact absurd (Option.some.inj this).symm (nt ps)
  · by_cases c : x ∈ ρ1
    · rw [e] at c
      rcases List.mem_append.mp c with q | q
      · exact absurd q n
      · rcases hm x q with k | ⟨xs, k⟩ | ⟨ps, k⟩
        · rw [k] at h
          cases h
        · rw [k] at h
          cases h
          exact t2 x xs (t1 x xs k)
        · rw [k] at h
          exact absurd (Option.some.inj h).symm (nt ps)
    · exact o2 x o c (o1 x o n h nt) nt
  · rcases w2 x xs h with k | k | ⟨ps, k⟩
    · cases z : H x with
      | none => exact .inl rfl
      | some o =>
        by_cases ct : ∃ ps, o = .tbl ps
        · obtain ⟨ps, rfl⟩ := ct
          exact .inr (.inr ⟨ps, rfl⟩)
        have nt : ∀ ps, o ≠ .tbl ps := fun ps e => ct ⟨ps, e⟩
        by_cases c : x ∈ ρ
        · obtain ⟨o', h'⟩ := r.at_ (sub x c)
          rw [k] at h'
          cases h'
        · have := o1 x o c z nt
          rw [k] at this
          cases this
    · exact w1 x xs k
    · cases z : H x with
      | none => exact .inl rfl
      | some o =>
        by_cases ct : ∃ ps, o = .tbl ps
        · obtain ⟨ps, rfl⟩ := ct
          exact .inr (.inr ⟨ps, rfl⟩)
        have nt : ∀ ps, o ≠ .tbl ps := fun ps e => ct ⟨ps, e⟩
        by_cases c : x ∈ ρ
        · obtain ⟨o', h', sh⟩ := r.sh_ (sub x c) k
          exact (sh_notbl h').elim
        · have := o1 x o c z nt
          rw [k] at this
          exact absurd (Option.some.inj this).symm (nt ps)
/-- new objects -/
theorem Rep.grow {ρ ps : List Addr} {S os : List DO} {H H' : Hp} (r : Rep K ρ S H) (hl : ps.length = os.length) (nd : ps.Nodup) (fresh : ∀ a ∈ ps, H a = none) (old : ∀ b, b ∉ ps → H' b = H b)
    (new : ∀ (i : Nat) (o : DO) (a : Addr), os[i]? = some o → ps[i]? = some a → H' a = some (dO K (ρ ++ ps) o)) (w : ∀ o ∈ os, wfO (S.length + os.length) o = true ∧ plainO o = true) : Rep K (ρ ++ ps) (S ++ os) H' ∧ Fr ρ H (ρ ++ ps) H' := by
  have np : ∀ a, a ∈ ρ → a ∉ ps := fun a ha hp => by
    obtain ⟨o', e⟩ := r.at_ ha
    rw [fresh a hp] at e
    cases e
  have nb : ∀ b o, H b = some o → b ∉ ps := fun b o h z => by
    rw [fresh b z] at h
    cases h
  refine ⟨⟨by simp [r.len, hl], fun i j a hi hj ne => ?_, fun i o' a hi ha => ?_, fun o' h => ?_, (r.tb.ext fun b o h => by rw [old b (nb b _ h)]; exact h).app⟩, ⟨⟨ps, rfl, fun a h => .inl (fresh a h)⟩, fun b o' n h _ => ?_, fun b o' u h => ?_, fun b xs h => ?_, fun b xs h => ?_⟩⟩
  · by_cases c : i < ρ.length
    · rw [List.getElem?_append_left c] at hi
      by_cases d : j < ρ.length
      · rw [List.getElem?_append_left d] at hj
        obtain ⟨xs, e⟩ := r.nd i j a hi hj ne
        exact ⟨xs, by rw [List.getElem?_append_left (by rw [← r.len]; exact c)]; exact e⟩
      · rw [List.getElem?_append_right (Nat.le_of_not_lt d)] at hj
        exact absurd (List.mem_of_getElem? hj) (np a (List.mem_of_getElem? hi))
    · rw [List.getElem?_append_right (Nat.le_of_not_lt c)] at hi
      by_cases d : j < ρ.length
      · rw [List.getElem?_append_left d] at hj
        exact absurd (List.mem_of_getElem? hi) (np a (List.mem_of_getElem? hj))
      · rw [List.getElem?_append_right (Nat.le_of_not_lt d)] at hj
        have inj := List.pairwise_iff_getElem.mp nd
        obtain ⟨h1, e1⟩ := List.getElem?_eq_some_iff.mp hi
        obtain ⟨h2, e2⟩ := List.getElem?_eq_some_iff.mp hj
        rcases Nat.lt_or_gt_of_ne ne with q | q
        · exact absurd (e1.trans e2.symm) (inj _ _ h1 h2 (by omega))
        · exact absurd (e2.trans e1.symm) (inj _ _ h2 h1 (by omega))
  · by_cases c : i < S.length
    · rw [List.getElem?_append_left c] at hi
      rw [List.getElem?_append_left (by rw [r.len]; exact c)] at ha
      have hw := r.wf o' (List.mem_of_getElem? hi)
      obtain ⟨h, eh, sh⟩ := r.obj i o' a hi ha
      exact ⟨h, by rw [old a (np a (List.mem_of_getElem? ha))]; exact eh, sh.app (by rw [r.len]; exact hw)⟩
    · have c := Nat.le_of_not_lt c
      rw [List.getElem?_append_right c] at hi
      rw [List.getElem?_append_right (by rw [r.len]; exact c), r.len] at ha
      exact ⟨_, new _ o' a hi ha, Sh.of (w o' (List.mem_of_getElem? hi)).2⟩
  · rw [List.length_append]
    rcases List.mem_append.mp h with q | q
    · exact wfO_le (by simp) (r.wf o' q)
    · exact (w o' q).1
  · rw [old b (nb b _ h)]
    exact h
  · rw [old b (nb b _ h)]
    exact h
  · rw [old b (nb b _ h)]
    exact h
  · by_cases c : b ∈ ps
    · exact .inl (fresh b c)
    · rw [old b c] at h
      exact .inr (.inl h)
/-- a new object -/
theorem Rep.new {ρ : List Addr} {S : List DO} {H : Hp} {p : Addr} {o : DO} (r : Rep K ρ S H) (hp : H p = none) (ho : wfO S.length o = true) (po : plainO o = true := by rfl) : Rep K (ρ ++ [p]) (S ++ [o]) (upd H p (dO K ρ o)) ∧ Fr ρ H (ρ ++ [p]) (upd H p (dO K ρ o)) := by
  refine r.grow rfl (List.nodup_cons.mpr ⟨List.not_mem_nil, List.nodup_nil⟩) (fun a h => by rw [List.mem_singleton.mp h]; exact hp) (fun b h => upd_ne fun z => h (by rw [z]; exact List.mem_singleton.mpr rfl)) (fun i o' a hi ha => ?_) fun o' h => ?_
  · cases i with
    | zero =>
      cases hi
      cases ha
      rw [dO_app (by rw [r.len]; exact ho)]
      exact upd_same
    | succ n => simp at hi
  · rw [List.mem_singleton.mp h]
    exact ⟨wfO_le (by simp) ho, po⟩
/-- a tuple that stands there is told -/
theorem Rep.know {ρ : List Addr} {S : List DO} {H : Hp} {p : Addr} {xs : List DV} (r : Rep K ρ S H) (hp : H p = some (.tup (xs.map (dV K ρ)))) (w : xs.all (RunX.wf S.length) = true) : Rep K (ρ ++ [p]) (S ++ [.tup xs]) H ∧ Fr ρ H (ρ ++ [p]) H := by
  have last : ∀ {i : Nat} {a : Addr}, (ρ ++ [p])[i]? = some a → ¬ i < ρ.length → i = S.length ∧ a = p := fun {i a} h c => by
    have hl := (List.getElem?_eq_some_iff.mp h).1
    rw [List.length_append, List.length_singleton] at hl
    have e : i = ρ.length := by omega
    rw [e, List.getElem?_append_right (Nat.le_refl _), Nat.sub_self] at h
    cases h
    exact ⟨e.trans r.len, rfl⟩
  refine ⟨⟨by simp [r.len], fun i j a hi hj ne => ?_, fun i o' a hi ha => ?_, fun o' h => ?_, r.tb.app⟩, ⟨⟨[p], rfl, fun a h => .inr (.inl ⟨xs.map (dV K ρ), by rw [List.mem_singleton.mp h]; exact hp⟩)⟩, fun b o' n h _ => h, fun b o' u h => h, fun b xs h => h, fun b xs h => .inr (.inl h)⟩⟩
  · by_cases c : i < ρ.length
    · have hi' := hi
      rw [List.getElem?_append_left c] at hi'
      have cs : i < S.length := by rw [← r.len]; exact c
      rw [List.getElem?_append_left cs]
      by_cases d : j < ρ.length
      · rw [List.getElem?_append_left d] at hj
        exact r.nd i j a hi' hj ne
      · obtain ⟨_, rfl⟩ := last hj d
        obtain ⟨h, eh, sh⟩ := r.obj i _ a (List.getElem?_eq_getElem cs) hi'
        rw [hp] at eh
        cases eh
        obtain ⟨ys, ey⟩ := sh_tup sh
        exact ⟨ys, by rw [List.getElem?_eq_getElem cs, ey]⟩
    · obtain ⟨e, _⟩ := last hi c
      exact ⟨xs, by rw [e, List.getElem?_append_right (Nat.le_refl _), Nat.sub_self]; rfl⟩
  · by_cases c : i < S.length
    · rw [List.getElem?_append_left c] at hi
      rw [List.getElem?_append_left (by rw [r.len]; exact c)] at ha
      obtain ⟨h, eh, sh⟩ := r.obj i o' a hi ha
      exact ⟨h, eh, sh.app (by rw [r.len]; exact r.wf o' (List.mem_of_getElem? hi))⟩
    · obtain ⟨e, rfl⟩ := last ha (by rw [r.len]; exact c)
      rw [e, List.getElem?_append_right (Nat.le_refl _), Nat.sub_self] at hi
      cases hi
      refine ⟨_, hp, ?_⟩
      show _ = HO.tup _
      rw [map_app (by rw [r.len]; exact w)]
  · rcases List.mem_append.mp h with q | q
    · exact wfO_le (by simp) (r.wf o' q)
    · rw [List.mem_singleton.mp q]
      exact List.all_eq_true.mpr fun v hv => wf_le (by simp) (List.all_eq_true.mp w v hv)
/-! ### what an evaluation gives -/
inductive Res where
  | ret (v : DV) (S : List DO)
  | exc (C : Str) (d : Option Nat) (S : List DO)
inductive ResA where
  | ret (vs : List DV) (S : List DO)
  | exc (C : Str) (d : Option Nat) (S : List DO)
/-- an exception of the class C reaches E -/
def PostX (K : PySem.W.Frag) (E : XK) (ρ : List Addr) (H : Hp) (C : Str) (d : Option Nat) (S : List DO) : Prop := ∀ ρ' H', Rep K ρ' S H' → Fr ρ H ρ' H' → E (.ref (ga K C)) (d.map fun n => ρ'.getD n 0) H'
def Post (K : PySem.W.Frag) (E : XK) (ρ : List Addr) (H : Hp) (Q : VK) : Res → Prop
  | .ret v S => ∀ ρ' H', Rep K ρ' S H' → Fr ρ H ρ' H' → Q (dV K ρ' v) H'
  | .exc C d S => PostX K E ρ H C d S
def PostA (K : PySem.W.Frag) (E : XK) (ρ : List Addr) (H : Hp) (Q : List V → Hp → Prop) : ResA → Prop
  | .ret vs S => ∀ ρ' H', Rep K ρ' S H' → Fr ρ H ρ' H' → Q (vs.map (dV K ρ')) H'
  | .exc C d S => PostX K E ρ H C d S
def good (n : Nat) : Res → Bool
  | .ret v S => decide (n ≤ S.length) && wf S.length v
  | .exc _ _ S => decide (n ≤ S.length)
def goodA (n : Nat) : ResA → Bool
  | .ret vs S => decide (n ≤ S.length) && vs.all (wf S.length)
  | .exc _ _ S => decide (n ≤ S.length)
/-- an evaluator of the reading te -/
class EvE (K : PySem.W.Frag) (E : XK) (te : TE) where
  run : List (Option DV) → List DO → Option Res
  good : ∀ {σ S r}, run σ S = some r → wfS S.length σ = true → good S.length r = true
  ok : ∀ {σ S r ρ H Q}, run σ S = some r → wfS S.length σ = true → Rep K ρ S H → Post K E ρ H Q r → te (dSt K ρ σ) H Q
class EvA (K : PySem.W.Frag) (E : XK) (ta : TA) where
  run : List (Option DV) → List DO → Option ResA
  good : ∀ {σ S r}, run σ S = some r → wfS S.length σ = true → goodA S.length r = true
  ok : ∀ {σ S r ρ H Q}, run σ S = some r → wfS S.length σ = true → Rep K ρ S H → PostA K E ρ H Q r → ta (dSt K ρ σ) H Q
section
variable {E : XK}
theorem Fr.le {ρ ρ' : List Addr} {H H' : Hp} {σ : List (Option DV)} {n : Nat} (f : Fr ρ H ρ' H') (hn : ρ.length = n) (w : wfS n σ = true) : dSt K ρ' σ = dSt K ρ σ := by
  obtain ⟨m, e, _⟩ := f.pre
  subst hn
  rw [e]
  exact dSt_app w
theorem Fr.val {ρ ρ' : List Addr} {H H' : Hp} {v : DV} {n : Nat} (f : Fr ρ H ρ' H') (hn : ρ.length = n) (w : wf n v = true) : dV K ρ' v = dV K ρ v := by
  obtain ⟨m, e, _⟩ := f.pre
  subst hn
  rw [e]
  exact dV_app w
theorem PostX.of {ρ ρ1 : List Addr} {S1 : List DO} {H H1 : Hp} {C : Str} {d : Option Nat} {S : List DO} (p : PostX K E ρ H C d S) (r : Rep K ρ1 S1 H1) (f : Fr ρ H ρ1 H1) : PostX K E ρ1 H1 C d S :=
  fun ρ' H' r' f' => p ρ' H' r' (f.trans r f')
/-- constants -/
class CstV (K : PySem.W.Frag) (v : V) where
  d : DV
  ok : ∀ ρ, dV K ρ d = v
  wf0 : wf 0 d = true
instance : CstV K .non := ⟨.non, fun _ => rfl, rfl⟩
instance (b : Bool) : CstV K (.bl b) := ⟨.bl b, fun _ => rfl, rfl⟩
instance (i : Int) : CstV K (.int i) := ⟨.int i, fun _ => rfl, rfl⟩
instance (x : Str) : CstV K (.str x) := ⟨.str x, fun _ => rfl, rfl⟩
instance (n : String) : CstV K (.ty n) := ⟨.ty n, fun _ => rfl, rfl⟩
instance (x : Str) : CstV K (.ref (ga K x)) := ⟨.glo x, fun _ => rfl, rfl⟩
instance (v : V) [c : CstV K v] : EvE K E (tC v) where
  run := fun _ S => some (.ret c.d S)
  good := fun {σ S r} h w => by
    cases h
    show (decide _ && wf _ _) = true
    rw [wf_le (Nat.zero_le _) c.wf0]
    simp
  ok := fun {σ S r ρ H Q} h w R p => by
    cases h
    have z := p ρ H R (Fr.refl ρ H)
    rw [c.ok ρ] at z
    exact z
instance (i : Nat) : EvE K E (tVar i) where
  run := fun σ S => match σ[i]? with
    | some (some v) => some (.ret v S)
    | _ => none
  good := fun {σ S r} h w => by
    split at h
    · rename_i v hv
      cases h
      have z := List.all_eq_true.mp w _ (List.mem_of_getElem? hv)
      show (decide _ && wf _ _) = true
      rw [show wf S.length v = true from z]
      simp
    · cases h
  ok := fun {σ S r ρ H Q} h w R p => by
    split at h
    · rename_i v hv
      cases h
      refine ⟨dV K ρ v, ?_, p ρ H R (Fr.refl ρ H)⟩
      unfold dSt
      rw [List.getElem?_map, hv]
      rfl
    · cases h
instance : EvA K E tNil where
  run := fun _ S => some (.ret [] S)
  good := fun {σ S r} h w => by
    cases h
    show (decide _ && _) = true
    simp
  ok := fun {σ S r ρ H Q} h w R p => by
    cases h
    exact p ρ H R (Fr.refl ρ H)
instance (te : TE) (ta : TA) [e : EvE K E te] [a : EvA K E ta] : EvA K E (tCons te ta) where
  run := fun σ S => match e.run σ S with
    | some (.ret v S1) => (match a.run σ S1 with
      | some (.ret vs S2) => some (.ret (v :: vs) S2)
      | some (.exc C d S2) => some (.exc C d S2)
      | none => none)
    | some (.exc C d S1) => some (.exc C d S1)
    | none => none
  good := fun {σ S r} h w => by
    split at h
    · rename_i v S1 h1
      obtain ⟨l1, w1⟩ := ba (e.good h1 w)
      have l1 := of_decide_eq_true l1
      split at h
      · rename_i vs S2 h2
        cases h
        obtain ⟨l2, w2⟩ := ba (a.good h2 (wfS_le l1 w))
        have l2 := of_decide_eq_true l2
        show (decide _ && (wf _ v && vs.all _)) = true
        rw [wf_le l2 w1, w2, decide_eq_true (Nat.le_trans l1 l2)]
        rfl
      · rename_i C d S2 h2
        cases h
        exact decide_eq_true (Nat.le_trans l1 (of_decide_eq_true (a.good h2 (wfS_le l1 w))))
      · cases h
    · rename_i C d S1 h1
      cases h
      exact e.good h1 w
    · cases h
  ok := fun {σ S r ρ H Q} h w R p => by
    split at h
    · rename_i v S1 h1
      obtain ⟨l1, w1⟩ := ba (e.good h1 w)
      have l1 := of_decide_eq_true l1
      refine e.ok h1 w R fun ρ1 H1 R1 F1 => ?_
      have eσ : dSt K ρ1 σ = dSt K ρ σ := F1.le R.len w
      rw [← eσ]
      split at h
      · rename_i vs S2 h2
        cases h
        obtain ⟨l2, w2⟩ := ba (a.good h2 (wfS_le l1 w))
        refine a.ok h2 (wfS_le l1 w) R1 fun ρ2 H2 R2 F2 => ?_
        have z := p ρ2 H2 R2 (F1.trans R1 F2)
        have ev : dV K ρ2 v = dV K ρ1 v := F2.val R1.len w1
        rw [← ev]
        exact z
      · rename_i C d S2 h2
        cases h
        exact a.ok h2 (wfS_le l1 w) R1 (PostX.of p R1 F1)
      · cases h
    · rename_i C d S1 h1
      cases h
      exact e.ok h1 w R p
    · cases h
end
end RunX
set_option maxHeartbeats 4000000
/-! A function of values that stops at a drawn value is asked at each value that the draw may give; what it tells alike, is told. -/
namespace RunX
open PySem PySem.Spec PyProof.Rows L2 He
variable [Drw] [Cbv]
variable {K : PySem.W.Frag} {E : XK}
/-! ### the first objects alone -/
theorem Rep.take {ρ m : List Addr} {S' : List DO} {n : Nat} {H : Hp} (r : Rep K (ρ ++ m) S' H) (hl : ρ.length = n) (hn : n ≤ S'.length) (w : ∀ o ∈ S'.take n, wfO n o = true) (pr : ∃ m, ρ = Cbv.pre ++ m) : Rep K ρ (S'.take n) H := by
  have hl' : (S'.take n).length = n := by rw [List.length_take]; omega
  have at_ : ∀ i, i < n → (S'.take n)[i]? = S'[i]? := fun i hi => List.getElem?_take_of_lt hi
  have lt : ∀ {i : Nat} {a : Addr}, ρ[i]? = some a → i < ρ.length := fun {i a} h => (List.getElem?_eq_some_iff.mp h).1
  refine ⟨by rw [hl', hl], fun i j a hi hj ne => ?_, fun i o a hi ha => ?_, by rw [hl']; exact w, ⟨r.tb.tabs, r.tb.codes, pr⟩⟩
  · obtain ⟨xs, e⟩ := r.nd i j a (by rw [List.getElem?_append_left (lt hi)]; exact hi) (by rw [List.getElem?_append_left (lt hj)]; exact hj) ne
    exact ⟨xs, by rw [at_ i (by rw [← hl]; exact lt hi)]; exact e⟩
  · have li := (List.getElem?_eq_some_iff.mp hi).1
    rw [hl'] at li
    obtain ⟨h, e, s⟩ := r.obj i o a (by rw [← at_ i li]; exact hi) (by rw [List.getElem?_append_left (lt ha)]; exact ha)
    refine ⟨h, e, ?_⟩
    have wo := w o (List.mem_of_getElem? hi)
    rw [← hl] at wo
    cases o with
    | frz kvs =>
      obtain ⟨od, e⟩ := s
      refine ⟨od, ?_⟩
      have z := dO_app (K := K) (m := m) (o := .frz kvs) wo
      simp only [dO] at z
      rw [← z]
      exact e
    | frzT kvs =>
      obtain ⟨od, e⟩ := s
      refine ⟨od, ?_⟩
      have z := dO_app (K := K) (m := m) (o := .frzT kvs) wo
      simp only [dO] at z
      rw [← z]
      exact e
    | any => exact s
    | dN es =>
      obtain ⟨a, e⟩ := s
      refine ⟨a, ?_⟩
      rw [← esV_app (m := m) wo]
      exact e
    | frzN es =>
      obtain ⟨od, a, e⟩ := s
      refine ⟨od, a, ?_⟩
      rw [← esV_app (m := m) wo]
      exact e
    | lst _ | tup _ | dK _ | dT _ | xd _ | ins _ _ _ | own _ | bag _ =>
      have e : h = dO K (ρ ++ m) _ := s
      rw [dO_app wo] at e
      exact e
theorem Fr.cut {ρ m : List Addr} {H H' : Hp} (f : Fr ρ H (ρ ++ m) H') : Fr ρ H ρ H' := ⟨⟨[], by simp, fun a h => by simp at h⟩, f.out, f.frz, f.tup, f.was⟩
/-- one more of the objects that stand there is kept: a record -/
theorem Rep.keep {ρ m : List Addr} {S' : List DO} {n k : Nat} {H : Hp} {fs fs2 : List (Str × DV)} (r : Rep K (ρ ++ m) S' H) (hl : ρ.length = n) (hn : n ≤ S'.length) (w : ∀ o ∈ S'.take n, wfO n o = true) (pr : ∃ m, ρ = Cbv.pre ++ m) (hk : n ≤ k) (e : S'[k]? = some (.xd fs)) (w2 : wfO n (.xd fs2) = true)
    (e2 : fs2.map (fun p => (p.1, dV K ρ p.2)) = fs.map fun p => (p.1, dV K (ρ ++ m) p.2)) : Rep K (ρ ++ [(ρ ++ m).getD k 0]) (S'.take n ++ [.xd fs2]) H := by
  have R0 := r.take hl hn w pr
  have hl' : (S'.take n).length = n := by rw [List.length_take]; omega
  have hkl : k < (ρ ++ m).length := by
    rw [r.len]
    exact (List.getElem?_eq_some_iff.mp e).1
  have ga : (ρ ++ m)[k]? = some ((ρ ++ m).getD k 0) := by
    rw [List.getD_eq_getElem?_getD, List.getElem?_eq_getElem hkl]
    rfl
  generalize hA : (ρ ++ m).getD k 0 = A at ga ⊢
  have nin : A ∉ ρ := fun z => by
    obtain ⟨i, hi, ei⟩ := List.mem_iff_getElem.mp z
    obtain ⟨xs, q⟩ := r.nd k i A ga (by rw [List.getElem?_append_left hi, List.getElem?_eq_getElem hi, ei]) (by omega)
    rw [e] at q
    cases q
  have last : ∀ {i : Nat} {a : Addr}, (ρ ++ [A])[i]? = some a → ¬ i < ρ.length → i = n ∧ a = A := fun {i a} h c => by
    have hl2 := (List.getElem?_eq_some_iff.mp h).1
    rw [List.length_append, List.length_singleton] at hl2
    have e : i = ρ.length := by omega
    rw [e, List.getElem?_append_right (Nat.le_refl _), Nat.sub_self] at h
    cases h
    exact ⟨e.trans hl, rfl⟩
  refine ⟨by rw [List.length_append, List.length_append, hl', hl]; rfl, fun i j a hi hj ne => ?_, fun i o a hi ha => ?_, fun o ho => ?_, (R0.tb.at_ r.tb).app⟩
  · by_cases c : i < ρ.length
    · have hi' := hi
      rw [List.getElem?_append_left c] at hi'
      by_cases d : j < ρ.length
      · rw [List.getElem?_append_left d] at hj
        obtain ⟨xs, q⟩ := R0.nd i j a hi' hj ne
        exact ⟨xs, by rw [List.getElem?_append_left (by rw [hl', ← hl]; exact c)]; exact q⟩
      · obtain ⟨_, rfl⟩ := last hj d
        exact absurd (List.mem_of_getElem? hi') nin
    · obtain ⟨ei, rfl⟩ := last hi c
      by_cases d : j < ρ.length
      · rw [List.getElem?_append_left d] at hj
        exact absurd (List.mem_of_getElem? hj) nin
      · obtain ⟨ej, _⟩ := last hj d
        exact absurd (ei.trans ej.symm) ne
  · by_cases c : i < n
    · rw [List.getElem?_append_left (by rw [hl']; exact c)] at hi
      rw [List.getElem?_append_left (by rw [hl]; exact c)] at ha
      obtain ⟨h, eh, sh⟩ := R0.obj i o a hi ha
      exact ⟨h, eh, sh.app (by rw [hl]; exact w o (List.mem_of_getElem? hi))⟩
    · obtain ⟨ei, rfl⟩ := last ha (by rw [hl]; exact c)
      rw [ei, List.getElem?_append_right (by rw [hl']; exact Nat.le_refl _), hl', Nat.sub_self] at hi
      cases hi
      obtain ⟨h, eh, sh⟩ := r.obj k _ a e ga
      have sh : h = .xd _ := sh
      refine ⟨h, eh, ?_⟩
      show h = dO K (ρ ++ [a]) (.xd fs2)
      rw [dO_app (by rw [hl]; exact w2), sh]
      show HO.xd _ = HO.xd _
      rw [e2]
  · rw [List.length_append, hl', List.length_singleton]
    rcases List.mem_append.mp ho with q | q
    · exact wfO_le (by omega) (w o q)
    · rw [List.mem_singleton.mp q]
      exact wfO_le (by omega) w2
theorem Fr.keep {ρ m : List Addr} {H H' : Hp} {k : Nat} (f : Fr ρ H (ρ ++ m) H') (h1 : ρ.length ≤ k) (h2 : k < (ρ ++ m).length) : Fr ρ H (ρ ++ [(ρ ++ m).getD k 0]) H' := by
  obtain ⟨m', e, hm⟩ := f.pre
  have e : m = m' := List.append_cancel_left e
  subst e
  refine ⟨⟨_, rfl, fun a ha => ?_⟩, f.out, f.frz, f.tup, f.was⟩
  rw [List.mem_singleton.mp ha]
  refine hm _ ?_
  rw [List.getD_eq_getElem?_getD, List.getElem?_append_right h1]
  have : k - ρ.length < m.length := by
    rw [List.length_append] at h2
    omega
  rw [List.getElem?_eq_getElem this]
  exact List.getElem_mem this
/-! ### merging -/
/-- the value that the i-th draw gives if its number is j -/
def putDr (i j : Nat) : DV → DV
  | .drw i' t => if i' = i then (Drw.tab t).getD j .non else .drw i' t
  | v => v
theorem putDr_wf {n i j : Nat} {v : DV} (w : wf n v = true) : wf n (putDr i j v) = true := by
  unfold putDr
  split
  · rename_i i' t
    split
    · rw [List.getD_eq_getElem?_getD]
      cases e : (Drw.tab t)[j]? with
      | none => rfl
      | some v => exact (dV_0 (K := []) (ρ := []) (List.all_eq_true.mp (show (Drw.tab t).all (wf0 n) = true from w) v (List.mem_of_getElem? e))).2
    · exact w
  · exact w
theorem putDr_eq {ρ : List Addr} {n i : Nat} {v : DV} (w : wf n v = true) : dV K ρ (putDr i (idx i) v) = dV K ρ v := by
  unfold putDr
  split
  · rename_i i' t
    split
    · rename_i e
      subst e
      exact (dV_pick w).symm
    · rfl
  · rfl
def tabAt (vs : List DV) : Nat → Option Nat
  | 0 => none
  | t + 1 => if Drw.tab t = vs then some t else tabAt vs t
theorem tabAt_eq {vs : List DV} : ∀ {n t : Nat}, tabAt vs n = some t → Drw.tab t = vs
  | 0, _, h => by cases h
  | n + 1, t, h => by
    unfold tabAt at h
    split at h
    · rename_i e
      cases h
      exact e
    · exact tabAt_eq h
/-- one value for what stands at each number of the i-th draw -/
def mergeV (i n : Nat) (vs : List DV) : Option DV := match vs with
  | [] => none
  | v :: r => if (r.all fun u => decide (u = v)) = true ∧ wf n v = true then some v else
    match tabAt vs Drw.ntab with
    | some t => if wf n (.drw i t) = true then some (.drw i t) else none
    | none => none
theorem mergeV_ok {ρ : List Addr} {i n : Nat} {vs : List DV} {v u : DV} (h : mergeV i n vs = some v) (hu : vs[idx i]? = some u) : wf n v = true ∧ dV K ρ v = dV K ρ u := by
  unfold mergeV at h
  split at h
  · cases h
  · rename_i v0 r
    split at h
    · rename_i c
      cases h
      refine ⟨c.2, ?_⟩
      cases e : idx i with
      | zero =>
        rw [e] at hu
        cases hu
        rfl
      | succ k =>
        rw [e] at hu
        have z := of_decide_eq_true (List.all_eq_true.mp c.1 u (List.mem_of_getElem? (by simpa using hu)))
        rw [z]
    · split at h
      · rename_i t ht
        split at h
        · rename_i w
          cases h
          refine ⟨w, ?_⟩
          rw [dV_pick w]
          unfold pickD
          rw [tabAt_eq ht, List.getD_eq_getElem?_getD, hu]
          rfl
        · cases h
      · cases h
/-- what all tell: the objects that stood there -/
def sameT (n : Nat) (T : List DO) (S : List DO) : Bool := decide (S.take n = T)
def excN (n : Nat) (C : Str) (T : List DO) : Res → Bool
  | .exc D none S => decide (D = C) && sameT n T S
  | _ => false
/-- the value that the exception keeps -/
def excV (n : Nat) (C f : Str) (T : List DO) : Res → Option DV
  | .exc D (some m) S => if D = C ∧ n ≤ m ∧ sameT n T S = true then (match S[m]? with
    | some (.xd [(g, v)]) => if g = f then some v else none
    | _ => none) else none
  | _ => none
def retV (n : Nat) (T : List DO) : Res → Option DV
  | .ret v S => if sameT n T S = true then some v else none
  | _ => none
def allM (f : Res → Option DV) : List Res → Option (List DV)
  | [] => some []
  | r :: rs => match f r, allM f rs with
    | some v, some vs => some (v :: vs)
    | _, _ => none
theorem allM_at {f : Res → Option DV} : ∀ {rs : List Res} {vs : List DV} {j : Nat} {r : Res}, allM f rs = some vs → rs[j]? = some r → ∃ v, vs[j]? = some v ∧ f r = some v
  | [], _, _, _, _, hj => by simp at hj
  | r0 :: rs, vs, j, r, h, hj => by
    unfold allM at h
    split at h
    · rename_i v0 vs0 h1 h2
      cases h
      cases j with
      | zero =>
        cases hj
        exact ⟨v0, rfl, h1⟩
      | succ j =>
        obtain ⟨v, h3, h4⟩ := allM_at h2 (j := j) (r := r) (by simpa using hj)
        exact ⟨v, by simpa using h3, h4⟩
    · cases h
def mergeR (i : Nat) (S : List DO) (rs : List Res) : Option Res := match rs with
  | [] => none
  | .exc C none S0 :: _ => if (S0.take S.length).all (wfO S.length) = true ∧ S.length ≤ S0.length ∧ (rs.all (excN S.length C (S0.take S.length))) = true then some (.exc C none (S0.take S.length)) else none
  | .exc C (some m) S0 :: _ => (match S0[m]? with
    | some (.xd [(f, _)]) => if (S0.take S.length).all (wfO S.length) = true ∧ S.length ≤ S0.length then (match (allM (excV S.length C f (S0.take S.length)) rs).bind (mergeV i S.length) with
      | some v => some (.exc C (some S.length) (S0.take S.length ++ [.xd [(f, v)]]))
      | none => none) else none
    | _ => none)
  | .ret _ S0 :: _ => if (S0.take S.length).all (wfO S.length) = true ∧ S.length ≤ S0.length then (match (allM (retV S.length (S0.take S.length)) rs).bind (mergeV i S.length) with
      | some v => some (.ret v (S0.take S.length))
      | none => none) else none
theorem len_of_take {n : Nat} {S T : List DO} (h : S.take n = T) (ht : T.length = n) : n ≤ S.length := by
  rw [← h, List.length_take] at ht
  omega
theorem mergeR_ok {i : Nat} {S : List DO} {rs : List Res} {r q : Res} (h : mergeR i S rs = some r) (hq : rs[idx i]? = some q) :
    good S.length r = true ∧ ∀ {ρ : List Addr} {H : Hp} {Q : VK}, LnP ρ S.length → Post K E ρ H Q r → Post K E ρ H Q q := by
  unfold mergeR at h
  have wl : ∀ {l : List DO}, (l.all (wfO S.length)) = true → ∀ o ∈ l, wfO S.length o = true := fun h => List.all_eq_true.mp h
  split at h
  · cases h
  · rename_i C S0 _
    split at h
    · rename_i c
      obtain ⟨c1, c2, c3⟩ := c
      cases h
      have hT : (S0.take S.length).length = S.length := by rw [List.length_take]; omega
      have z := List.all_eq_true.mp c3 q (List.mem_of_getElem? hq)
      refine ⟨decide_eq_true (by rw [hT]; exact Nat.le_refl _), fun {ρ H Q} ⟨hl, pr⟩ p => ?_⟩
      unfold excN at z
      split at z
      · rename_i D S1
        obtain ⟨z1, z2⟩ := ba z
        have z1 := of_decide_eq_true z1
        have z2 := of_decide_eq_true z2
        subst z1
        intro ρ' H' R F
        obtain ⟨m, e, _⟩ := F.pre
        subst e
        have hn := len_of_take z2 hT
        have R1 := R.take hl hn (by rw [z2]; exact wl c1) pr
        rw [z2] at R1
        exact p ρ H' R1 F.cut
      · cases z
    · cases h
  · rename_i C m0 S0 _
    split at h
    · rename_i f v0 hm0
      split at h
      · rename_i c
        obtain ⟨c1, c2⟩ := c
        split at h
        · rename_i v hv
          cases h
          obtain ⟨vs, hvs, hm⟩ := Option.bind_eq_some_iff.mp hv
          have hT : (S0.take S.length).length = S.length := by rw [List.length_take]; omega
          obtain ⟨u, hu, hz⟩ := allM_at hvs hq
          have wv := (mergeV_ok (K := K) (ρ := []) hm hu).1
          refine ⟨decide_eq_true (by rw [List.length_append, hT]; simp), fun {ρ H Q} ⟨hl, pr⟩ p => ?_⟩
          unfold excV at hz
          split at hz
          · rename_i D m S1
            split at hz
            · rename_i c
              obtain ⟨e1, e2, e3⟩ := c
              have e3 := of_decide_eq_true e3
              subst e1
              split at hz
              · rename_i g u' hmm
                split at hz
                · rename_i eg
                  subst eg
                  cases hz
                  intro ρ' H' R F
                  obtain ⟨mm, e, _⟩ := F.pre
                  subst e
                  have hn := len_of_take e3 hT
                  have hml : m < (ρ ++ mm).length := by
                    rw [R.len]
                    exact (List.getElem?_eq_some_iff.mp hmm).1
                  have w2 : wfO S.length (.xd [(g, v)]) = true := by
                    show (wf S.length v && true) = true
                    rw [wv]
                    rfl
                  have R1 := R.keep (fs2 := [(g, v)]) hl hn (by rw [e3]; exact wl c1) pr e2 hmm w2 (by
                    show [(g, dV K ρ v)] = [(g, dV K (ρ ++ mm) u)]
                    rw [← (mergeV_ok (K := K) (ρ := ρ ++ mm) hm hu).2, dV_app (by rw [hl]; exact wv)])
                  rw [e3] at R1
                  have z := p _ H' R1 (F.keep (by rw [hl]; exact e2) hml)
                  have ea : (ρ ++ [(ρ ++ mm).getD m 0]).getD S.length 0 = (ρ ++ mm).getD m 0 := by
                    rw [List.getD_eq_getElem?_getD, List.getElem?_append_right (by rw [hl]; exact Nat.le_refl _), hl, Nat.sub_self]
                    rfl
                  have z : E (.ref (ga K D)) (some ((ρ ++ [(ρ ++ mm).getD m 0]).getD S.length 0)) H' := z
                  rw [ea] at z
                  exact z
                · cases hz
              · cases hz
            · cases hz
          · cases hz
        · cases h
      · cases h
    · cases h
  · rename_i v0 S0 _
    split at h
    · rename_i c
      obtain ⟨c1, c2⟩ := c
      split at h
      · rename_i v hv
        cases h
        obtain ⟨vs, hvs, hm⟩ := Option.bind_eq_some_iff.mp hv
        have hT : (S0.take S.length).length = S.length := by rw [List.length_take]; omega
        obtain ⟨u, hu, hz⟩ := allM_at hvs hq
        have wv := (mergeV_ok (K := K) (ρ := []) hm hu).1
        refine ⟨by
          show (decide _ && _) = true
          rw [hT, wv]
          simp, fun {ρ H Q} ⟨hl, pr⟩ p => ?_⟩
        unfold retV at hz
        split at hz
        · rename_i u' S1
          split at hz
          · rename_i e3
            have e3 := of_decide_eq_true e3
            cases hz
            intro ρ' H' R F
            obtain ⟨mm, e, _⟩ := F.pre
            subst e
            have hn := len_of_take e3 hT
            have R1 := R.take hl hn (by rw [e3]; exact wl c1) pr
            rw [e3] at R1
            have z := p ρ H' R1 F.cut
            rw [← (mergeV_ok (K := K) (ρ := ρ ++ mm) hm hu).2, dV_app (by rw [hl]; exact wv)]
            exact z
          · cases hz
        · cases hz
      · cases h
    · cases h
/-! ### split -/
def drwOf : List DV → Option Nat
  | [] => none
  | .drw i _ :: _ => some i
  | _ :: r => drwOf r
def allJ (f : Nat → Option Res) : Nat → Nat → Option (List Res)
  | 0, _ => some []
  | k + 1, j => match f j with
    | some r => (match allJ f k (j + 1) with
      | some rs => some (r :: rs)
      | none => none)
    | none => none
theorem allJ_at {f : Nat → Option Res} : ∀ {k j i : Nat} {rs : List Res}, allJ f k j = some rs → i < k → ∃ r, rs[i]? = some r ∧ f (j + i) = some r
  | 0, _, _, _, _, hi => by omega
  | k + 1, j, i, rs, h, hi => by
    unfold allJ at h
    split at h
    · rename_i r hr
      split at h
      · rename_i rs' hrs
        cases h
        cases i with
        | zero => exact ⟨r, rfl, hr⟩
        | succ i =>
          obtain ⟨q, h1, h2⟩ := allJ_at hrs (i := i) (by omega)
          exact ⟨q, by simpa using h1, by rw [← h2]; congr 1; omega⟩
      · cases h
    · cases h
def splitR (f : List DV → List DO → Option Res) : Nat → List DV → List DO → Option Res
  | 0, ds, S => f ds S
  | k + 1, ds, S => match f ds S with
    | some r => some r
    | none => (match drwOf ds with
      | none => none
      | some i => (match allJ (fun j => splitR f k (ds.map (putDr i j)) S) (Drw.tab i).length 0 with
        | some rs => mergeR i S rs
        | none => none))
theorem idx_lt {i : Nat} (h : 0 < (Drw.tab i).length) : idx i < (Drw.tab i).length := Drw.hF _ _ h
theorem splitR_ok {f : List DV → List DO → Option Res} : ∀ {k : Nat} {ds : List DV} {S : List DO} {r : Res}, splitR f k ds S = some r → ds.all (wf S.length) = true →
    ∃ ds' q, ds'.all (wf S.length) = true ∧ f ds' S = some q ∧ (good S.length q = true → good S.length r = true) ∧ (∀ ρ : List Addr, ds'.map (dV K ρ) = ds.map (dV K ρ)) ∧ ∀ {ρ : List Addr} {H : Hp} {Q : VK} {E : XK}, LnP ρ S.length → Post K E ρ H Q r → Post K E ρ H Q q
  | 0, ds, S, r, h, w => ⟨ds, r, w, h, id, fun _ => rfl, fun _ p => p⟩
  | k + 1, ds, S, r, h, w => by
    unfold splitR at h
    split at h
    · rename_i r' h1
      cases h
      exact ⟨ds, _, w, h1, id, fun _ => rfl, fun _ p => p⟩
    · split at h
      · cases h
      · rename_i i hi
        split at h
        · rename_i rs hrs
          have hpos : 0 < (Drw.tab i).length := by
            cases hl : (Drw.tab i).length with
            | zero =>
              rw [hl] at hrs
              unfold allJ at hrs
              cases hrs
              unfold mergeR at h
              cases h
            | succ n => omega
          obtain ⟨q, h1, h2⟩ := allJ_at hrs (idx_lt hpos)
          rw [Nat.zero_add] at h2
          have w2 : (ds.map (putDr i (idx i))).all (wf S.length) = true := List.all_eq_true.mpr fun v hv => by
            obtain ⟨u, hu, rfl⟩ := List.mem_map.mp hv
            exact putDr_wf (List.all_eq_true.mp w u hu)
          obtain ⟨ds', q', w', hf, hg, he, hp⟩ := splitR_ok h2 w2
          have M := fun (E : XK) => mergeR_ok (K := K) (E := E) h h1
          refine ⟨ds', q', w', hf, fun _ => (M E0).1, fun ρ => ?_, fun {ρ H Q E} hl p => hp hl ((M E).2 hl p)⟩
          rw [he ρ, List.map_map]
          exact List.map_congr_left fun v hv => putDr_eq (List.all_eq_true.mp w v hv)
        · cases h
end RunX
set_option maxHeartbeats 4000000
namespace RunX
open PySem PySem.Spec PyProof.Rows L2 He
variable [Drw] [Cbv]
variable {K : PySem.W.Frag} {E : XK}
def alloc (S : List DO) (o : DO) : Option Res := some (.ret (.ref S.length) (S ++ [o]))
theorem alloc_good {S : List DO} {o : DO} {r : Res} (h : alloc S o = some r) : good S.length r = true := by
  cases h
  show (decide _ && decide _) = true
  simp
theorem alloc_post {ρ : List Addr} {S : List DO} {H : Hp} {o : DO} {r : Res} {Q : VK} {p : Addr} (h : alloc S o = some r) (ho : wfO S.length o = true) (R : Rep K ρ S H) (k : Post K E ρ H Q r) (hp : H p = none) (po : plainO o = true := by rfl) : Q (.ref p) (upd H p (dO K ρ o)) := by
  cases h
  obtain ⟨R1, F1⟩ := R.new hp ho po
  have z := k _ _ R1 F1
  have e : dV K (ρ ++ [p]) (.ref S.length) = .ref p := by
    simp only [dV, List.getD_eq_getElem?_getD]
    rw [List.getElem?_append_right (by rw [R.len]; exact Nat.le_refl _), R.len]
    simp
  rw [e] at z
  exact z
/-- (..): a new tuple -/
instance (ta : TA) [a : EvA K E ta] : EvE K E (tTup ta) where
  run := fun σ S => match a.run σ S with
    | some (.ret vs S1) => if vs.length ≤ 100000 then alloc S1 (.tup vs) else none
    | some (.exc C d S1) => some (.exc C d S1)
    | none => none
  good := fun {σ S r} h w => by
    split at h
    · rename_i vs S1 h1
      obtain ⟨l1, w1⟩ := ba (a.good h1 w)
      have l1 := of_decide_eq_true l1
      split at h
      · cases h
        show (decide _ && decide _) = true
        simp
        omega
      · cases h
    · rename_i C d S1 h1
      cases h
      exact a.good h1 w
    · cases h
  ok := fun {σ S r ρ H Q} h w R p => by
    split at h
    · rename_i vs S1 h1
      obtain ⟨l1, w1⟩ := ba (a.good h1 w)
      split at h
      · rename_i hl
        refine a.ok h1 w R fun ρ1 H1 R1 F1 => ⟨by rw [List.length_map]; exact Nat.le_trans hl (by decide), fun q hq => ?_⟩
        refine alloc_post (E := E) (o := .tup vs) h w1 R1 ?_ hq
        cases h
        exact fun ρ2 H2 R2 F2 => p ρ2 H2 R2 (F1.trans R1 F2)
      · cases h
    · rename_i C d S1 h1
      cases h
      exact a.ok h1 w R p
    · cases h
instance (ta : TA) [a : EvA K E ta] : EvE K E (tLst ta) where
  run := fun σ S => match a.run σ S with
    | some (.ret vs S1) => if vs.length ≤ 100000 then alloc S1 (.lst vs) else none
    | some (.exc C d S1) => some (.exc C d S1)
    | none => none
  good := fun {σ S r} h w => by
    split at h
    · rename_i vs S1 h1
      obtain ⟨l1, w1⟩ := ba (a.good h1 w)
      have l1 := of_decide_eq_true l1
      split at h
      · cases h
        show (decide _ && decide _) = true
        simp
        omega
      · cases h
    · rename_i C d S1 h1
      cases h
      exact a.good h1 w
    · cases h
  ok := fun {σ S r ρ H Q} h w R p => by
    split at h
    · rename_i vs S1 h1
      obtain ⟨l1, w1⟩ := ba (a.good h1 w)
      split at h
      · rename_i hl
        refine a.ok h1 w R fun ρ1 H1 R1 F1 => ⟨by rw [List.length_map]; exact Nat.le_trans hl (by decide), fun q hq => ?_⟩
        refine alloc_post (E := E) (o := .lst vs) h w1 R1 ?_ hq
        cases h
        exact fun ρ2 H2 R2 F2 => p ρ2 H2 R2 (F1.trans R1 F2)
      · cases h
    · rename_i C d S1 h1
      cases h
      exact a.ok h1 w R p
    · cases h
/-! ### first x, then what comes of it -/
def bindE (r : Option Res) (f : DV → List DO → Option Res) : Option Res := match r with
  | some (.ret v S) => f v S
  | some (.exc C d S) => some (.exc C d S)
  | none => none
theorem bind_good {σ : List (Option DV)} {S : List DO} {r : Res} {te : TE} [e : EvE K E te] {f : DV → List DO → Option Res} (h : bindE (e.run σ S) f = some r) (w : wfS S.length σ = true)
    (g : ∀ {v S1 r}, S.length ≤ S1.length → wf S1.length v = true → f v S1 = some r → good S1.length r = true) : good S.length r = true := by
  unfold bindE at h
  split at h
  · rename_i v S1 h1
    obtain ⟨l1, w1⟩ := ba (e.good h1 w)
    have l1 := of_decide_eq_true l1
    have z := g l1 w1 h
    cases r with
    | ret v2 S2 =>
      obtain ⟨l2, w2⟩ := ba z
      show (decide _ && _) = true
      rw [w2, decide_eq_true (Nat.le_trans l1 (of_decide_eq_true l2))]
      rfl
    | exc C d S2 => exact decide_eq_true (Nat.le_trans l1 (of_decide_eq_true z))
  · rename_i C d S1 h1
    cases h
    exact e.good h1 w
  · cases h
theorem Post.of {ρ ρ1 : List Addr} {S1 : List DO} {H H1 : Hp} {Q : VK} {r : Res} (p : Post K E ρ H Q r) (R : Rep K ρ1 S1 H1) (f : Fr ρ H ρ1 H1) : Post K E ρ1 H1 Q r := by
  cases r with
  | ret v S => exact fun ρ2 H2 R2 F2 => p ρ2 H2 R2 (f.trans R F2)
  | exc C d S => exact PostX.of p R f
theorem bind_ok {σ : List (Option DV)} {S : List DO} {r : Res} {te : TE} [e : EvE K E te] {f : DV → List DO → Option Res} {ρ : List Addr} {H : Hp} {Q : VK} {Q1 : VK} (h : bindE (e.run σ S) f = some r) (w : wfS S.length σ = true) (R : Rep K ρ S H) (p : Post K E ρ H Q r)
    (k : ∀ {v S1 ρ1 H1}, S.length ≤ S1.length → wf S1.length v = true → f v S1 = some r → Rep K ρ1 S1 H1 → Fr ρ H ρ1 H1 → dSt K ρ1 σ = dSt K ρ σ → Post K E ρ1 H1 Q r → Q1 (dV K ρ1 v) H1) : te (dSt K ρ σ) H Q1 := by
  unfold bindE at h
  split at h
  · rename_i v S1 h1
    obtain ⟨l1, w1⟩ := ba (e.good h1 w)
    have l1 := of_decide_eq_true l1
    exact e.ok h1 w R fun ρ1 H1 R1 F1 => k l1 w1 h R1 F1 (F1.le R.len w) (Post.of p R1 F1)
  · rename_i C d S1 h1
    cases h
    exact e.ok h1 w R p
  · cases h
/-- not x -/
instance (te : TE) [e : EvE K E te] : EvE K E (tNotV te) where
  run := fun σ S => bindE (e.run σ S) fun v S1 => match v with
    | .bl b => some (.ret (.bl !b) S1)
    | _ => none
  good := fun {σ S r} h w => bind_good (te := te) h w fun {v S1 r} l wv h => by
    split at h
    · cases h
      show (decide _ && true) = true
      simp
    · cases h
  ok := fun {σ S r ρ H Q} h w R p => bind_ok (te := te) h w R p fun {v S1 ρ1 H1} l wv h R1 F1 eσ p => by
    split at h
    · rename_i b
      cases h
      exact ⟨b, rfl, p ρ1 H1 R1 (Fr.refl _ _)⟩
    · cases h
/-- x and y -/
instance (ta tb : TE) [a : EvE K E ta] [b : EvE K E tb] : EvE K E (tAndV ta tb) where
  run := fun σ S => bindE (a.run σ S) fun v S1 => match v with
    | .bl true => b.run σ S1
    | .bl false => some (.ret (.bl false) S1)
    | _ => none
  good := fun {σ S r} h w => bind_good (te := ta) h w fun {v S1 r} l wv h => by
    split at h
    · exact b.good h (wfS_le l w)
    · cases h
      show (decide _ && true) = true
      simp
    · cases h
  ok := fun {σ S r ρ H Q} h w R p => bind_ok (te := ta) h w R p fun {v S1 ρ1 H1} l wv h R1 F1 eσ p => by
    split at h
    · refine ⟨true, rfl, ?_⟩
      rw [← eσ]
      exact b.ok h (wfS_le l w) R1 p
    · cases h
      exact ⟨false, rfl, p ρ1 H1 R1 (Fr.refl _ _)⟩
    · cases h
instance (ta tb : TE) [a : EvE K E ta] [b : EvE K E tb] : EvE K E (tOrV ta tb) where
  run := fun σ S => bindE (a.run σ S) fun v S1 => match v with
    | .bl false => b.run σ S1
    | .bl true => some (.ret (.bl true) S1)
    | _ => none
  good := fun {σ S r} h w => bind_good (te := ta) h w fun {v S1 r} l wv h => by
    split at h
    · exact b.good h (wfS_le l w)
    · cases h
      show (decide _ && true) = true
      simp
    · cases h
  ok := fun {σ S r ρ H Q} h w R p => bind_ok (te := ta) h w R p fun {v S1 ρ1 H1} l wv h R1 F1 eσ p => by
    split at h
    · refine ⟨false, rfl, ?_⟩
      rw [← eσ]
      exact b.ok h (wfS_le l w) R1 p
    · cases h
      exact ⟨true, rfl, p ρ1 H1 R1 (Fr.refl _ _)⟩
    · cases h
/-! ### two values -/
class EvR (K : PySem.W.Frag) (r : R2) where
  run : List DO → DV → DV → Option Res
  good : ∀ {S x y q}, run S x y = some q → wf S.length x = true → wf S.length y = true → good S.length q = true
  ok : ∀ {S x y q ρ H Q} {E : XK}, run S x y = some q → wf S.length x = true → wf S.length y = true → Rep K ρ S H → Post K E ρ H Q q → r (dV K ρ x) (dV K ρ y) H Q
def opF (f : List DO → DV → DV → Option Res) (ds : List DV) (S : List DO) : Option Res := match ds with
  | [x, y] => f S x y
  | _ => none
theorem opF_eq {f : List DO → DV → DV → Option Res} {ds : List DV} {S : List DO} {q : Res} (h : opF f ds S = some q) : ∃ x y, ds = [x, y] ∧ f S x y = some q := by
  unfold opF at h
  split at h
  · exact ⟨_, _, rfl, h⟩
  · cases h
theorem all2 {n : Nat} {x y : DV} : ([x, y].all (wf n) = true) ↔ wf n x = true ∧ wf n y = true := by simp
instance (r : R2) (ta tb : TE) [a : EvE K E ta] [b : EvE K E tb] [o : EvR K r] : EvE K E (tOp r ta tb) where
  run := fun σ S => bindE (a.run σ S) fun x S1 => bindE (b.run σ S1) fun y S2 => splitR (opF o.run) 4 [x, y] S2
  good := fun {σ S r} h w => bind_good (te := ta) h w fun {x S1 r} l wx h => bind_good (te := tb) h (wfS_le l w) fun {y S2 r} l2 wy h => by
    obtain ⟨ds', q, w', hf, hg, _, _⟩ := splitR_ok (K := K) h (all2.mpr ⟨wf_le l2 wx, wy⟩)
    obtain ⟨x', y', rfl, hf⟩ := opF_eq hf
    exact hg (o.good hf (all2.mp w').1 (all2.mp w').2)
  ok := fun {σ S r ρ H Q} h w R p => bind_ok (te := ta) h w R p fun {x S1 ρ1 H1} l wx h R1 F1 eσ p => by
    rw [← eσ]
    refine bind_ok (te := tb) h (wfS_le l w) R1 p fun {y S2 ρ2 H2} l2 wy h R2 F2 _ p => ?_
    have ex : dV K ρ2 x = dV K ρ1 x := F2.val R1.len wx
    rw [← ex]
    obtain ⟨ds', q, w', hf, hg, he, hp⟩ := splitR_ok (K := K) h (all2.mpr ⟨wf_le l2 wx, wy⟩)
    obtain ⟨x', y', rfl, hf⟩ := opF_eq hf
    have e := he ρ2
    simp only [List.map_cons, List.map_nil, List.cons.injEq, and_true] at e
    rw [← e.1, ← e.2]
    exact o.ok hf (all2.mp w').1 (all2.mp w').2 R2 (hp R2.ln p)
def retS (v : DV) (S : List DO) : Option Res := some (.ret v S)
theorem ret_good {S : List DO} {v : DV} {q : Res} (h : retS v S = some q) (w : wf S.length v = true) : good S.length q = true := by
  cases h
  show (decide _ && _) = true
  rw [w]
  simp
theorem ret_post {ρ : List Addr} {S : List DO} {H : Hp} {Q : VK} {v : DV} {q : Res} (h : retS v S = some q) (R : Rep K ρ S H) (p : Post K E ρ H Q q) : Q (dV K ρ v) H := by
  cases h
  exact p ρ H R (Fr.refl _ _)
/-- numbers, texts, truths, None -/
def scalD (x y : DV) : Bool := match x, y with
  | .non, .non | .bl _, .bl _ | .int _, .int _ | .str _, .str _ => true
  | _, _ => false
theorem scalD_eq {ρ : List Addr} {x y : DV} (h : scalD x y = true) : scal (dV K ρ x) (dV K ρ y) = true ∧ decide (dV K ρ x = dV K ρ y) = decide (x = y) := by
  unfold scalD at h
  split at h
  · exact ⟨rfl, rfl⟩
  · exact ⟨rfl, by simp [dV]⟩
  · exact ⟨rfl, by simp [dV]⟩
  · exact ⟨rfl, by simp [dV]⟩
  · cases h
instance : EvR K rEq where
  run := fun S x y => if scalD x y = true then retS (.bl (decide (x = y))) S else none
  good := fun {S x y q} h wx wy => by
    split at h
    · exact ret_good h rfl
    · cases h
  ok := fun {S x y q ρ H Q E} h wx wy R p => by
    split at h
    · rename_i hs
      obtain ⟨e1, e2⟩ := scalD_eq (K := K) (ρ := ρ) hs
      refine ⟨e1, ?_⟩
      rw [e2]
      exact ret_post (E := E) h R p
    · cases h
instance : EvR K rNe where
  run := fun S x y => if scalD x y = true then retS (.bl (!decide (x = y))) S else none
  good := fun {S x y q} h wx wy => by
    split at h
    · exact ret_good h rfl
    · cases h
  ok := fun {S x y q ρ H Q E} h wx wy R p => by
    split at h
    · rename_i hs
      obtain ⟨e1, e2⟩ := scalD_eq (K := K) (ρ := ρ) hs
      refine ⟨e1, ?_⟩
      rw [e2]
      exact ret_post (E := E) h R p
    · cases h
/-- numbers in, a scalar out -/
instance (f : Int → Int → V) [c : ∀ i j, CstV K (f i j)] : EvR K (rI0 f) where
  run := fun S x y => match x, y with
    | .int i, .int j => retS (c i j).d S
    | _, _ => none
  good := fun {S x y q} h wx wy => by
    split at h
    · exact ret_good h (wf_le (Nat.zero_le _) (c _ _).wf0)
    · cases h
  ok := fun {S x y q ρ H Q E} h wx wy R p => by
    split at h
    · rename_i i j
      refine ⟨i, j, rfl, rfl, ?_⟩
      have z := ret_post (E := E) h R p
      rw [(c i j).ok ρ] at z
      exact z
    · cases h
end RunX
set_option maxHeartbeats 4000000
namespace RunX
open PySem PySem.Spec PyProof.Rows L2 He
variable [Drw] [Cbv]
variable {K : PySem.W.Frag} {E : XK}
/-! ### tests -/
def PostT (K : PySem.W.Frag) (E : XK) (ρ : List Addr) (H : Hp) (Q : Bool → Hp → Prop) : Res → Prop
  | .ret (.bl b) S => ∀ ρ' H', Rep K ρ' S H' → Fr ρ H ρ' H' → Q b H'
  | .ret _ _ => False
  | .exc C d S => PostX K E ρ H C d S
class EvT (K : PySem.W.Frag) (E : XK) (tt : TT) where
  run : List (Option DV) → List DO → Option Res
  good : ∀ {σ S r}, run σ S = some r → wfS S.length σ = true → good S.length r = true
  ok : ∀ {σ S r ρ H Q}, run σ S = some r → wfS S.length σ = true → Rep K ρ S H → PostT K E ρ H Q r → tt (dSt K ρ σ) H Q
theorem postT_e {ρ : List Addr} {H : Hp} {Q : Bool → Hp → Prop} {r : Res} (p : PostT K E ρ H Q r) : Post K E ρ H (fun x H' => ∃ c, x = .bl c ∧ Q c H') r := by
  cases r with
  | ret v S =>
    cases v with
    | bl b => exact fun ρ' H' R F => ⟨b, rfl, p ρ' H' R F⟩
    | _ => exact (show False from p).elim
  | exc C d S => exact p
instance (te : TE) [e : EvE K E te] : EvT K E (tB te) where
  run := e.run
  good := e.good
  ok := fun {σ S r ρ H Q} h w R p => e.ok h w R (postT_e p)
instance (te : TE) [e : EvE K E te] : EvT K E (tTest te) where
  run := e.run
  good := e.good
  ok := fun {σ S r ρ H Q} h w R p => e.ok h w R (postT_e p)
def bindT (r : Option Res) (f : Bool → List DO → Option Res) : Option Res := match r with
  | some (.ret (.bl b) S) => f b S
  | some (.ret _ _) => none
  | some (.exc C d S) => some (.exc C d S)
  | none => none
theorem bindT_good {σ : List (Option DV)} {S : List DO} {r : Res} {tt : TT} [e : EvT K E tt] {f : Bool → List DO → Option Res} (h : bindT (e.run σ S) f = some r) (w : wfS S.length σ = true)
    (g : ∀ {b S1 r}, S.length ≤ S1.length → f b S1 = some r → good S1.length r = true) : good S.length r = true := by
  unfold bindT at h
  split at h
  · rename_i b S1 h1
    obtain ⟨l1, w1⟩ := ba (e.good h1 w)
    have l1 := of_decide_eq_true l1
    have z := g l1 h
    cases r with
    | ret v2 S2 =>
      obtain ⟨l2, w2⟩ := ba z
      show (decide _ && _) = true
      rw [w2, decide_eq_true (Nat.le_trans l1 (of_decide_eq_true l2))]
      rfl
    | exc C d S2 => exact decide_eq_true (Nat.le_trans l1 (of_decide_eq_true z))
  · cases h
  · rename_i C d S1 h1
    cases h
    exact e.good h1 w
  · cases h
theorem PostT.of {ρ ρ1 : List Addr} {S1 : List DO} {H H1 : Hp} {Q : Bool → Hp → Prop} {r : Res} (p : PostT K E ρ H Q r) (R : Rep K ρ1 S1 H1) (f : Fr ρ H ρ1 H1) : PostT K E ρ1 H1 Q r := by
  cases r with
  | ret v S =>
    cases v with
    | bl b => exact fun ρ2 H2 R2 F2 => p ρ2 H2 R2 (f.trans R F2)
    | _ => exact p
  | exc C d S => exact PostX.of p R f
theorem bindT_ok {σ : List (Option DV)} {S : List DO} {r : Res} {tt : TT} [e : EvT K E tt] {f : Bool → List DO → Option Res} {ρ : List Addr} {H : Hp} {Q Q1 : Bool → Hp → Prop} (h : bindT (e.run σ S) f = some r) (w : wfS S.length σ = true) (R : Rep K ρ S H) (p : PostT K E ρ H Q r)
    (k : ∀ {b S1 ρ1 H1}, S.length ≤ S1.length → f b S1 = some r → Rep K ρ1 S1 H1 → Fr ρ H ρ1 H1 → dSt K ρ1 σ = dSt K ρ σ → PostT K E ρ1 H1 Q r → Q1 b H1) : tt (dSt K ρ σ) H Q1 := by
  unfold bindT at h
  split at h
  · rename_i b S1 h1
    obtain ⟨l1, w1⟩ := ba (e.good h1 w)
    have l1 := of_decide_eq_true l1
    exact e.ok h1 w R fun ρ1 H1 R1 F1 => k l1 h R1 F1 (F1.le R.len w) (PostT.of p R1 F1)
  · cases h
  · rename_i C d S1 h1
    cases h
    exact e.ok h1 w R p
  · cases h
instance (ta : TT) [a : EvT K E ta] : EvT K E (tNot ta) where
  run := fun σ S => bindT (a.run σ S) fun b S1 => retS (.bl !b) S1
  good := fun {σ S r} h w => bindT_good (tt := ta) h w fun {b S1 r} l h => ret_good h rfl
  ok := fun {σ S r ρ H Q} h w R p => bindT_ok (tt := ta) h w R p fun {b S1 ρ1 H1} l h R1 F1 eσ p => by
    cases h
    exact p ρ1 H1 R1 (Fr.refl _ _)
instance (ta tb : TT) [a : EvT K E ta] [b : EvT K E tb] : EvT K E (tAnd ta tb) where
  run := fun σ S => bindT (a.run σ S) fun c S1 => if c = true then b.run σ S1 else retS (.bl false) S1
  good := fun {σ S r} h w => bindT_good (tt := ta) h w fun {c S1 r} l h => by
    split at h
    · exact b.good h (wfS_le l w)
    · exact ret_good h rfl
  ok := fun {σ S r ρ H Q} h w R p => bindT_ok (tt := ta) h w R p fun {c S1 ρ1 H1} l h R1 F1 eσ p => by
    cases c with
    | true =>
      show tb _ _ _
      rw [← eσ]
      exact b.ok h (wfS_le l w) R1 p
    | false =>
      cases h
      exact p ρ1 H1 R1 (Fr.refl _ _)
instance (ta tb : TT) [a : EvT K E ta] [b : EvT K E tb] : EvT K E (tOr ta tb) where
  run := fun σ S => bindT (a.run σ S) fun c S1 => if c = true then retS (.bl true) S1 else b.run σ S1
  good := fun {σ S r} h w => bindT_good (tt := ta) h w fun {c S1 r} l h => by
    split at h
    · exact ret_good h rfl
    · exact b.good h (wfS_le l w)
  ok := fun {σ S r ρ H Q} h w R p => bindT_ok (tt := ta) h w R p fun {c S1 ρ1 H1} l h R1 F1 eσ p => by
    cases c with
    | false =>
      show tb _ _ _
      rw [← eσ]
      exact b.ok h (wfS_le l w) R1 p
    | true =>
      cases h
      exact p ρ1 H1 R1 (Fr.refl _ _)
/-! ### statements -/
inductive Out where
  | nx (σ : List (Option DV)) (S : List DO)
  | rt (v : DV) (S : List DO)
  | bk (σ : List (Option DV)) (S : List DO)
  | ct (σ : List (Option DV)) (S : List DO)
  | exc (C : Str) (d : Option Nat) (S : List DO)
def PostS (K : PySem.W.Frag) (E : XK) (ρ : List Addr) (H : Hp) (D : Ends) : Out → Prop
  | .nx σ S => ∀ ρ' H', Rep K ρ' S H' → Fr ρ H ρ' H' → D.nx (dSt K ρ' σ) H'
  | .rt v S => ∀ ρ' H', Rep K ρ' S H' → Fr ρ H ρ' H' → D.rt (dV K ρ' v) H'
  | .bk σ S => ∀ ρ' H', Rep K ρ' S H' → Fr ρ H ρ' H' → D.bk (dSt K ρ' σ) H'
  | .ct σ S => ∀ ρ' H', Rep K ρ' S H' → Fr ρ H ρ' H' → D.ct (dSt K ρ' σ) H'
  | .exc C d S => PostX K E ρ H C d S
def goodS (n : Nat) : Out → Bool
  | .nx σ S => decide (n ≤ S.length) && wfS S.length σ
  | .rt v S => decide (n ≤ S.length) && wf S.length v
  | .bk σ S => decide (n ≤ S.length) && wfS S.length σ
  | .ct σ S => decide (n ≤ S.length) && wfS S.length σ
  | .exc _ _ S => decide (n ≤ S.length)
theorem goodS_le {m n : Nat} (h : m ≤ n) {o : Out} (g : goodS n o = true) : goodS m o = true := by
  cases o with
  | exc C d S => exact decide_eq_true (Nat.le_trans h (of_decide_eq_true g))
  | nx σ S | rt σ S | bk σ S | ct σ S =>
    obtain ⟨l, w⟩ := ba g
    show (decide _ && _) = true
    rw [w, decide_eq_true (Nat.le_trans h (of_decide_eq_true l))]
    rfl
class EvS (K : PySem.W.Frag) (E : XK) (ts : TS) where
  run : List (Option DV) → List DO → Option Out
  good : ∀ {σ S o}, run σ S = some o → wfS S.length σ = true → goodS S.length o = true
  ok : ∀ {σ S o ρ H D}, run σ S = some o → wfS S.length σ = true → Rep K ρ S H → PostS K E ρ H D o → ts D (dSt K ρ σ) H
theorem PostS.of {ρ ρ1 : List Addr} {S1 : List DO} {H H1 : Hp} {D : Ends} {o : Out} (p : PostS K E ρ H D o) (R : Rep K ρ1 S1 H1) (f : Fr ρ H ρ1 H1) : PostS K E ρ1 H1 D o := by
  cases o with
  | exc C d S => exact PostX.of p R f
  | nx σ S => exact fun ρ2 H2 R2 F2 => p ρ2 H2 R2 (f.trans R F2)
  | rt σ S => exact fun ρ2 H2 R2 F2 => p ρ2 H2 R2 (f.trans R F2)
  | bk σ S => exact fun ρ2 H2 R2 F2 => p ρ2 H2 R2 (f.trans R F2)
  | ct σ S => exact fun ρ2 H2 R2 F2 => p ρ2 H2 R2 (f.trans R F2)
instance : EvS K E tNext where
  run := fun σ S => some (.nx σ S)
  good := fun {σ S o} h w => by
    cases h
    show (decide _ && _) = true
    rw [w]
    simp
  ok := fun {σ S o ρ H D} h w R p => by
    cases h
    exact p ρ H R (Fr.refl _ _)
/-- first x, then a statement's end -/
def bindX (r : Option Res) (f : DV → List DO → Option Out) : Option Out := match r with
  | some (.ret v S) => f v S
  | some (.exc C d S) => some (.exc C d S)
  | none => none
theorem bindX_good {σ : List (Option DV)} {S : List DO} {o : Out} {te : TE} [e : EvE K E te] {f : DV → List DO → Option Out} (h : bindX (e.run σ S) f = some o) (w : wfS S.length σ = true)
    (g : ∀ {v S1 o}, S.length ≤ S1.length → wf S1.length v = true → f v S1 = some o → goodS S1.length o = true) : goodS S.length o = true := by
  unfold bindX at h
  split at h
  · rename_i v S1 h1
    obtain ⟨l1, w1⟩ := ba (e.good h1 w)
    have l1 := of_decide_eq_true l1
    exact goodS_le l1 (g l1 w1 h)
  · rename_i C d S1 h1
    cases h
    exact e.good h1 w
  · cases h
theorem bindX_ok {σ : List (Option DV)} {S : List DO} {o : Out} {te : TE} [e : EvE K E te] {f : DV → List DO → Option Out} {ρ : List Addr} {H : Hp} {D : Ends} {Q1 : VK} (h : bindX (e.run σ S) f = some o) (w : wfS S.length σ = true) (R : Rep K ρ S H) (p : PostS K E ρ H D o)
    (k : ∀ {v S1 ρ1 H1}, S.length ≤ S1.length → wf S1.length v = true → f v S1 = some o → Rep K ρ1 S1 H1 → Fr ρ H ρ1 H1 → dSt K ρ1 σ = dSt K ρ σ → PostS K E ρ1 H1 D o → Q1 (dV K ρ1 v) H1) : te (dSt K ρ σ) H Q1 := by
  unfold bindX at h
  split at h
  · rename_i v S1 h1
    obtain ⟨l1, w1⟩ := ba (e.good h1 w)
    have l1 := of_decide_eq_true l1
    exact e.ok h1 w R fun ρ1 H1 R1 F1 => k l1 w1 h R1 F1 (F1.le R.len w) (PostS.of p R1 F1)
  · rename_i C d S1 h1
    cases h
    exact e.ok h1 w R p
  · cases h
instance (te : TE) [e : EvE K E te] : EvS K E (tRet te) where
  run := fun σ S => bindX (e.run σ S) fun v S1 => some (.rt v S1)
  good := fun {σ S o} h w => bindX_good (te := te) h w fun {v S1 o} l wv h => by
    cases h
    show (decide _ && _) = true
    rw [wv]
    simp
  ok := fun {σ S o ρ H D} h w R p => bindX_ok (te := te) h w R p fun {v S1 ρ1 H1} l wv h R1 F1 eσ p => by
    cases h
    exact p ρ1 H1 R1 (Fr.refl _ _)
instance (te : TE) [e : EvE K E te] : EvS K E (tDrop te) where
  run := fun σ S => bindX (e.run σ S) fun v S1 => some (.nx σ S1)
  good := fun {σ S o} h w => bindX_good (te := te) h w fun {v S1 o} l wv h => by
    cases h
    show (decide _ && _) = true
    rw [wfS_le l w]
    simp
  ok := fun {σ S o ρ H D} h w R p => bindX_ok (te := te) h w R p fun {v S1 ρ1 H1} l wv h R1 F1 eσ p => by
    cases h
    have z := p ρ1 H1 R1 (Fr.refl _ _)
    rw [eσ] at z
    exact z
theorem wfS_set {n : Nat} {σ : List (Option DV)} {i : Nat} {v : DV} (w : wfS n σ = true) (wv : wf n v = true) : wfS n (σ.set i (some v)) = true :=
  List.all_eq_true.mpr fun x hx => by
    rcases List.mem_or_eq_of_mem_set hx with q | q
    · exact List.all_eq_true.mp w x q
    · rw [q]
      exact wv
theorem dSt_set {ρ : List Addr} {σ : List (Option DV)} {i : Nat} {v : DV} : dSt K ρ (σ.set i (some v)) = (dSt K ρ σ).set i (some (dV K ρ v)) := by
  unfold dSt
  rw [List.map_set]
  rfl
instance (te : TE) (i : Nat) [e : EvE K E te] : EvS K E (tAsg te (gName i)) where
  run := fun σ S => bindX (e.run σ S) fun v S1 => some (.nx (σ.set i (some v)) S1)
  good := fun {σ S o} h w => bindX_good (te := te) h w fun {v S1 o} l wv h => by
    cases h
    show (decide _ && _) = true
    rw [wfS_set (wfS_le l w) wv]
    simp
  ok := fun {σ S o ρ H D} h w R p => bindX_ok (te := te) h w R p fun {v S1 ρ1 H1} l wv h R1 F1 eσ p => by
    cases h
    have z := p ρ1 H1 R1 (Fr.refl _ _)
    rw [dSt_set, eσ] at z
    exact z
instance (t u : TS) [a : EvS K E t] [b : EvS K E u] : EvS K E (tSeq t u) where
  run := fun σ S => match a.run σ S with
    | some (.nx σ1 S1) => b.run σ1 S1
    | r => r
  good := fun {σ S o} h w => by
    split at h
    · rename_i σ1 S1 h1
      obtain ⟨l1, w1⟩ := ba (a.good h1 w)
      exact goodS_le (of_decide_eq_true l1) (b.good h w1)
    · exact a.good h w
  ok := fun {σ S o ρ H D} h w R p => by
    split at h
    · rename_i σ1 S1 h1
      obtain ⟨l1, w1⟩ := ba (a.good h1 w)
      exact a.ok h1 w R fun ρ1 H1 R1 F1 => b.ok h w1 R1 (PostS.of p R1 F1)
    · rename_i hn
      refine a.ok h w R ?_
      cases o with
      | nx σ1 S1 => exact (hn σ1 S1 h).elim
      | rt v S1 => exact p
      | bk σ1 S1 => exact p
      | ct σ1 S1 => exact p
      | exc C d S1 => exact p
instance (c : TT) (t u : TS) [x : EvT K E c] [a : EvS K E t] [b : EvS K E u] : EvS K E (tIfS c t u) where
  run := fun σ S => match x.run σ S with
    | some (.ret (.bl true) S1) => a.run σ S1
    | some (.ret (.bl false) S1) => b.run σ S1
    | some (.exc C d S1) => some (.exc C d S1)
    | _ => none
  good := fun {σ S o} h w => by
    split at h
    · rename_i S1 h1
      obtain ⟨l1, _⟩ := ba (x.good h1 w)
      have l1 := of_decide_eq_true l1
      exact goodS_le l1 (a.good h (wfS_le l1 w))
    · rename_i S1 h1
      obtain ⟨l1, _⟩ := ba (x.good h1 w)
      have l1 := of_decide_eq_true l1
      exact goodS_le l1 (b.good h (wfS_le l1 w))
    · rename_i C d S1 h1
      cases h
      exact x.good h1 w
    · cases h
  ok := fun {σ S o ρ H D} h w R p => by
    split at h
    · rename_i S1 h1
      obtain ⟨l1, _⟩ := ba (x.good h1 w)
      have l1 := of_decide_eq_true l1
      refine x.ok h1 w R fun ρ1 H1 R1 F1 => ?_
      show t D _ H1
      rw [← F1.le R.len w]
      exact a.ok h (wfS_le l1 w) R1 (PostS.of p R1 F1)
    · rename_i S1 h1
      obtain ⟨l1, _⟩ := ba (x.good h1 w)
      have l1 := of_decide_eq_true l1
      refine x.ok h1 w R fun ρ1 H1 R1 F1 => ?_
      show u D _ H1
      rw [← F1.le R.len w]
      exact b.ok h (wfS_le l1 w) R1 (PostS.of p R1 F1)
    · rename_i C d S1 h1
      cases h
      exact x.ok h1 w R p
    · cases h
end RunX
set_option maxHeartbeats 4000000
namespace RunX
open PySem PySem.Spec PyProof.Rows L2 He
variable [Drw] [Cbv]
variable {K : PySem.W.Frag} {E : XK}
/-! ### defs -/
/-- what a def answers -/
structure DefR where
  run : List DV → List DO → Option Res
  good : ∀ {ds S r}, run ds S = some r → ds.all (wf S.length) = true → good S.length r = true
/-- its promise -/
def spOf (K : PySem.W.Frag) (d : DefR) : Sp := fun vs H Q E => ∃ ρ S ds r, Rep K ρ S H ∧ vs = ds.map (dV K ρ) ∧ ds.all (wf S.length) = true ∧ d.run ds S = some r ∧ Post K E ρ H Q r
class EvSp (K : PySem.W.Frag) (sp : Sp) where
  d : DefR
  ok : ∀ {ds S r ρ H Q E}, d.run ds S = some r → ds.all (wf S.length) = true → Rep K ρ S H → Post K E ρ H Q r → sp (ds.map (dV K ρ)) H Q E
def DefR.split (K : PySem.W.Frag) (d : DefR) : DefR where
  run := splitR d.run 6
  good := fun {ds S r} h w => by
    obtain ⟨ds', q, w', hf, hg, _, _⟩ := splitR_ok (K := K) h w
    exact hg (d.good hf w')
instance (d : DefR) : EvSp K (spOf K d) := ⟨d.split K, fun {ds S r ρ H Q E} h w R p => by
  obtain ⟨ds', q, w', hf, hg, he, hp⟩ := splitR_ok (K := K) h w
  exact ⟨ρ, S, ds', q, R, (he ρ).symm, w', hf, hp R.ln p⟩⟩
def bindA (r : Option ResA) (f : List DV → List DO → Option Res) : Option Res := match r with
  | some (.ret vs S) => f vs S
  | some (.exc C d S) => some (.exc C d S)
  | none => none
theorem bindA_good {σ : List (Option DV)} {S : List DO} {r : Res} {ta : TA} [e : EvA K E ta] {f : List DV → List DO → Option Res} (h : bindA (e.run σ S) f = some r) (w : wfS S.length σ = true)
    (g : ∀ {vs S1 r}, S.length ≤ S1.length → vs.all (wf S1.length) = true → f vs S1 = some r → good S1.length r = true) : good S.length r = true := by
  unfold bindA at h
  split at h
  · rename_i vs S1 h1
    obtain ⟨l1, w1⟩ := ba (e.good h1 w)
    have l1 := of_decide_eq_true l1
    have z := g l1 w1 h
    cases r with
    | ret v2 S2 =>
      obtain ⟨l2, w2⟩ := ba z
      show (decide _ && _) = true
      rw [w2, decide_eq_true (Nat.le_trans l1 (of_decide_eq_true l2))]
      rfl
    | exc C d S2 => exact decide_eq_true (Nat.le_trans l1 (of_decide_eq_true z))
  · rename_i C d S1 h1
    cases h
    exact e.good h1 w
  · cases h
theorem bindA_ok {σ : List (Option DV)} {S : List DO} {r : Res} {ta : TA} [e : EvA K E ta] {f : List DV → List DO → Option Res} {ρ : List Addr} {H : Hp} {Q : VK} {Q1 : List V → Hp → Prop} (h : bindA (e.run σ S) f = some r) (w : wfS S.length σ = true) (R : Rep K ρ S H) (p : Post K E ρ H Q r)
    (k : ∀ {vs S1 ρ1 H1}, S.length ≤ S1.length → vs.all (wf S1.length) = true → f vs S1 = some r → Rep K ρ1 S1 H1 → Fr ρ H ρ1 H1 → Post K E ρ1 H1 Q r → Q1 (vs.map (dV K ρ1)) H1) : ta (dSt K ρ σ) H Q1 := by
  unfold bindA at h
  split at h
  · rename_i v S1 h1
    obtain ⟨l1, w1⟩ := ba (e.good h1 w)
    have l1 := of_decide_eq_true l1
    exact e.ok h1 w R fun ρ1 H1 R1 F1 => k l1 w1 h R1 F1 (Post.of p R1 F1)
  · rename_i C d S1 h1
    cases h
    exact e.ok h1 w R p
  · cases h
/-- f(..), an exception goes on -/
instance (sp : Sp) (ta : TA) [a : EvA K E ta] [s : EvSp K sp] : EvE K E (tCall sp [] E ta) where
  run := fun σ S => bindA (a.run σ S) fun vs S1 => s.d.run vs S1
  good := fun {σ S r} h w => bindA_good (ta := ta) h w fun {vs S1 r} l wv h => s.d.good h wv
  ok := fun {σ S r ρ H Q} h w R p => bindA_ok (ta := ta) h w R p fun {vs S1 ρ1 H1} l wv h R1 F1 p => by
    rw [List.append_nil]
    exact s.ok h wv R1 p
/-- f(..), f raises nothing -/
def onlyRet (r : Option Res) : Option Res := match r with
  | some (.ret v S) => some (.ret v S)
  | _ => none
theorem onlyRet_eq {r : Option Res} {q : Res} (h : onlyRet r = some q) : ∃ v S, r = some (.ret v S) ∧ q = .ret v S := by
  unfold onlyRet at h
  split at h
  · rename_i v S
    cases h
    exact ⟨v, S, rfl, rfl⟩
  · cases h
instance (priority := 1100) (sp : Sp) (ta : TA) [a : EvA K E ta] [s : EvSp K sp] : EvE K E (tCall sp [] E0 ta) where
  run := fun σ S => bindA (a.run σ S) fun vs S1 => onlyRet (s.d.run vs S1)
  good := fun {σ S r} h w => bindA_good (ta := ta) h w fun {vs S1 r} l wv h => by
    obtain ⟨v, S2, h1, rfl⟩ := onlyRet_eq h
    exact s.d.good h1 wv
  ok := fun {σ S r ρ H Q} h w R p => bindA_ok (ta := ta) h w R p fun {vs S1 ρ1 H1} l wv h R1 F1 p => by
    rw [List.append_nil]
    obtain ⟨v, S2, h1, rfl⟩ := onlyRet_eq h
    exact s.ok h1 wv R1 p
/-- a wish of its own name: at it a body is run (E0, within a reading, says that a callee raises nothing) -/
def EN : XK := fun _ _ _ => False
/-! ### a def's own answer out of its body's -/
def endR (o : Option Out) : Option Res := match o with
  | some (.rt v S) => some (.ret v S)
  | some (.nx _ S) => some (.ret .non S)
  | some (.exc C d S) => some (.exc C d S)
  | _ => none
def startD (N : List Str) (ds : List DV) : List (Option DV) := ds.map some ++ List.replicate (N.length - ds.length) none
theorem start_eq {ρ : List Addr} {N : List Str} {ds : List DV} : dSt K ρ (startD N ds) = L2.start N (ds.map (dV K ρ)) := by
  unfold dSt startD L2.start
  simp [List.map_append, List.map_replicate]
theorem start_wf {n : Nat} {N : List Str} {ds : List DV} (w : ds.all (wf n) = true) : wfS n (startD N ds) = true :=
  List.all_eq_true.mpr fun x hx => by
    rcases List.mem_append.mp hx with q | q
    · obtain ⟨v, hv, rfl⟩ := List.mem_map.mp q
      exact List.all_eq_true.mp w v hv
    · rw [(List.mem_replicate.mp q).2]
/-- the body's reading ts E gives the def's answer (run at the wish that nothing is raised: the run itself does not look at the wish) -/
def bodyR (N : List Str) (ps : List Str) (ts : TS) [b : EvS K EN ts] : DefR where
  run := fun ds S => if ds.length = ps.length then endR (b.run (startD N ds) S) else none
  good := fun {ds S r} h w => by
    split at h
    · unfold endR at h
      split at h
      · rename_i v S1 h1
        cases h
        exact b.good h1 (start_wf w)
      · rename_i σ1 S1 h1
        cases h
        obtain ⟨l, _⟩ := ba (b.good h1 (start_wf w))
        show (decide _ && true) = true
        rw [l]
        rfl
      · rename_i C d S1 h1
        cases h
        exact b.good h1 (start_wf w)
      · cases h
    · cases h
theorem body_ok {N ps : List Str} {ts ts' : TS} [b : EvS K EN ts] [c : EvS K E ts'] (e : c.run = b.run) {vs : List V} {H : Hp} {Q : VK} (h : spOf K (bodyR (K := K) N ps ts) vs H Q E) : ts' { nx := fun _ H' => Q .non H', rt := Q } (L2.start N vs) H := by
  obtain ⟨ρ, S, ds, r, R, rfl, w, h, p⟩ := h
  simp only [bodyR] at h
  split at h
  · rw [← start_eq]
    unfold endR at h
    split at h
    · rename_i v S1 h1
      cases h
      rw [← e] at h1
      exact c.ok h1 (start_wf w) R p
    · rename_i σ1 S1 h1
      cases h
      rw [← e] at h1
      exact c.ok h1 (start_wf w) R p
    · rename_i C d S1 h1
      cases h
      rw [← e] at h1
      exact c.ok h1 (start_wf w) R p
    · cases h
  · cases h
theorem body_len {N ps : List Str} {ts : TS} [b : EvS K EN ts] {vs : List V} {H : Hp} {Q : VK} (h : spOf K (bodyR (K := K) N ps ts) vs H Q E) : vs.length = ps.length := by
  obtain ⟨ρ, S, ds, r, R, rfl, w, h, p⟩ := h
  simp only [bodyR] at h
  split at h
  · rename_i hl
    rw [List.length_map]
    exact hl
  · cases h
/-! ### built-in functions -/
class EvB (K : PySem.W.Frag) (r : List V → Hp → VK → Prop) where
  run : List DV → List DO → Option Res
  good : ∀ {ds S q}, run ds S = some q → ds.all (wf S.length) = true → good S.length q = true
  ok : ∀ {ds S q ρ H Q} {E : XK}, run ds S = some q → ds.all (wf S.length) = true → Rep K ρ S H → Post K E ρ H Q q → r (ds.map (dV K ρ)) H Q
instance (r : List V → Hp → VK → Prop) (ta : TA) [a : EvA K E ta] [b : EvB K r] : EvE K E (tCB r ta) where
  run := fun σ S => bindA (a.run σ S) fun vs S1 => splitR b.run 4 vs S1
  good := fun {σ S r} h w => bindA_good (ta := ta) h w fun {vs S1 r} l wv h => by
    obtain ⟨ds', q, w', hf, hg, _, _⟩ := splitR_ok (K := K) h wv
    exact hg (b.good hf w')
  ok := fun {σ S r ρ H Q} h w R p => bindA_ok (ta := ta) h w R p fun {vs S1 ρ1 H1} l wv h R1 F1 p => by
    obtain ⟨ds', q, w', hf, hg, he, hp⟩ := splitR_ok (K := K) h wv
    rw [← he ρ1]
    exact b.ok hf w' R1 (hp R1.ln p)
/-- the object at n -/
theorem Rep.get {ρ : List Addr} {S : List DO} {H : Hp} {n : Nat} {o : DO} (R : Rep K ρ S H) (h : S[n]? = some o) (po : plainO o = true := by rfl) : H (ρ.getD n 0) = some (dO K ρ o) ∧ wfO S.length o = true := by
  have hn : n < ρ.length := by
    rw [R.len]
    exact (List.getElem?_eq_some_iff.mp h).1
  obtain ⟨u, eu, sh⟩ := R.obj n o (ρ.getD n 0) h (by rw [List.getD_eq_getElem?_getD, List.getElem?_eq_getElem hn]; rfl)
  rw [sh.eq po] at eu
  exact ⟨eu, R.wf o (List.mem_of_getElem? h)⟩
/-- the type's name of a value -/
def tyD (S : List DO) : DV → Option String
  | .non => some "NoneType"
  | .bl _ => some "bool"
  | .int _ => some "int"
  | .str _ => some "str"
  | .ref n => (match S[n]? with
    | some (.lst _) => some "list"
    | some (.tup _) => some "tuple"
    | some (.dK _) => some "dict"
    | some (.dT _) => some "dict"
    | _ => none)
  | _ => none
theorem tyD_ok {ρ : List Addr} {S : List DO} {H : Hp} {v : DV} {t : String} (R : Rep K ρ S H) (h : tyD S v = some t) : TyOf K H (dV K ρ v) (.type t) := by
  unfold tyD at h
  split at h
  · cases h; exact .non
  · cases h; exact .bl _
  · cases h; exact .int _
  · cases h; exact .str _
  · split at h
    · rename_i n _ _ e; cases h; exact .lst (R.get e).1
    · rename_i n _ _ e; cases h; exact .tup (R.get e).1
    · rename_i n _ _ e; cases h; exact .dK (R.get e).1
    · rename_i n _ _ e; cases h; exact .dT (R.get e).1
    · cases h
  · cases h
def lenD (S : List DO) : DV → Option Nat
  | .ref n => (match S[n]? with
    | some (.lst xs) => some xs.length
    | some (.tup xs) => some xs.length
    | _ => none)
  | _ => none
end RunX
set_option maxHeartbeats 4000000
namespace RunX
open PySem PySem.Spec PyProof.Rows L2 He
variable [Drw] [Cbv]
variable {K : PySem.W.Frag} {E : XK}
instance : EvB K (rIsi K) where
  run := fun ds S => match ds with
    | [x, .ty n] => (match tyD S x with
      | some t => (match PySem.W.kitOne K (.type t) (.type n) with
        | some b => retS (.bl b) S
        | none => none)
      | none => none)
    | _ => none
  good := fun {ds S q} h w => by
    split at h
    · split at h
      · split at h
        · exact ret_good h rfl
        · cases h
      · cases h
    · cases h
  ok := fun {ds S q ρ H Q E} h w R p => by
    split at h
    · rename_i x n
      split at h
      · rename_i t ht
        split at h
        · rename_i b hb
          exact ⟨_, _, _, _, b, rfl, .ty n, .base (tyD_ok R ht), hb, ret_post (E := E) h R p⟩
        · cases h
      · cases h
    · cases h
instance : EvB K (rLen K) where
  run := fun ds S => match ds with
    | [.str y] => if y.length ≤ 100000 then retS (.int y.length) S else none
    | [.ref n] => (match S[n]? with
      | some (.lst xs) => retS (.int xs.length) S
      | some (.tup xs) => retS (.int xs.length) S
      | _ => none)
    | _ => none
  good := fun {ds S q} h w => by
    split at h
    · split at h
      · exact ret_good h rfl
      · cases h
    · split at h
      · exact ret_good h rfl
      · exact ret_good h rfl
      · cases h
    · cases h
  ok := fun {ds S q ρ H Q E} h w R p => by
    split at h
    · rename_i y
      split at h
      · rename_i hl
        exact ⟨_, y.length, rfl, ⟨Nat.le_trans hl (by decide), rfl⟩, ret_post (E := E) h R p⟩
      · cases h
    · rename_i n
      split at h
      · rename_i xs e
        exact ⟨_, xs.length, rfl, .inl ⟨_, SqL.of (R.get e).1, by rw [List.length_map]⟩, ret_post (E := E) h R p⟩
      · rename_i xs e
        exact ⟨_, xs.length, rfl, .inr ⟨_, SqT.of (R.get e).1, by rw [List.length_map]⟩, ret_post (E := E) h R p⟩
      · cases h
    · cases h
theorem atI_map {ρ : List Addr} {xs : List DV} {i : Int} {v : DV} (h : atI xs i = some v) : atI (xs.map (dV K ρ)) i = some (dV K ρ v) := by
  unfold atI at h ⊢
  rw [List.length_map]
  obtain ⟨j, h1, h2⟩ := Option.bind_eq_some_iff.mp h
  refine Option.bind_eq_some_iff.mpr ⟨j, h1, ?_⟩
  rw [List.getElem?_map, h2]
  rfl
instance : EvR K (rIxL K) where
  run := fun S x y => match x, y with
    | .ref n, .int i => (match S[n]? with
      | some (.lst xs) => (match atI xs i with
        | some v => if wf S.length v = true then retS v S else none
        | none => none)
      | _ => none)
    | _, _ => none
  good := fun {S x y q} h wx wy => by
    split at h
    · split at h
      · split at h
        · split at h
          · rename_i hw
            exact ret_good h hw
          · cases h
        · cases h
      · cases h
    · cases h
  ok := fun {S x y q ρ H Q E} h wx wy R p => by
    split at h
    · split at h
      · rename_i xs e
        split at h
        · rename_i v hv
          split at h
          · exact ⟨_, _, _, _, rfl, rfl, SqL.of (R.get e).1, atI_map hv, ret_post (E := E) h R p⟩
          · cases h
        · cases h
      · cases h
    · cases h
instance : EvR K (rIxT K) where
  run := fun S x y => match x, y with
    | .ref n, .int i => (match S[n]? with
      | some (.tup xs) => (match atI xs i with
        | some v => if wf S.length v = true then retS v S else none
        | none => none)
      | _ => none)
    | _, _ => none
  good := fun {S x y q} h wx wy => by
    split at h
    · split at h
      · split at h
        · split at h
          · rename_i hw
            exact ret_good h hw
          · cases h
        · cases h
      · cases h
    · cases h
  ok := fun {S x y q ρ H Q E} h wx wy R p => by
    split at h
    · split at h
      · rename_i xs e
        split at h
        · rename_i v hv
          split at h
          · exact ⟨_, _, _, _, rfl, rfl, SqT.of (R.get e).1, atI_map hv, ret_post (E := E) h R p⟩
          · cases h
        · cases h
      · cases h
    · cases h
end RunX
set_option maxHeartbeats 4000000
namespace RunX
open PySem PySem.Spec PyProof.Rows L2 He
variable [Drw] [Cbv]
variable {K : PySem.W.Frag} {E : XK}
/-! ### targets -/
class EvG (K : PySem.W.Frag) (g : TG) where
  run : DV → List (Option DV) → List DO → Option (List (Option DV))
  wf_ : ∀ {v σ S σ'}, run v σ S = some σ' → wf S.length v = true → wfS S.length σ = true → wfS S.length σ' = true
  ok : ∀ {v σ S σ' ρ H Q}, run v σ S = some σ' → Rep K ρ S H → Q (dSt K ρ σ') H → g (dV K ρ v) (dSt K ρ σ) H Q
instance (i : Nat) : EvG K (gName i) where
  run := fun v σ _ => some (σ.set i (some v))
  wf_ := fun {v σ S σ'} h wv w => by
    cases h
    exact wfS_set w wv
  ok := fun {v σ S σ' ρ H Q} h R q => by
    cases h
    show Q _ H
    rw [← dSt_set]
    exact q
/-! ### what a for goes over -/
inductive SrcD where
  | lst (n : Nat)
  | tup (n : Nat)
  | txt (z : Str)
def SrcD.at : SrcD → Nat → List DO → Option (Option DV)
  | .lst n, i, S => (match S[n]? with
    | some (.lst xs) => some xs[i]?
    | _ => none)
  | .tup n, i, S => (match S[n]? with
    | some (.tup xs) => some xs[i]?
    | _ => none)
  | .txt z, i, _ => some ((z.cps[i]?).map fun c => .str ⟨#[c]⟩)
def SrcD.len : SrcD → List DO → Option Nat
  | .lst n, S => (match S[n]? with
    | some (.lst xs) => some xs.length
    | _ => none)
  | .tup n, S => (match S[n]? with
    | some (.tup xs) => some xs.length
    | _ => none)
  | .txt z, _ => if z.cps.all (· < 128) = true then some z.cps.size else none
def kD : Key → DV
  | .inl i => .int i
  | .inr x => .str x
inductive ItD where
  | lst (n : Nat)
  | tup (n : Nat)
  | rng (lo : Int) (n : Nat)
  | str (z : Str)
  | keys (n : Nat)
  | keysT (n : Nat)
  | vals (n : Nat)
  | items (n : Nat)
  | enum (n : Nat)
  | zip (a b : SrcD)
/-- its i-th turn, and the objects behind it: none: not told; some none: the end -/
def ItD.at : ItD → Nat → List DO → Option (Option (DV × List DO))
  | .lst n, i, S => (match S[n]? with
    | some (.lst xs) => some (xs[i]?.map fun x => (x, S))
    | _ => none)
  | .tup n, i, S => (match S[n]? with
    | some (.tup xs) => some (xs[i]?.map fun x => (x, S))
    | _ => none)
  | .rng lo n, i, S => if i < n then some (some (.int (lo + i), S)) else some none
  | .str z, i, S => some ((z.cps[i]?).map fun c => (.str ⟨#[c]⟩, S))
  | .keys n, i, S => (match S[n]? with
    | some (.frz kvs) => some (kvs[i]?.map fun x => (kD x.1, S))
    | _ => none)
  | .keysT n, i, S => (match S[n]? with
    | some (.frzT kvs) => some (kvs[i]?.map fun x => (.ref S.length, S ++ [.tup (x.1.map kD)]))
    | _ => none)
  | .vals n, i, S => (match S[n]? with
    | some (.frz kvs) => some (kvs[i]?.map fun x => (x.2, S))
    | _ => none)
  | .items n, i, S => (match S[n]? with
    | some (.frz kvs) => some (kvs[i]?.map fun x => (.ref S.length, S ++ [.tup [kD x.1, x.2]]))
    | _ => none)
  | .enum n, i, S => (match S[n]? with
    | some (.lst xs) => some (xs[i]?.map fun x => (.ref S.length, S ++ [.tup [.int (i : Nat), x]]))
    | _ => none)
  | .zip a b, i, S => (match a.len S, b.len S with
    | some n, some m => if i < n ∧ i < m then (match a.at i S, b.at i S with
      | some (some x), some (some y) => some (some (.ref S.length, S ++ [.tup [x, y]]))
      | _, _ => none) else if i ≤ n ∧ i ≤ m ∧ (i = n ∨ i = m) then some none else none
    | _, _ => none)
/-- J is it, seen from ρ -/
structure ItOk (K : PySem.W.Frag) (ρ : List Addr) (H0 : Hp) (it : ItD) (J : It) : Prop where
  stop : ∀ {ρ' S H i}, Fr ρ H0 ρ' H → Rep K ρ' S H → it.at i S = some none → J.stop i H
  go : ∀ {ρ' S H i x}, Fr ρ H0 ρ' H → Rep K ρ' S H → it.at i S = some (some x) → J.go i H
  yld : ∀ {ρ' S S' H H' i x v}, Fr ρ H0 ρ' H → Rep K ρ' S H → it.at i S = some (some (x, S')) → J.yld i H v H' → ∃ ρ'', Rep K ρ'' S' H' ∧ Fr ρ' H ρ'' H' ∧ v = dV K ρ'' x
class EvI (K : PySem.W.Frag) (E : XK) (wi : TI) where
  run : List (Option DV) → List DO → Option (Sum (ItD × List DO) Res)
  good : ∀ {σ S it S1}, run σ S = some (.inl (it, S1)) → wfS S.length σ = true → S.length ≤ S1.length
  ok : ∀ {σ S q ρ H} {Qj : It → Hp → Prop}, run σ S = some q → wfS S.length σ = true → Rep K ρ S H →
    (match q with
      | .inl (it, S1) => ∀ ρ' H' J, Rep K ρ' S1 H' → Fr ρ H ρ' H' → ItOk K ρ' H' it J → Qj J H'
      | .inr (.exc C d S1) => PostX K E ρ H C d S1
      | .inr _ => False) → wi (dSt K ρ σ) H Qj
theorem Fr.at {ρ ρ' : List Addr} {H H' : Hp} {n : Nat} (f : Fr ρ H ρ' H') (h : n < ρ.length) : ρ'.getD n 0 = ρ.getD n 0 := by
  obtain ⟨m, e, _⟩ := f.pre
  rw [e]
  exact app_getD h
/-- nothing is laid -/
theorem yld0 {ρ : List Addr} {S S' : List DO} {H H' : Hp} {q : Option DV} {x : DV} {v : V} (R : Rep K ρ S H) (h : q.map (fun x => (x, S)) = some (x, S')) (eH : H' = H) (f : ∀ y, q = some y → v = dV K ρ y) : ∃ ρ'', Rep K ρ'' S' H' ∧ Fr ρ H ρ'' H' ∧ v = dV K ρ'' x := by
  obtain ⟨y, hy, e⟩ := Option.map_eq_some_iff.mp h
  cases e
  subst eH
  exact ⟨ρ, R, Fr.refl _ _, f _ hy⟩
theorem at_lst {n i : Nat} {S : List DO} {q} (h : (ItD.lst n).at i S = some q) : ∃ xs, S[n]? = some (.lst xs) ∧ xs[i]?.map (fun x => (x, S)) = q := by
  have h' : (match S[n]? with
    | some (.lst xs) => some (xs[i]?.map fun x => (x, S))
    | _ => none) = some q := h
  split at h'
  · rename_i xs hs
    exact ⟨xs, hs, Option.some.inj h'⟩
  · cases h'
theorem at_tup {n i : Nat} {S : List DO} {q} (h : (ItD.tup n).at i S = some q) : ∃ xs, S[n]? = some (.tup xs) ∧ xs[i]?.map (fun x => (x, S)) = q := by
  have h' : (match S[n]? with
    | some (.tup xs) => some (xs[i]?.map fun x => (x, S))
    | _ => none) = some q := h
  split at h'
  · rename_i xs hs
    exact ⟨xs, hs, Option.some.inj h'⟩
  · cases h'
theorem itl_ok {ρ : List Addr} {H0 : Hp} {n : Nat} (hn : n < ρ.length) : ItOk K ρ H0 (.lst n) (Itl K (ρ.getD n 0)) where
  stop := fun {ρ' S H i} e R h => by
    obtain ⟨xs, hs, hx⟩ := at_lst h
    have g := (R.get hs).1
    rw [e.at hn] at g
    exact ⟨_, SqL.of g, by rw [List.length_map]; exact List.getElem?_eq_none_iff.mp (Option.map_eq_none_iff.mp hx)⟩
  go := fun {ρ' S H i x} e R h => by
    obtain ⟨xs, hs, hx⟩ := at_lst h
    obtain ⟨y, hy, _⟩ := Option.map_eq_some_iff.mp hx
    have g := (R.get hs).1
    rw [e.at hn] at g
    exact ⟨_, _, SqL.of g, by rw [List.getElem?_map, hy]; rfl⟩
  yld := fun {ρ' S S' H H' i x v} e R h y => by
    obtain ⟨xs, hs, hx⟩ := at_lst h
    have g := (R.get hs).1
    rw [e.at hn] at g
    obtain ⟨eH, f⟩ := y
    refine yld0 R hx eH fun y hy => ?_
    have z := f _ (SqL.of g)
    rw [List.getElem?_map, hy] at z
    exact (Option.some.inj z).symm
theorem itt_ok {ρ : List Addr} {H0 : Hp} {n : Nat} (hn : n < ρ.length) : ItOk K ρ H0 (.tup n) (Itt K (ρ.getD n 0)) where
  stop := fun {ρ' S H i} e R h => by
    obtain ⟨xs, hs, hx⟩ := at_tup h
    have g := (R.get hs).1
    rw [e.at hn] at g
    exact ⟨_, SqT.of g, by rw [List.length_map]; exact List.getElem?_eq_none_iff.mp (Option.map_eq_none_iff.mp hx)⟩
  go := fun {ρ' S H i x} e R h => by
    obtain ⟨xs, hs, hx⟩ := at_tup h
    obtain ⟨y, hy, _⟩ := Option.map_eq_some_iff.mp hx
    have g := (R.get hs).1
    rw [e.at hn] at g
    exact ⟨_, _, SqT.of g, by rw [List.getElem?_map, hy]; rfl⟩
  yld := fun {ρ' S S' H H' i x v} e R h y => by
    obtain ⟨xs, hs, hx⟩ := at_tup h
    have g := (R.get hs).1
    rw [e.at hn] at g
    obtain ⟨eH, f⟩ := y
    refine yld0 R hx eH fun y hy => ?_
    have z := f _ (SqT.of g)
    rw [List.getElem?_map, hy] at z
    exact (Option.some.inj z).symm
theorem str_ok {ρ : List Addr} {H0 : Hp} {z : Str} : ItOk K ρ H0 (.str z) (Its z) where
  stop := fun {ρ' S H i} e R h => by
    have h' : (z.cps[i]?).map (fun c => (DV.str ⟨#[c]⟩, S)) = none := Option.some.inj h
    exact Array.getElem?_eq_none_iff.mp (Option.map_eq_none_iff.mp h')
  go := fun {ρ' S H i x} e R h => by
    have h' : (z.cps[i]?).map (fun c => (DV.str ⟨#[c]⟩, S)) = some x := Option.some.inj h
    obtain ⟨c, hc, _⟩ := Option.map_eq_some_iff.mp h'
    exact (Array.getElem?_eq_some_iff.mp hc).1
  yld := fun {ρ' S S' H H' i x v} e R h y => by
    have h' : (z.cps[i]?).map (fun c => (DV.str ⟨#[c]⟩, S)) = some (x, S') := Option.some.inj h
    obtain ⟨c, hc, hx⟩ := Option.map_eq_some_iff.mp h'
    obtain ⟨eH, c2, hc2, hv⟩ := y
    rw [hc] at hc2
    cases hc2
    cases hx
    subst eH
    exact ⟨ρ', R, Fr.refl _ _, hv⟩
/-! ### the loop -/
/-- k turns at most, from the i-th on -/
def loopD (f : List (Option DV) → List DO → Option Out) (g : DV → List (Option DV) → List DO → Option (List (Option DV))) (it : ItD) : Nat → Nat → List (Option DV) → List DO → Option Out
  | 0, _, _, _ => none
  | k + 1, i, σ, S => match it.at i S with
    | none => none
    | some none => some (.nx σ S)
    | some (some (x, S0)) => if S.length ≤ S0.length ∧ wf S0.length x = true then (match g x σ S0 with
      | none => none
      | some σ1 => (match f σ1 S0 with
        | some (.nx σ2 S2) => loopD f g it k (i + 1) σ2 S2
        | some (.ct σ2 S2) => loopD f g it k (i + 1) σ2 S2
        | some (.bk σ2 S2) => some (.nx σ2 S2)
        | r => r)) else none
section
variable {g : TG} {tb : TS} [eg : EvG K g] [eb : EvS K E tb]
theorem loop_good {it : ItD} : ∀ {k i : Nat} {σ : List (Option DV)} {S : List DO} {o : Out}, loopD eb.run eg.run it k i σ S = some o → wfS S.length σ = true → goodS S.length o = true
  | 0, _, _, _, _, h, _ => by
    unfold loopD at h
    cases h
  | k + 1, i, σ, S, o, h, w => by
    unfold loopD at h
    split at h
    · cases h
    · cases h
      show (decide _ && _) = true
      rw [w]
      simp
    · rename_i x S0 hx
      split at h
      · rename_i wx
        split at h
        · cases h
        · rename_i σ1 h1
          have w1 := eg.wf_ h1 wx.2 (wfS_le wx.1 w)
          split at h
          · rename_i σ2 S2 h2
            obtain ⟨l2, w2⟩ := ba (eb.good h2 w1)
            exact goodS_le (Nat.le_trans wx.1 (of_decide_eq_true l2)) (loop_good h w2)
          · rename_i σ2 S2 h2
            obtain ⟨l2, w2⟩ := ba (eb.good h2 w1)
            exact goodS_le (Nat.le_trans wx.1 (of_decide_eq_true l2)) (loop_good h w2)
          · rename_i σ2 S2 h2
            cases h
            have z : goodS S0.length (Out.bk σ2 S2) = true := eb.good h2 w1
            exact goodS_le wx.1 (o := .nx σ2 S2) z
          · exact goodS_le wx.1 (eb.good h w1)
      · cases h
theorem loop_ok {it : ItD} {J : It} {D : Ends} {ρ0 : List Addr} {H : Hp} (ok : ItOk K ρ0 H it J) {o : Out} {k : Nat} {σ : List (Option DV)} {S : List DO} (h : loopD eb.run eg.run it k 0 σ S = some o) (w : wfS S.length σ = true) (R : Rep K ρ0 S H) (p : PostS K E ρ0 H D o) :
    ∃ W : Nat → Nat → L2.St → Hp → Prop, (∃ m, W 0 m (dSt K ρ0 σ) H) ∧ ∀ i m σ H, W i m σ H →
      (J.stop i H ∧ D.nx σ H) ∨ (J.go i H ∧ ∃ N : L2.St → Hp → Prop, (∀ σ' H', N σ' H' → ∃ m', m' < m ∧ W (i + 1) m' σ' H') ∧ ∀ x H', J.yld i H x H' → g x σ H' fun σ2 H2 => tb { D with nx := N, ct := N, bk := D.nx } σ2 H2) := by
  refine ⟨fun i m σ' H' => ∃ ρ σd Sd, Fr ρ0 H ρ H' ∧ σ' = dSt K ρ σd ∧ Rep K ρ Sd H' ∧ wfS Sd.length σd = true ∧ loopD eb.run eg.run it m i σd Sd = some o ∧ PostS K E ρ H' D o, ⟨k, ρ0, σ, S, Fr.refl _ _, rfl, R, w, h, p⟩, ?_⟩
  rintro i m σ' H' ⟨ρ, σd, Sd, e, rfl, R, w, h, p⟩
  cases m with
  | zero =>
    unfold loopD at h
    cases h
  | succ k =>
    unfold loopD at h
    split at h
    · cases h
    · rename_i hx
      cases h
      exact .inl ⟨ok.stop e R hx, p ρ H' R (Fr.refl _ _)⟩
    · rename_i x S0 hx
      split at h
      · rename_i wx
        split at h
        · cases h
        · rename_i σ1 h1
          have w1 := eg.wf_ h1 wx.2 (wfS_le wx.1 w)
          refine .inr ⟨ok.go e R hx, fun σ'' H'' => ∃ ρ σd Sd, Fr ρ0 H ρ H'' ∧ σ'' = dSt K ρ σd ∧ Rep K ρ Sd H'' ∧ wfS Sd.length σd = true ∧ loopD eb.run eg.run it k (i + 1) σd Sd = some o ∧ PostS K E ρ H'' D o, fun σ'' H'' z => ⟨k, Nat.lt_succ_self k, z⟩, fun x' H'' y => ?_⟩
          obtain ⟨ρa, Ra, Fa, rfl⟩ := ok.yld e R hx y
          rw [← Fa.le R.len w]
          have p := PostS.of p Ra Fa
          refine eg.ok h1 Ra ?_
          have Fb := e.trans R Fa
          split at h
          · rename_i σ2 S2 h2
            obtain ⟨_, w2⟩ := ba (eb.good h2 w1)
            refine eb.ok h2 w1 Ra fun ρ2 H2 R2 F2 => ?_
            exact ⟨ρ2, σ2, S2, Fb.trans Ra F2, rfl, R2, w2, h, PostS.of p R2 F2⟩
          · rename_i σ2 S2 h2
            obtain ⟨_, w2⟩ := ba (eb.good h2 w1)
            refine eb.ok h2 w1 Ra fun ρ2 H2 R2 F2 => ?_
            exact ⟨ρ2, σ2, S2, Fb.trans Ra F2, rfl, R2, w2, h, PostS.of p R2 F2⟩
          · rename_i σ2 S2 h2
            cases h
            exact eb.ok h2 w1 Ra p
          · rename_i n1 n2 n3
            refine eb.ok h w1 Ra ?_
            cases o with
            | nx σ2 S2 => exact (n1 σ2 S2 h).elim
            | ct σ2 S2 => exact (n2 σ2 S2 h).elim
            | bk σ2 S2 => exact (n3 σ2 S2 h).elim
            | rt v S2 => exact p
            | exc C d S2 => exact p
      · cases h
instance (wi : TI) [ei : EvI K E wi] : EvS K E (tFor wi g tb) where
  run := fun σ S => match ei.run σ S with
    | some (.inl (it, S1)) => loopD eb.run eg.run it 4096 0 σ S1
    | some (.inr (.exc C d S1)) => if S.length ≤ S1.length then some (.exc C d S1) else none
    | _ => none
  good := fun {σ S o} h w => by
    split at h
    · rename_i it S1 h1
      have l := ei.good h1 w
      exact goodS_le l (loop_good h (wfS_le l w))
    · split at h
      · rename_i l
        cases h
        exact decide_eq_true l
      · cases h
    · cases h
  ok := fun {σ S o ρ H D} h w R p => by
    split at h
    · rename_i it S1 h1
      have l := ei.good h1 w
      refine ei.ok h1 w R fun ρ1 H1 J R1 F1 okJ => ?_
      rw [← F1.le R.len w]
      exact loop_ok okJ h (wfS_le l w) R1 (PostS.of p R1 F1)
    · rename_i C d S1 h1
      split at h
      · cases h
        exact ei.ok h1 w R p
      · cases h
    · cases h
end
/-! ### lists, tuples, texts, ranges -/
theorem Fr.lt {ρ : List Addr} {S : List DO} {H : Hp} {n : Nat} {o : DO} (R : Rep K ρ S H) (h : S[n]? = some o) : n < ρ.length := by
  rw [R.len]
  exact (List.getElem?_eq_some_iff.mp h).1
instance (te : TE) [e : EvE K E te] : EvI K E (iList K te) where
  run := fun σ S => match e.run σ S with
    | some (.ret (.ref n) S1) => (match S1[n]? with
      | some (.lst _) => some (.inl (.lst n, S1))
      | _ => none)
    | some (.exc C d S1) => some (.inr (.exc C d S1))
    | _ => none
  good := fun {σ S it S1} h w => by
    split at h
    · rename_i n S2 h1
      split at h
      · cases h
        exact of_decide_eq_true (ba (e.good h1 w)).1
      · cases h
    · cases h
    · cases h
  ok := fun {σ S q ρ H Qj} h w R p => by
    split at h
    · rename_i n S1 h1
      split at h
      · rename_i xs hs
        cases h
        refine e.ok h1 w R fun ρ1 H1 R1 F1 => ⟨_, rfl, ⟨_, SqL.of (R1.get hs).1⟩, p ρ1 H1 _ R1 F1 (itl_ok (Fr.lt R1 hs))⟩
      · cases h
    · rename_i C d S1 h1
      cases h
      exact e.ok h1 w R p
    · cases h
instance (te : TE) [e : EvE K E te] : EvI K E (iTup K te) where
  run := fun σ S => match e.run σ S with
    | some (.ret (.ref n) S1) => (match S1[n]? with
      | some (.tup _) => some (.inl (.tup n, S1))
      | _ => none)
    | some (.exc C d S1) => some (.inr (.exc C d S1))
    | _ => none
  good := fun {σ S it S1} h w => by
    split at h
    · rename_i n S2 h1
      split at h
      · cases h
        exact of_decide_eq_true (ba (e.good h1 w)).1
      · cases h
    · cases h
    · cases h
  ok := fun {σ S q ρ H Qj} h w R p => by
    split at h
    · rename_i n S1 h1
      split at h
      · rename_i xs hs
        cases h
        refine e.ok h1 w R fun ρ1 H1 R1 F1 => ⟨_, rfl, ⟨_, SqT.of (R1.get hs).1⟩, p ρ1 H1 _ R1 F1 (itt_ok (Fr.lt R1 hs))⟩
      · cases h
    · rename_i C d S1 h1
      cases h
      exact e.ok h1 w R p
    · cases h
instance (te : TE) [e : EvE K E te] : EvI K E (iStr te) where
  run := fun σ S => match e.run σ S with
    | some (.ret (.str z) S1) => some (.inl (.str z, S1))
    | some (.exc C d S1) => some (.inr (.exc C d S1))
    | _ => none
  good := fun {σ S it S1} h w => by
    split at h
    · rename_i n S2 h1
      cases h
      exact of_decide_eq_true (ba (e.good h1 w)).1
    · cases h
    · cases h
  ok := fun {σ S q ρ H Qj} h w R p => by
    split at h
    · rename_i z S1 h1
      cases h
      exact e.ok h1 w R fun ρ1 H1 R1 F1 => ⟨_, rfl, p ρ1 H1 _ R1 F1 str_ok⟩
    · rename_i C d S1 h1
      cases h
      exact e.ok h1 w R p
    · cases h
end RunX
set_option maxHeartbeats 4000000
namespace RunX
open PySem PySem.Spec PyProof.Rows L2 He
variable [Drw] [Cbv]
variable {K : PySem.W.Frag} {E : XK}
theorem Rep.put0 {ρ : List Addr} {S : List DO} {H : Hp} {n : Nat} {o o' : DO} {u' : HO} (R : Rep K ρ S H) (h : S[n]? = some o) (w : wfO S.length o' = true) (sh : Sh K ρ o' u') (nt : notTup o = true := by rfl) : Rep K ρ (S.set n o') (upd H (ρ.getD n 0) u') := by
  have hn : n < ρ.length := Fr.lt R h
  have ga : ρ[n]? = some (ρ.getD n 0) := by
    rw [List.getD_eq_getElem?_getD, List.getElem?_eq_getElem hn]
    rfl
  have al : ∀ {i : Nat}, ρ[i]? = some (ρ.getD n 0) → n = i := fun {i} ha => by
    by_cases c : n = i
    · exact c
    · obtain ⟨xs, e⟩ := R.nd n i _ ga ha c
      rw [h] at e
      cases e
      cases nt
  refine ⟨by rw [List.length_set]; exact R.len, fun i j a hi hj ne => ?_, fun i u a hi ha => ?_, fun u hu => ?_, R.tb.keep fun b u hb hu => ?_⟩
  rotate_left 3
  · have nb : b ≠ ρ.getD n 0 := fun z => by
      rw [z] at hb
      obtain ⟨o2, s2, _⟩ := R.sh_ (List.mem_of_getElem? ga) hb
      rcases hu with ⟨ps, rfl⟩ | ⟨c, q, rfl⟩
      · exact sh_notbl s2
      · exact sh_nocode s2
    rw [upd_ne nb]
    exact hb
  · obtain ⟨xs, e⟩ := R.nd i j a hi hj ne
    have c : n ≠ i := fun z => by
      rw [← z, h] at e
      cases e
      cases nt
    exact ⟨xs, by rw [List.getElem?_set_ne c]; exact e⟩
  · by_cases c : n = i
    · subst c
      have ea : a = ρ.getD n 0 := Option.some.inj (ha.symm.trans ga)
      rw [List.getElem?_set_self (by rw [← R.len]; exact hn)] at hi
      cases hi
      rw [ea]
      exact ⟨_, upd_same, sh⟩
    · rw [List.getElem?_set_ne c] at hi
      have na : a ≠ ρ.getD n 0 := fun z => c (al (by rw [← z]; exact ha))
      rw [upd_ne na]
      exact R.obj i u a hi ha
  · rw [List.length_set]
    rcases List.mem_or_eq_of_mem_set hu with q | q
    · exact R.wf u q
    · rw [q]
      exact w
theorem dO_mt {ρ : List Addr} {o : DO} {xs : List V} (p : mutO o = true) (z : dO K ρ o = .tup xs) : False := by
  cases o with
  | tup ys => cases p
  | frz ys => cases p
  | frzT ys => cases p
  | _ => cases z
/-- an object is written anew -/
theorem Rep.set {ρ : List Addr} {S : List DO} {H : Hp} {n : Nat} {o o' : DO} (R : Rep K ρ S H) (h : S[n]? = some o) (w : wfO S.length o' = true) (po : mutO o = true := by rfl) (po' : mutO o' = true := by rfl) : Rep K ρ (S.set n o') (upd H (ρ.getD n 0) (dO K ρ o')) ∧ Fr ρ H ρ (upd H (ρ.getD n 0) (dO K ρ o')) := by
  have hn : n < ρ.length := Fr.lt R h
  have md : ρ.getD n 0 ∈ ρ := by
    rw [List.getD_eq_getElem?_getD, List.getElem?_eq_getElem hn]
    exact List.getElem_mem hn
  have e0 := (R.get h (mutO_plain po)).1
  have far : ∀ {b : Addr} {u : HO}, H b = some u → (u = dO K ρ o → False) → b ≠ ρ.getD n 0 := fun {b u} hb k z => by
    rw [z, e0] at hb
    exact k (Option.some.inj hb).symm
  refine ⟨R.put0 h w (Sh.of (mutO_plain po')) (by cases o <;> first | rfl | cases po), ⟨⟨[], by simp, fun a z => by simp at z⟩, fun b u nb hb _ => ?_, fun b od u hb => ?_, fun b xs hb => ?_, fun b xs hb => ?_⟩⟩
  · rw [upd_ne fun z => nb (by rw [z]; exact md)]
    exact hb
  · rw [upd_ne (far hb fun z => dO_nf z.symm)]
    exact hb
  · rw [upd_ne (far hb fun z => dO_mt po z.symm)]
    exact hb
  · by_cases c : b = ρ.getD n 0
    · rw [c, upd_same] at hb
      exact (dO_mt po' (Option.some.inj hb)).elim
    · rw [upd_ne c] at hb
      exact .inr (.inl hb)
/-! ### methods of lists -/
class EvM (K : PySem.W.Frag) (T : String) (r : V → List V → Hp → VK → Prop) where
  run : DV → List DV → List DO → Option Res
  good : ∀ {x ds S q}, run x ds S = some q → wf S.length x = true → ds.all (wf S.length) = true → good S.length q = true
  ok : ∀ {x ds S q ρ H Q} {E : XK}, run x ds S = some q → wf S.length x = true → ds.all (wf S.length) = true → Rep K ρ S H → Post K E ρ H Q q → r (dV K ρ x) (ds.map (dV K ρ)) H Q
def tyB (S : List DO) (T : String) (x : DV) : Bool := match x with
  | .str _ => decide (T = "str")
  | .ref n => (match S[n]? with
    | some (.lst _) => decide (T = "list")
    | some (.dK _) => decide (T = "dict")
    | some (.dT _) => decide (T = "dict")
    | _ => false)
  | _ => false
theorem tyB_ok {ρ : List Addr} {S : List DO} {H : Hp} {T : String} {x : DV} (R : Rep K ρ S H) (h : tyB S T x = true) : tyV K T (dV K ρ x) H := by
  unfold tyB at h
  split at h
  · show T = "str"
    exact of_decide_eq_true h
  · split at h
    · rename_i e
      exact .inl ⟨of_decide_eq_true h, _, SqL.of (R.get e).1⟩
    · rename_i e
      exact .inr (.inr (.inl ⟨of_decide_eq_true h, .inl ⟨_, (R.get e).1⟩⟩))
    · rename_i e
      exact .inr (.inr (.inl ⟨of_decide_eq_true h, .inr ⟨_, (R.get e).1⟩⟩))
    · cases h
  · cases h
instance (T : String) (r : V → List V → Hp → VK → Prop) (to : TE) (ta : TA) [o : EvE K E to] [a : EvA K E ta] [m : EvM K T r] : EvE K E (tBM K T r to ta) where
  run := fun σ S => bindE (o.run σ S) fun x S1 => if tyB S1 T x = true then bindA (a.run σ S1) fun ds S2 => m.run x ds S2 else none
  good := fun {σ S r} h w => bind_good (te := to) h w fun {x S1 r} l wx h => by
    split at h
    · exact bindA_good (ta := ta) h (wfS_le l w) fun {vs S2 r} l2 wv h => m.good h (wf_le l2 wx) wv
    · cases h
  ok := fun {σ S r ρ H Q} h w R p => bind_ok (te := to) h w R p fun {x S1 ρ1 H1} l wx h R1 F1 eσ p => by
    split at h
    · rename_i ht
      refine ⟨tyB_ok R1 ht, ?_⟩
      rw [← eσ]
      refine bindA_ok (ta := ta) h (wfS_le l w) R1 p fun {vs S2 ρ2 H2} l2 wv h R2 F2 p => ?_
      have ex : dV K ρ2 x = dV K ρ1 x := F2.val R1.len wx
      rw [← ex]
      exact m.ok h (wf_le l2 wx) wv R2 p
    · cases h
instance : EvM K "list" rAppend where
  run := fun x ds S => match x, ds with
    | .ref n, [y] => (match S[n]? with
      | some (.lst xs) => if xs.length ≤ 100000 ∧ wfO S.length (.lst (xs ++ [y])) = true then some (.ret .non (S.set n (.lst (xs ++ [y])))) else none
      | _ => none)
    | _, _ => none
  good := fun {x ds S q} h wx wd => by
    split at h
    · split at h
      · split at h
        · cases h
          show (decide _ && true) = true
          simp
        · cases h
      · cases h
    · cases h
  ok := fun {x ds S q ρ H Q E} h wx wd R p => by
    split at h
    · rename_i n y
      split at h
      · rename_i xs e
        split at h
        · rename_i c
          cases h
          obtain ⟨R1, F1⟩ := R.set e c.2
          refine ⟨_, _, _, rfl, rfl, (R.get e).1, Nat.lt_of_le_of_lt (by rw [List.length_map]; exact c.1) (by decide), ?_⟩
          have z := p ρ _ R1 F1
          have em : dO K ρ (.lst (xs ++ [y])) = .lst (xs.map (dV K ρ) ++ [dV K ρ y]) := by simp [dO]
          rw [em] at z
          exact z
        · cases h
      · cases h
    · cases h
end RunX
set_option maxHeartbeats 4000000
namespace RunX
open PySem PySem.Spec PyProof.Rows L2 He
variable [Drw] [Cbv]
variable {K : PySem.W.Frag} {E : XK}
instance : EvT K E tYes where
  run := fun _ S => retS (.bl true) S
  good := fun {σ S r} h w => ret_good h rfl
  ok := fun {σ S r ρ H Q} h w R p => by
    cases h
    exact p ρ H R (Fr.refl _ _)
def wipeD (σ : List (Option DV)) : List Nat → List (Option DV)
  | [] => σ
  | v :: vs => (wipeD σ vs).set v none
theorem wipe_eq {ρ : List Addr} {σ : List (Option DV)} : ∀ {vs : List Nat}, dSt K ρ (wipeD σ vs) = wipe (dSt K ρ σ) vs
  | [] => rfl
  | v :: vs => by
    show dSt K ρ ((wipeD σ vs).set v none) = (wipe (dSt K ρ σ) vs).set v none
    rw [← wipe_eq]
    unfold dSt
    rw [List.map_set]
    rfl
theorem wipe_wf {n : Nat} {σ : List (Option DV)} (w : wfS n σ = true) : ∀ {vs : List Nat}, wfS n (wipeD σ vs) = true
  | [] => w
  | v :: vs => List.all_eq_true.mpr fun x hx => by
    rcases List.mem_or_eq_of_mem_set (show x ∈ (wipeD σ vs).set v none from hx) with q | q
    · exact List.all_eq_true.mp (wipe_wf w) x q
    · rw [q]
def lcD (f c : List (Option DV) → List DO → Option Res) (g : DV → List (Option DV) → List DO → Option (List (Option DV))) (it : ItD) (n : Nat) (σ0 : List (Option DV)) (vs : List Nat) : Nat → Nat → List DO → Option Res
  | 0, _, _ => none
  | k + 1, i, S => match it.at i S with
    | none => none
    | some none => some (.ret (.ref n) S)
    | some (some (x, S0)) => if S.length ≤ S0.length ∧ wf S0.length x = true then (match g x σ0 S0 with
      | none => none
      | some σ2 => if wipeD σ2 vs = σ0 then (match c σ2 S0 with
        | some (.ret (.bl true) S3) => (match f σ2 S3 with
          | some (.ret y S4) => (match S4[n]? with
            | some (.lst acc) => if acc.length ≤ 100000 ∧ wfO S4.length (.lst (acc ++ [y])) = true then lcD f c g it n σ0 vs k (i + 1) (S4.set n (.lst (acc ++ [y]))) else none
            | _ => none)
          | some (.exc C d S4) => some (.exc C d S4)
          | none => none)
        | some (.ret (.bl false) S3) => lcD f c g it n σ0 vs k (i + 1) S3
        | some (.exc C d S3) => some (.exc C d S3)
        | _ => none) else none) else none
theorem good_le {m n : Nat} (h : m ≤ n) {r : Res} (g : good n r = true) : good m r = true := by
  cases r with
  | exc C d S => exact decide_eq_true (Nat.le_trans h (of_decide_eq_true g))
  | ret v S =>
    obtain ⟨l, w⟩ := ba g
    show (decide _ && _) = true
    rw [w, decide_eq_true (Nat.le_trans h (of_decide_eq_true l))]
    rfl
section
variable {g : TG} {tt : TT} {te : TE} [eg : EvG K g] [ec : EvT K E tt] [ee : EvE K E te]
theorem lc_good {it : ItD} {n : Nat} {σ0 : List (Option DV)} {vs : List Nat} : ∀ {k i : Nat} {S : List DO} {r : Res}, lcD ee.run ec.run eg.run it n σ0 vs k i S = some r → n < S.length → wfS S.length σ0 = true → good S.length r = true
  | 0, _, _, _, h, _, _ => by
    unfold lcD at h
    cases h
  | k + 1, i, S, r, h, hn, w => by
    unfold lcD at h
    split at h
    · cases h
    · cases h
      show (decide _ && decide _) = true
      simp [hn]
    · split at h
      · rename_i wx
        split at h
        · cases h
        · rename_i σ2 h1
          have w1 := eg.wf_ h1 wx.2 (wfS_le wx.1 w)
          refine good_le wx.1 ?_
          have hn := Nat.lt_of_lt_of_le hn wx.1
          have w := wfS_le wx.1 w
          split at h
          · split at h
            · rename_i S3 h3
              obtain ⟨l3, _⟩ := ba (ec.good h3 w1)
              have l3 := of_decide_eq_true l3
              split at h
              · rename_i y S4 h4
                obtain ⟨l4, _⟩ := ba (ee.good h4 (wfS_le l3 w1))
                have l4 := of_decide_eq_true l4
                split at h
                · split at h
                  · have l5 := Nat.le_trans l3 l4
                    have z := lc_good h (by rw [List.length_set]; omega) (by rw [List.length_set]; exact wfS_le l5 w)
                    rw [List.length_set] at z
                    exact good_le l5 z
                  · cases h
                · cases h
              · rename_i C d S4 h4
                cases h
                exact good_le l3 (ee.good h4 (wfS_le l3 w1))
              · cases h
            · rename_i S3 h3
              obtain ⟨l3, _⟩ := ba (ec.good h3 w1)
              have l3 := of_decide_eq_true l3
              exact good_le l3 (lc_good h (by omega) (wfS_le l3 w))
            · rename_i C d S3 h3
              cases h
              exact ec.good h3 w1
            · cases h
          · cases h
      · cases h
theorem lc_ok {it : ItD} {J : It} {ρ1 : List Addr} {S1 : List DO} {H1 : Hp} (ok : ItOk K ρ1 H1 it J) (R1 : Rep K ρ1 S1 H1) {n : Nat} {σ0 : List (Option DV)} {vs : List Nat} {r : Res} {k : Nat} {S : List DO} {H0 : Hp} {Dl : Addr} {σv : L2.St} {Q : VK} (hσ : ∀ m, dSt K (ρ1 ++ m) σ0 = wipe σv vs)
    (h : lcD ee.run ec.run eg.run it n σ0 vs k 0 S = some r) (hn : n < S.length) (w : wfS S.length σ0 = true) (R : Rep K (ρ1 ++ [Dl]) S H0) (F0 : Fr ρ1 H1 (ρ1 ++ [Dl]) H0) (hD : n = ρ1.length) (p : Post K E (ρ1 ++ [Dl]) H0 Q r) :
    ∃ W : Nat → Nat → Hp → Prop, (∃ m, W 0 m H0) ∧ ∀ i m H, W i m H → (J.stop i H ∧ Q (.ref Dl) H) ∨ (J.go i H ∧ ∃ Nx : Hp → Prop, (∀ H', Nx H' → ∃ m', m' < m ∧ W (i + 1) m' H') ∧ ∀ x H', J.yld i H x H' → g x (wipe σv vs) H' fun σ2 H2 => wipe σ2 vs = wipe σv vs ∧ tt σ2 H2 fun b H3 =>
      if b = true then te σ2 H3 fun y H4 => ∃ acc, H4 Dl = some (.lst acc) ∧ acc.length < sizeLine ∧ Nx (upd H4 Dl (.lst (acc ++ [y]))) else Nx H3) := by
  have lD : n < (ρ1 ++ [Dl]).length := by rw [hD]; simp
  have atD : ∀ {ρ H'}, Fr (ρ1 ++ [Dl]) H0 ρ H' → ρ.getD n 0 = Dl := fun F => by
    rw [F.at lD, hD]
    simp [List.getD_eq_getElem?_getD]
  have atS : ∀ {ρ H'}, Fr (ρ1 ++ [Dl]) H0 ρ H' → dSt K ρ σ0 = wipe σv vs := fun F => by
    obtain ⟨m, e, _⟩ := F.pre
    rw [e, List.append_assoc, hσ]
  refine ⟨fun i m H' => ∃ ρ Sd, Fr (ρ1 ++ [Dl]) H0 ρ H' ∧ Rep K ρ Sd H' ∧ n < Sd.length ∧ wfS Sd.length σ0 = true ∧ lcD ee.run ec.run eg.run it n σ0 vs m i Sd = some r ∧ Post K E ρ H' Q r, ⟨k, _, S, Fr.refl _ _, R, hn, w, h, p⟩, ?_⟩
  rintro i m H' ⟨ρ, Sd, F, R', hn, w, h, p⟩
  have F1 := F0.trans R F
  cases m with
  | zero =>
    unfold lcD at h
    cases h
  | succ k =>
    unfold lcD at h
    split at h
    · cases h
    · rename_i hx
      cases h
      have z := p _ H' R' (Fr.refl _ _)
      have ev : dV K ρ (.ref n) = .ref Dl := by
        show V.ref _ = _
        rw [atD F]
      rw [ev] at z
      exact .inl ⟨ok.stop F1 R' hx, z⟩
    · rename_i x S0 hx
      split at h
      · rename_i wx
        split at h
        · cases h
        · rename_i σ2 h1
          have w1 := eg.wf_ h1 wx.2 (wfS_le wx.1 w)
          split at h
          · rename_i hw
            refine .inr ⟨ok.go F1 R' hx, fun H'' => ∃ ρ Sd, Fr (ρ1 ++ [Dl]) H0 ρ H'' ∧ Rep K ρ Sd H'' ∧ n < Sd.length ∧ wfS Sd.length σ0 = true ∧ lcD ee.run ec.run eg.run it n σ0 vs k (i + 1) Sd = some r ∧ Post K E ρ H'' Q r, fun H'' z => ⟨k, Nat.lt_succ_self k, z⟩, fun x' H'' y => ?_⟩
            obtain ⟨ρa, Ra, Fa, rfl⟩ := ok.yld F1 R' hx y
            have Fb := F.trans R' Fa
            have hn := Nat.lt_of_lt_of_le hn wx.1
            have w := wfS_le wx.1 w
            have p := Post.of p Ra Fa
            rw [← atS Fb]
            refine eg.ok h1 Ra ⟨?_, ?_⟩
            · rw [← wipe_eq, hw]
            · split at h
              · rename_i S3 h3
                obtain ⟨l3, _⟩ := ba (ec.good h3 w1)
                have l3 := of_decide_eq_true l3
                refine ec.ok h3 w1 Ra fun ρ3 H3 R3 F3 => ?_
                show te _ H3 _
                rw [← F3.le Ra.len w1]
                split at h
                · rename_i y S4 h4
                  obtain ⟨l4, _⟩ := ba (ee.good h4 (wfS_le l3 w1))
                  have l4 := of_decide_eq_true l4
                  split at h
                  · rename_i acc hacc
                    split at h
                    · rename_i c
                      refine ee.ok h4 (wfS_le l3 w1) R3 fun ρ4 H4 R4 F4 => ?_
                      have F34 := F3.trans R3 F4
                      have l5 := Nat.le_trans l3 l4
                      obtain ⟨R5, F5⟩ := R4.set hacc c.2
                      have F45 := Fb.trans Ra F34
                      have ed : ρ4.getD n 0 = Dl := atD F45
                      have em : dO K ρ4 (.lst (acc ++ [y])) = .lst (acc.map (dV K ρ4) ++ [dV K ρ4 y]) := by simp [dO]
                      rw [ed, em] at R5 F5
                      have g4 := (R4.get hacc).1
                      rw [ed] at g4
                      exact ⟨_, g4, Nat.lt_of_le_of_lt (by rw [List.length_map]; exact c.1) (by decide), ρ4, _, F45.trans R4 F5, R5, by rw [List.length_set]; omega, by rw [List.length_set]; exact wfS_le l5 w, h, Post.of p R5 (F34.trans R4 F5)⟩
                    · cases h
                  · cases h
                · rename_i C d S4 h4
                  cases h
                  exact ee.ok h4 (wfS_le l3 w1) R3 (PostX.of p R3 F3)
                · cases h
              · rename_i S3 h3
                obtain ⟨l3, _⟩ := ba (ec.good h3 w1)
                have l3 := of_decide_eq_true l3
                refine ec.ok h3 w1 Ra fun ρ3 H3 R3 F3 => ?_
                exact ⟨ρ3, S3, Fb.trans Ra F3, R3, by omega, wfS_le l3 w, h, Post.of p R3 F3⟩
              · rename_i C d S3 h3
                cases h
                exact ec.ok h3 w1 Ra p
              · cases h
          · cases h
      · cases h
instance (wi : TI) (vs : List Nat) [ei : EvI K E wi] : EvE K E (tLc wi g tt te vs) where
  run := fun σ S => match ei.run σ S with
    | some (.inl (it, S1)) => lcD ee.run ec.run eg.run it S1.length (wipeD σ vs) vs 4096 0 (S1 ++ [.lst []])
    | some (.inr (.exc C d S1)) => if S.length ≤ S1.length then some (.exc C d S1) else none
    | _ => none
  good := fun {σ S r} h w => by
    split at h
    · rename_i it S1 h1
      have l := ei.good h1 w
      have z := lc_good h (by simp) (wfS_le (by simp; omega) (wipe_wf w))
      exact good_le (by simp; omega) z
    · split at h
      · rename_i l
        cases h
        exact decide_eq_true l
      · cases h
    · cases h
  ok := fun {σ S r ρ H Q} h w R p => by
    split at h
    · rename_i it S1 h1
      have l := ei.good h1 w
      refine ei.ok h1 w R fun ρ1 H1 J R1 F1 okJ => fun Dl hD => ?_
      obtain ⟨R2, F2⟩ := R1.new (o := .lst []) hD rfl
      have w1 := wfS_le l w
      have w0 : wfS (S1 ++ [DO.lst []]).length (wipeD σ vs) = true := wfS_le (by simp; omega) (wipe_wf w)
      have wρ : wfS ρ1.length (wipeD σ vs) = true := by rw [R1.len]; exact wipe_wf w1
      refine lc_ok okJ R1 (fun m => ?_) h (by simp) w0 R2 F2 R1.len.symm (Post.of p R2 (F1.trans R1 F2))
      rw [dSt_app wρ, wipe_eq, F1.le R.len w]
    · rename_i C d S1 h1
      split at h
      · cases h
        exact ei.ok h1 w R p
      · cases h
    · cases h
end
end RunX
set_option maxHeartbeats 4000000
namespace RunX
open PySem PySem.Spec PyProof.Rows L2 He
variable [Drw] [Cbv]
variable {K : PySem.W.Frag} {E : XK}
/-- numbers in, under a condition -/
instance (C : Int → Int → Prop) (f : Int → Int → V) [dc : ∀ i j, Decidable (C i j)] [c : ∀ i j, CstV K (f i j)] : EvR K (rI C f) where
  run := fun S x y => match x, y with
    | .int i, .int j => if C i j then retS (c i j).d S else none
    | _, _ => none
  good := fun {S x y q} h wx wy => by
    split at h
    · split at h
      · exact ret_good h (wf_le (Nat.zero_le _) (c _ _).wf0)
      · cases h
    · cases h
  ok := fun {S x y q ρ H Q E} h wx wy R p => by
    split at h
    · rename_i i j
      split at h
      · rename_i hc
        refine ⟨i, j, rfl, rfl, hc, ?_⟩
        have z := ret_post (E := E) h R p
        rw [(c i j).ok ρ] at z
        exact z
      · cases h
    · cases h
instance (i j : Int) : Decidable (CPow i j) := inferInstanceAs (Decidable (_ ∧ _ ∧ _))
/-! ### one value -/
class EvU (K : PySem.W.Frag) (r : V → Hp → VK → Prop) where
  run : List DO → DV → Option Res
  good : ∀ {S x q}, run S x = some q → wf S.length x = true → good S.length q = true
  ok : ∀ {S x q ρ H Q} {E : XK}, run S x = some q → wf S.length x = true → Rep K ρ S H → Post K E ρ H Q q → r (dV K ρ x) H Q
instance (r : V → Hp → VK → Prop) (ta : TE) [a : EvE K E ta] [o : EvU K r] : EvE K E (tUn r ta) where
  run := fun σ S => bindE (a.run σ S) fun x S1 => o.run S1 x
  good := fun {σ S r} h w => bind_good (te := ta) h w fun {x S1 r} l wx h => o.good h wx
  ok := fun {σ S r ρ H Q} h w R p => bind_ok (te := ta) h w R p fun {x S1 ρ1 H1} l wx h R1 F1 eσ p => o.ok h wx R1 p
instance (f : Int → V) [c : ∀ i, CstV K (f i)] : EvU K (rU f) where
  run := fun S x => match x with
    | .int i => retS (c i).d S
    | _ => none
  good := fun {S x q} h wx => by
    split at h
    · exact ret_good h (wf_le (Nat.zero_le _) (c _).wf0)
    · cases h
  ok := fun {S x q ρ H Q E} h wx R p => by
    split at h
    · rename_i i
      refine ⟨i, rfl, ?_⟩
      have z := ret_post (E := E) h R p
      rw [(c i).ok ρ] at z
      exact z
    · cases h
/-! ### raise C(..) -/
def tRaise (C : Addr) (E : XK) : TS := fun _ _ H => E (.ref C) none H
instance (x : Str) : EvS K E (tRaise (ga K x) E) where
  run := fun _ S => some (.exc x none S)
  good := fun {σ S o} h w => by
    cases h
    exact decide_eq_true (Nat.le_refl _)
  ok := fun {σ S o ρ H D} h w R p => by
    cases h
    exact p ρ H R (Fr.refl _ _)
instance : EvS K E tNever where
  run := fun _ _ => none
  good := fun {σ S o} h w => by cases h
  ok := fun {σ S o ρ H D} h w R p => by cases h
instance : EvS K E tRetN where
  run := fun _ S => some (.rt .non S)
  good := fun {σ S o} h w => by
    cases h
    show (decide _ && true) = true
    simp
  ok := fun {σ S o ρ H D} h w R p => by
    cases h
    exact p ρ H R (Fr.refl _ _)
/-! ### x in a list or a tuple -/
def flatD : DV → Bool
  | .non | .bl _ | .int _ | .str _ => true
  | _ => false
theorem flatD_ok {ρ : List Addr} {x : DV} (h : flatD x = true) : flatV (dV K ρ x) = true ∧ dV K ρ x = dV K [] x := by
  unfold flatD at h
  split at h
  · exact ⟨rfl, rfl⟩
  · exact ⟨rfl, rfl⟩
  · exact ⟨rfl, rfl⟩
  · exact ⟨rfl, rfl⟩
  · cases h
theorem flat_all {ρ : List Addr} {xs : List DV} (h : xs.all flatD = true) : (xs.map (dV K ρ)).all flatV = true ∧ xs.map (dV K ρ) = xs.map (dV K []) := by
  refine ⟨List.all_eq_true.mpr fun v hv => ?_, List.map_congr_left fun v hv => (flatD_ok (List.all_eq_true.mp h v hv)).2⟩
  obtain ⟨x, hx, rfl⟩ := List.mem_map.mp hv
  exact (flatD_ok (List.all_eq_true.mp h x hx)).1
def itemsD (S : List DO) : DV → Option (List DV)
  | .ref n => (match S[n]? with
    | some (.lst xs) => some xs
    | some (.tup xs) => some xs
    | _ => none)
  | _ => none
theorem itemsD_ok {ρ : List Addr} {S : List DO} {H : Hp} {y : DV} {xs : List DV} (R : Rep K ρ S H) (h : itemsD S y = some xs) : ∃ p, dV K ρ y = .ref p ∧ (SqL K H p (xs.map (dV K ρ)) ∨ SqT K H p (xs.map (dV K ρ))) := by
  unfold itemsD at h
  split at h
  · split at h
    · rename_i e
      cases h
      exact ⟨_, rfl, .inl (SqL.of (R.get e).1)⟩
    · rename_i e
      cases h
      exact ⟨_, rfl, .inr (SqT.of (R.get e).1)⟩
    · cases h
  · cases h
instance (neg : Bool) : EvR K (rIn K neg) where
  run := fun S x y => match itemsD S y with
    | some xs => if flatD x = true ∧ xs.all flatD = true then retS (.bl (if neg then !inV (dV K [] x) (xs.map (dV K [])) else inV (dV K [] x) (xs.map (dV K [])))) S else none
    | none => none
  good := fun {S x y q} h wx wy => by
    split at h
    · split at h
      · exact ret_good h rfl
      · cases h
    · cases h
  ok := fun {S x y q ρ H Q E} h wx wy R p => by
    split at h
    · rename_i xs hi
      split at h
      · rename_i c
        obtain ⟨a, e, hs⟩ := itemsD_ok R hi
        obtain ⟨f1, f2⟩ := flatD_ok (K := K) (ρ := ρ) c.1
        obtain ⟨g1, g2⟩ := flat_all (K := K) (ρ := ρ) c.2
        refine ⟨a, _, e, hs, f1, g1, ?_⟩
        rw [f2, g2]
        exact ret_post (E := E) h R p
      · cases h
    · cases h
/-! ### lists joined -/
instance : EvR K rCat where
  run := fun S x y => match x, y with
    | .ref n, .ref m => (match S[n]?, S[m]? with
      | some (.lst xs), some (.lst ys) => if xs.length + ys.length ≤ 100000 ∧ wfO S.length (.lst (xs ++ ys)) = true then alloc S (.lst (xs ++ ys)) else none
      | _, _ => none)
    | _, _ => none
  good := fun {S x y q} h wx wy => by
    split at h
    · split at h
      · split at h
        · exact alloc_good h
        · cases h
      · cases h
    · cases h
  ok := fun {S x y q ρ H Q E} h wx wy R p => by
    split at h
    · split at h
      · rename_i xs ys e1 e2
        split at h
        · rename_i c
          refine ⟨_, _, _, _, rfl, rfl, (R.get e1).1, (R.get e2).1, by rw [List.length_map, List.length_map]; exact Nat.le_trans c.1 (by decide), fun q hq => ?_⟩
          have z := alloc_post (E := E) h c.2 R p hq
          have em : dO K ρ (.lst (xs ++ ys)) = .lst (xs.map (dV K ρ) ++ ys.map (dV K ρ)) := by simp [dO]
          rw [em] at z
          exact z
        · cases h
      · cases h
    · cases h
end RunX
set_option maxHeartbeats 4000000
namespace RunX
open PySem PySem.Spec PyProof.Rows L2 He
variable [Drw] [Cbv]
variable {K : PySem.W.Frag} {E : XK}
/-! ### several targets -/
class EvGs (K : PySem.W.Frag) (g : TGs) where
  run : List DV → List (Option DV) → List DO → Option (List (Option DV))
  wf_ : ∀ {vs σ S σ'}, run vs σ S = some σ' → vs.all (wf S.length) = true → wfS S.length σ = true → wfS S.length σ' = true
  ok : ∀ {vs σ S σ' ρ H Q}, run vs σ S = some σ' → Rep K ρ S H → Q (dSt K ρ σ') H → g (vs.map (dV K ρ)) (dSt K ρ σ) H Q
instance : EvGs K gNil where
  run := fun vs σ _ => match vs with
    | [] => some σ
    | _ => none
  wf_ := fun {vs σ S σ'} h wv w => by
    split at h
    · cases h
      exact w
    · cases h
  ok := fun {vs σ S σ' ρ H Q} h R q => by
    split at h
    · cases h
      exact ⟨rfl, q⟩
    · cases h
instance (t : TG) (u : TGs) [a : EvG K t] [b : EvGs K u] : EvGs K (gCons t u) where
  run := fun vs σ S => match vs with
    | v :: r => (match a.run v σ S with
      | some σ1 => b.run r σ1 S
      | none => none)
    | _ => none
  wf_ := fun {vs σ S σ'} h wv w => by
    split at h
    · obtain ⟨w1, w2⟩ := ba (show (wf S.length _ && _) = true from wv)
      split at h
      · rename_i h1
        exact b.wf_ h w2 (a.wf_ h1 w1 w)
      · cases h
    · cases h
  ok := fun {vs σ S σ' ρ H Q} h R q => by
    split at h
    · split at h
      · rename_i h1
        exact ⟨_, _, rfl, a.ok h1 R (b.ok h R q)⟩
      · cases h
    · cases h
instance (n : Nat) (t : TGs) [b : EvGs K t] : EvG K (gTup K n t) where
  run := fun v σ S => match v with
    | .ref m => (match S[m]? with
      | some (.tup xs) => if xs.length = n ∧ xs.all (wf S.length) = true then b.run xs σ S else none
      | _ => none)
    | _ => none
  wf_ := fun {v σ S σ'} h wv w => by
    split at h
    · split at h
      · split at h
        · rename_i c
          exact b.wf_ h c.2 w
        · cases h
      · cases h
    · cases h
  ok := fun {v σ S σ' ρ H Q} h R q => by
    split at h
    · split at h
      · rename_i xs e
        split at h
        · rename_i c
          exact ⟨_, _, rfl, SqT.of (R.get e).1, by rw [List.length_map]; exact c.1, b.ok h R q⟩
        · cases h
      · cases h
    · cases h
/-! ### ranges -/
theorem rng_ok {ρ : List Addr} {H0 : Hp} {lo : Int} {n : Nat} : ItOk K ρ H0 (.rng lo n) (Itr lo n) where
  stop := fun {ρ' S H i} e R h => by
    have h' : (if i < n then some (some (DV.int (lo + i), S)) else some none) = some none := h
    split at h'
    · cases h'
    · rename_i c
      exact Nat.le_of_not_lt c
  go := fun {ρ' S H i x} e R h => by
    have h' : (if i < n then some (some (DV.int (lo + i), S)) else some none) = some (some x) := h
    split at h'
    · rename_i c
      exact c
    · cases h'
  yld := fun {ρ' S S' H H' i x v} e R h y => by
    have h' : (if i < n then some (some (DV.int (lo + i), S)) else some none) = some (some (x, S')) := h
    obtain ⟨eH, ev⟩ := y
    split at h'
    · cases h'
      subst eH
      exact ⟨ρ', R, Fr.refl _ _, ev⟩
    · cases h'
instance (ta : TA) [a : EvA K E ta] : EvI K E (iRng2 ta) where
  run := fun σ S => match a.run σ S with
    | some (.ret [.int i, .int j] S1) => if -(2 ^ 62) ≤ i ∧ i < 2 ^ 62 ∧ -(2 ^ 62) ≤ j ∧ j < 2 ^ 62 then some (.inl (.rng i (j - i).toNat, S1)) else none
    | some (.exc C d S1) => some (.inr (.exc C d S1))
    | _ => none
  good := fun {σ S it S1} h w => by
    split at h
    · rename_i i j S2 h1
      split at h
      · cases h
        exact of_decide_eq_true (ba (a.good h1 w)).1
      · cases h
    · cases h
    · cases h
  ok := fun {σ S q ρ H Qj} h w R p => by
    split at h
    · rename_i i j S1 h1
      split at h
      · rename_i c
        cases h
        exact a.ok h1 w R fun ρ1 H1 R1 F1 => ⟨i, j, rfl, c, p ρ1 H1 _ R1 F1 rng_ok⟩
      · cases h
    · rename_i C d S1 h1
      cases h
      exact a.ok h1 w R p
    · cases h
instance (ta : TA) [a : EvA K E ta] : EvI K E (iRng1 ta) where
  run := fun σ S => match a.run σ S with
    | some (.ret [.int j] S1) => if -(2 ^ 62) ≤ j ∧ j < 2 ^ 62 then some (.inl (.rng 0 j.toNat, S1)) else none
    | some (.exc C d S1) => some (.inr (.exc C d S1))
    | _ => none
  good := fun {σ S it S1} h w => by
    split at h
    · rename_i j S2 h1
      split at h
      · cases h
        exact of_decide_eq_true (ba (a.good h1 w)).1
      · cases h
    · cases h
    · cases h
  ok := fun {σ S q ρ H Qj} h w R p => by
    split at h
    · rename_i j S1 h1
      split at h
      · rename_i c
        cases h
        exact a.ok h1 w R fun ρ1 H1 R1 F1 => ⟨j, rfl, c.1, c.2, p ρ1 H1 _ R1 F1 rng_ok⟩
      · cases h
    · rename_i C d S1 h1
      cases h
      exact a.ok h1 w R p
    · cases h
/-! ### an empty dict -/
instance : EvE K E tDNewK where
  run := fun _ S => alloc S (.dK [])
  good := fun {σ S r} h w => alloc_good h
  ok := fun {σ S r ρ H Q} h w R p => fun q hq => alloc_post (E := E) (o := .dK []) h rfl R p hq
end RunX
set_option maxHeartbeats 4000000
namespace RunX
open PySem PySem.Spec PyProof.Rows L2 He
variable [Drw] [Cbv]
variable {K : PySem.W.Frag} {E : XK}
/-! ### slices -/
inductive ResO where
  | ret (p : Option Int) (S : List DO)
  | exc (C : Str) (d : Option Nat) (S : List DO)
class EvO (K : PySem.W.Frag) (E : XK) (to : TO) where
  run : List (Option DV) → List DO → Option ResO
  good : ∀ {σ S r}, run σ S = some r → wfS S.length σ = true → (match r with
    | .ret _ S1 => S.length ≤ S1.length
    | .exc _ _ S1 => S.length ≤ S1.length)
  ok : ∀ {σ S r ρ H Q}, run σ S = some r → wfS S.length σ = true → Rep K ρ S H → (match r with
    | .ret p S1 => ∀ ρ' H', Rep K ρ' S1 H' → Fr ρ H ρ' H' → Q p H'
    | .exc C d S1 => PostX K E ρ H C d S1) → to (dSt K ρ σ) H Q
instance : EvO K E tNoPart where
  run := fun _ S => some (.ret none S)
  good := fun {σ S r} h w => by
    cases h
    exact Nat.le_refl _
  ok := fun {σ S r ρ H Q} h w R p => by
    cases h
    exact p ρ H R (Fr.refl _ _)
instance (te : TE) [e : EvE K E te] : EvO K E (tPart te) where
  run := fun σ S => match e.run σ S with
    | some (.ret (.int i) S1) => some (.ret (some i) S1)
    | some (.exc C d S1) => some (.exc C d S1)
    | _ => none
  good := fun {σ S r} h w => by
    split at h
    · rename_i h1
      cases h
      exact of_decide_eq_true (ba (e.good h1 w)).1
    · rename_i h1
      cases h
      exact of_decide_eq_true (e.good h1 w)
    · cases h
  ok := fun {σ S r ρ H Q} h w R p => by
    split at h
    · rename_i i S1 h1
      cases h
      exact e.ok h1 w R fun ρ1 H1 R1 F1 => ⟨i, rfl, p ρ1 H1 R1 F1⟩
    · rename_i C d S1 h1
      cases h
      exact e.ok h1 w R p
    · cases h
class EvSl (K : PySem.W.Frag) (r : V → Option Int → Option Int → Hp → VK → Prop) where
  run : List DO → DV → Option Int → Option Int → Option Res
  good : ∀ {S x lo hi q}, run S x lo hi = some q → wf S.length x = true → good S.length q = true
  ok : ∀ {S x lo hi q ρ H Q} {E : XK}, run S x lo hi = some q → wf S.length x = true → Rep K ρ S H → Post K E ρ H Q q → r (dV K ρ x) lo hi H Q
instance : EvSl K rSlS where
  run := fun S x lo hi => match x with
    | .str z => if z.length ≤ 100000 then retS (.str (cutS z lo hi)) S else none
    | _ => none
  good := fun {S x lo hi q} h wx => by
    split at h
    · split at h
      · exact ret_good h rfl
      · cases h
    · cases h
  ok := fun {S x lo hi q ρ H Q E} h wx R p => by
    split at h
    · split at h
      · rename_i z c
        exact ⟨z, rfl, Nat.le_trans c (by decide), ret_post (E := E) h R p⟩
      · cases h
    · cases h
def bindO (r : Option ResO) (f : Option Int → List DO → Option Res) : Option Res := match r with
  | some (.ret p S) => f p S
  | some (.exc C d S) => some (.exc C d S)
  | none => none
theorem bindO_good {σ : List (Option DV)} {S : List DO} {r : Res} {to : TO} [e : EvO K E to] {f : Option Int → List DO → Option Res} (h : bindO (e.run σ S) f = some r) (w : wfS S.length σ = true)
    (g : ∀ {p S1 r}, S.length ≤ S1.length → f p S1 = some r → good S1.length r = true) : good S.length r = true := by
  unfold bindO at h
  split at h
  · rename_i p S1 h1
    have l1 : S.length ≤ S1.length := e.good h1 w
    exact good_le l1 (g l1 h)
  · rename_i C d S1 h1
    cases h
    have l1 : S.length ≤ S1.length := e.good h1 w
    exact decide_eq_true l1
  · cases h
theorem bindO_ok {σ : List (Option DV)} {S : List DO} {r : Res} {to : TO} [e : EvO K E to] {f : Option Int → List DO → Option Res} {ρ : List Addr} {H : Hp} {Q : VK} {Q1 : Option Int → Hp → Prop} (h : bindO (e.run σ S) f = some r) (w : wfS S.length σ = true) (R : Rep K ρ S H) (p : Post K E ρ H Q r)
    (k : ∀ {i S1 ρ1 H1}, S.length ≤ S1.length → f i S1 = some r → Rep K ρ1 S1 H1 → Fr ρ H ρ1 H1 → Post K E ρ1 H1 Q r → Q1 i H1) : to (dSt K ρ σ) H Q1 := by
  unfold bindO at h
  split at h
  · rename_i i S1 h1
    have l1 : S.length ≤ S1.length := e.good h1 w
    exact e.ok h1 w R fun ρ1 H1 R1 F1 => k l1 h R1 F1 (Post.of p R1 F1)
  · rename_i C d S1 h1
    cases h
    exact e.ok h1 w R p
  · cases h
instance (r : V → Option Int → Option Int → Hp → VK → Prop) (te : TE) (tl th : TO) [e : EvE K E te] [l : EvO K E tl] [u : EvO K E th] [s : EvSl K r] : EvE K E (tSl r te tl th) where
  run := fun σ S => bindE (e.run σ S) fun x S1 => bindO (l.run σ S1) fun lo S2 => bindO (u.run σ S2) fun hi S3 => s.run S3 x lo hi
  good := fun {σ S r} h w => bind_good (te := te) h w fun {x S1 r} l1 wx h => bindO_good (to := tl) h (wfS_le l1 w) fun {lo S2 r} l2 h => bindO_good (to := th) h (wfS_le (Nat.le_trans l1 l2) w) fun {hi S3 r} l3 h => s.good h (wf_le (Nat.le_trans l2 l3) wx)
  ok := fun {σ S r ρ H Q} h w R p => bind_ok (te := te) h w R p fun {x S1 ρ1 H1} l1 wx h R1 F1 eσ p => by
    rw [← eσ]
    refine bindO_ok (to := tl) h (wfS_le l1 w) R1 p fun {lo S2 ρ2 H2} l2 h R2 F2 p => ?_
    have w2 := wfS_le (Nat.le_trans l1 l2) w
    rw [← F2.le R1.len (wfS_le l1 w)]
    refine bindO_ok (to := th) h w2 R2 p fun {hi S3 ρ3 H3} l3 h R3 F3 p => ?_
    have ex : dV K ρ3 x = dV K ρ1 x := (F3.val R2.len (wf_le l2 wx)).trans (F2.val R1.len wx)
    rw [← ex]
    exact s.ok h (wf_le (Nat.le_trans l2 l3) wx) R3 p
end RunX
set_option maxHeartbeats 4000000
namespace RunX
open PySem PySem.Spec PyProof.Rows L2 He
variable [Drw] [Cbv]
variable {K : PySem.W.Frag} {E : XK}
/-! ### while -/
def whileD (c : List (Option DV) → List DO → Option Res) (f : List (Option DV) → List DO → Option Out) : Nat → List (Option DV) → List DO → Option Out
  | 0, _, _ => none
  | k + 1, σ, S => match c σ S with
    | some (.ret (.bl true) S1) => (match f σ S1 with
      | some (.nx σ2 S2) => whileD c f k σ2 S2
      | some (.ct σ2 S2) => whileD c f k σ2 S2
      | some (.bk σ2 S2) => some (.nx σ2 S2)
      | r => r)
    | some (.ret (.bl false) S1) => some (.nx σ S1)
    | some (.exc C d S1) => some (.exc C d S1)
    | _ => none
section
variable {tc : TT} {tb : TS} [ec : EvT K E tc] [eb : EvS K E tb]
theorem while_good : ∀ {k : Nat} {σ : List (Option DV)} {S : List DO} {o : Out}, whileD ec.run eb.run k σ S = some o → wfS S.length σ = true → goodS S.length o = true
  | 0, _, _, _, h, _ => by
    unfold whileD at h
    cases h
  | k + 1, σ, S, o, h, w => by
    unfold whileD at h
    split at h
    · rename_i S1 h1
      have l1 := of_decide_eq_true (ba (ec.good h1 w)).1
      refine goodS_le l1 ?_
      have w1 := wfS_le l1 w
      split at h
      · rename_i σ2 S2 h2
        obtain ⟨l2, w2⟩ := ba (eb.good h2 w1)
        exact goodS_le (of_decide_eq_true l2) (while_good h w2)
      · rename_i σ2 S2 h2
        obtain ⟨l2, w2⟩ := ba (eb.good h2 w1)
        exact goodS_le (of_decide_eq_true l2) (while_good h w2)
      · rename_i σ2 S2 h2
        cases h
        have z : goodS S1.length (Out.bk σ2 S2) = true := eb.good h2 w1
        exact z
      · exact eb.good h w1
    · rename_i S1 h1
      cases h
      have l1 := of_decide_eq_true (ba (ec.good h1 w)).1
      show (decide _ && _) = true
      rw [wfS_le l1 w, decide_eq_true l1]
      rfl
    · rename_i C d S1 h1
      cases h
      exact ec.good h1 w
    · cases h
instance : EvS K E (tWhile tc tb) where
  run := fun σ S => whileD ec.run eb.run 4096 σ S
  good := fun {σ S o} h w => while_good h w
  ok := fun {σ S o ρ H D} h w R p => by
    refine ⟨fun m σ' H' => ∃ ρ σd Sd, σ' = dSt K ρ σd ∧ Rep K ρ Sd H' ∧ wfS Sd.length σd = true ∧ whileD ec.run eb.run m σd Sd = some o ∧ PostS K E ρ H' D o, ⟨4096, ρ, σ, S, rfl, R, w, h, p⟩, ?_⟩
    clear h w R p
    rintro m σ' H' ⟨ρ, σd, Sd, rfl, R, w, h, p⟩
    cases m with
    | zero =>
      unfold whileD at h
      cases h
    | succ k =>
      unfold whileD at h
      split at h
      · rename_i S1 h1
        have l1 := of_decide_eq_true (ba (ec.good h1 w)).1
        have w1 := wfS_le l1 w
        refine ec.ok h1 w R fun ρ1 H1 R1 F1 => ?_
        have p1 := PostS.of p R1 F1
        refine ⟨fun σ'' H'' => ∃ ρ σd Sd, σ'' = dSt K ρ σd ∧ Rep K ρ Sd H'' ∧ wfS Sd.length σd = true ∧ whileD ec.run eb.run k σd Sd = some o ∧ PostS K E ρ H'' D o, fun σ'' H'' z => ⟨k, Nat.lt_succ_self k, z⟩, ?_⟩
        rw [← F1.le R.len w]
        split at h
        · rename_i σ2 S2 h2
          obtain ⟨_, w2⟩ := ba (eb.good h2 w1)
          exact eb.ok h2 w1 R1 fun ρ2 H2 R2 F2 => ⟨ρ2, σ2, S2, rfl, R2, w2, h, PostS.of p1 R2 F2⟩
        · rename_i σ2 S2 h2
          obtain ⟨_, w2⟩ := ba (eb.good h2 w1)
          exact eb.ok h2 w1 R1 fun ρ2 H2 R2 F2 => ⟨ρ2, σ2, S2, rfl, R2, w2, h, PostS.of p1 R2 F2⟩
        · rename_i σ2 S2 h2
          cases h
          exact eb.ok h2 w1 R1 p1
        · rename_i n1 n2 n3
          refine eb.ok h w1 R1 ?_
          cases o with
          | nx σ2 S2 => exact (n1 σ2 S2 h).elim
          | ct σ2 S2 => exact (n2 σ2 S2 h).elim
          | bk σ2 S2 => exact (n3 σ2 S2 h).elim
          | rt v S2 => exact p1
          | exc C d S2 => exact p1
      · rename_i S1 h1
        cases h
        refine ec.ok h1 w R fun ρ1 H1 R1 F1 => ?_
        have z := (PostS.of p R1 F1) ρ1 H1 R1 (Fr.refl _ _)
        rw [F1.le R.len w] at z
        exact z
      · rename_i C d S1 h1
        cases h
        exact ec.ok h1 w R p
      · cases h
end
end RunX
set_option maxHeartbeats 4000000
namespace RunX
open PySem PySem.Spec PyProof.Rows L2 He
variable [Drw] [Cbv]
variable {K : PySem.W.Frag} {E : XK}
instance (f : Int → Int → Int) : EvR K (ipI f) where
  run := fun S x y => match x, y with
    | .int i, .int j => retS (.int (f i j)) S
    | _, _ => none
  good := fun {S x y q} h wx wy => by
    split at h
    · exact ret_good h rfl
    · cases h
  ok := fun {S x y q ρ H Q E} h wx wy R p => by
    split at h
    · exact ⟨_, _, rfl, rfl, ret_post (E := E) h R p⟩
    · cases h
/-- x op= e -/
instance (i : Nat) (te : TE) (ti : TIp) [e : EvE K E te] [o : EvR K ti] : EvS K E (tAug i te ti) where
  run := fun σ S => match σ[i]? with
    | some (some x) => bindX (bindE (e.run σ S) fun y S1 => o.run S1 x y) fun z S2 => some (.nx (σ.set i (some z)) S2)
    | _ => none
  good := fun {σ S q} h w => by
    split at h
    · rename_i x hx
      have wx : wf S.length x = true := List.all_eq_true.mp w _ (List.mem_of_getElem? hx)
      unfold bindX at h
      split at h
      · rename_i z S2 h1
        cases h
        have g := bind_good (te := te) h1 w fun {y S1 r} l wy h => o.good h (wf_le l wx) wy
        obtain ⟨l, wz⟩ := ba g
        show (decide _ && _) = true
        rw [l, wfS_set (wfS_le (of_decide_eq_true l) w) wz]
        rfl
      · rename_i C d S2 h1
        cases h
        exact bind_good (te := te) h1 w fun {y S1 r} l wy h => o.good h (wf_le l wx) wy
      · cases h
    · cases h
  ok := fun {σ S q ρ H D} h w R p => by
    split at h
    · rename_i x hx
      have wx : wf S.length x = true := List.all_eq_true.mp w _ (List.mem_of_getElem? hx)
      refine ⟨dV K ρ x, by unfold dSt; rw [List.getElem?_map, hx]; rfl, ?_⟩
      unfold bindX at h
      split at h
      · rename_i z S2 h1
        cases h
        refine bind_ok (te := te) (Q := fun v H' => D.nx ((dSt K ρ σ).set i (some v)) H') h1 w R (fun ρ2 H2 R2 F2 => ?_) fun {y S1 ρ1 H1} l wy h1 R1 F1 eσ p1 => ?_
        · have z2 := p ρ2 H2 R2 F2
          rw [dSt_set, F2.le R.len w] at z2
          exact z2
        · have ex : dV K ρ1 x = dV K ρ x := F1.val R.len wx
          rw [← ex]
          exact o.ok h1 (wf_le l wx) wy R1 p1
      · rename_i C d S2 h1
        cases h
        refine bind_ok (te := te) (Q := fun v H' => D.nx ((dSt K ρ σ).set i (some v)) H') h1 w R p fun {y S1 ρ1 H1} l wy h1 R1 F1 eσ p1 => ?_
        have ex : dV K ρ1 x = dV K ρ x := F1.val R.len wx
        rw [← ex]
        exact o.ok h1 (wf_le l wx) wy R1 p1
      · cases h
    · cases h
end RunX
set_option maxHeartbeats 4000000
namespace RunX
open PySem PySem.Spec PyProof.Rows L2 He
variable [Drw] [Cbv]
variable {K : PySem.W.Frag} {E : XK}
/-! ### the data that a value shows (lists and tuples within) -/
def allD (f : DV → Option PyData) : List DV → Option (List PyData)
  | [] => some []
  | v :: r => match f v, allD f r with
    | some d, some ds => some (d :: ds)
    | _, _ => none
def datD (S : List DO) : Nat → DV → Option PyData
  | 0, _ => none
  | k + 1, v => match v with
    | .non => some .none
    | .bl b => some (.bool b)
    | .int i => some (.int i)
    | .str x => some (.str x)
    | .ref n => (match S[n]? with
      | some (.lst xs) => (allD (datD S k) xs).map .list
      | some (.tup xs) => (allD (datD S k) xs).map .tuple
      | _ => none)
    | _ => none
theorem allD_ok {ρ : List Addr} {H : Hp} {f : DV → Option PyData} (hf : ∀ v d, f v = some d → Dp K H (dV K ρ v) d) : ∀ {xs : List DV} {ds : List PyData}, allD f xs = some ds → DpAll K H (xs.map (dV K ρ)) ds
  | [], _, h => by cases h; exact .nil
  | v :: r, _, h => by
    unfold allD at h
    split at h
    · rename_i d ds h1 h2
      cases h
      exact .cons (hf v d h1) (allD_ok hf h2)
    · cases h
theorem datD_ok {ρ : List Addr} {S : List DO} {H : Hp} (R : Rep K ρ S H) : ∀ {k : Nat} {v : DV} {d : PyData}, datD S k v = some d → Dp K H (dV K ρ v) d
  | 0, _, _, h => by cases h
  | k + 1, v, d, h => by
    unfold datD at h
    split at h
    · cases h; exact .non
    · cases h; exact .bl _
    · cases h; exact .int _
    · cases h; exact .str _
    · split at h
      · rename_i xs e
        obtain ⟨ds, h1, rfl⟩ := Option.map_eq_some_iff.mp h
        exact .lst (SqL.of (R.get e).1) (allD_ok (fun v d q => datD_ok R q) h1)
      · rename_i xs e
        obtain ⟨ds, h1, rfl⟩ := Option.map_eq_some_iff.mp h
        exact .tup (SqT.of (R.get e).1) (allD_ok (fun v d q => datD_ok R q) h1)
      · cases h
    · cases h
def eqD (neg : Bool) (S : List DO) (x y : DV) : Option Res := match datD S 64 x, datD S 64 y with
  | some d, some e => if SeqAt.shaped d = true ∧ SeqAt.shaped e = true then retS (.bl (if neg then !PyData.eqv d e else PyData.eqv d e)) S else none
  | _, _ => none
theorem eqD_good {neg : Bool} {S : List DO} {x y : DV} {q : Res} (h : eqD neg S x y = some q) : good S.length q = true := by
  unfold eqD at h
  split at h
  · split at h
    · exact ret_good h rfl
    · cases h
  · cases h
instance : EvR K (rEqD K) where
  run := eqD false
  good := fun {S x y q} h wx wy => eqD_good h
  ok := fun {S x y q ρ H Q E} h wx wy R p => by
    unfold eqD at h
    split at h
    · rename_i d e h1 h2
      split at h
      · rename_i c
        exact ⟨d, e, datD_ok R h1, datD_ok R h2, c.1, c.2, ret_post (E := E) h R p⟩
      · cases h
    · cases h
instance : EvR K (rNeD K) where
  run := eqD true
  good := fun {S x y q} h wx wy => eqD_good h
  ok := fun {S x y q ρ H Q E} h wx wy R p => by
    unfold eqD at h
    split at h
    · rename_i d e h1 h2
      split at h
      · rename_i c
        exact ⟨d, e, datD_ok R h1, datD_ok R h2, c.1, c.2, ret_post (E := E) h R p⟩
      · cases h
    · cases h
end RunX
set_option maxHeartbeats 4000000
namespace RunX
open PySem PySem.Spec PyProof.Rows L2 He
variable [Drw] [Cbv]
variable {K : PySem.W.Frag} {E : XK}
/-! ### dicts -/
def keyD : DV → Option Key
  | .int i => some (.inl i)
  | .str x => some (.inr x)
  | _ => none
theorem keyD_ok {ρ : List Addr} {v : DV} {k : Key} (h : keyD v = some k) : dV K ρ v = kV k := by
  unfold keyD at h
  split at h
  · cases h; rfl
  · cases h; rfl
  · cases h
def keysD : List DV → Option (List Key)
  | [] => some []
  | v :: r => match keyD v, keysD r with
    | some k, some ks => some (k :: ks)
    | _, _ => none
theorem keysD_ok {ρ : List Addr} : ∀ {xs : List DV} {ks : List Key}, keysD xs = some ks → xs.map (dV K ρ) = ks.map kV
  | [], _, h => by cases h; rfl
  | v :: r, _, h => by
    unfold keysD at h
    split at h
    · rename_i k ks h1 h2
      cases h
      rw [List.map_cons, List.map_cons, keyD_ok h1, keysD_ok h2]
    · cases h
def valD {κ : Type} [DecidableEq κ] (kvs : List (κ × DV)) (k : κ) : Option DV := (kvs.find? fun kv => decide (kv.1 = k)).map (·.2)
theorem valD_eq {κ : Type} [DecidableEq κ] {ρ : List Addr} {kvs : List (κ × DV)} {k : κ} : valV (kvs.map fun p => (p.1, dV K ρ p.2)) k = (valD kvs k).map (dV K ρ) := by
  unfold valV valD
  rw [List.find?_map]
  have e : (fun kv : κ × V => decide (kv.1 = k)) ∘ (fun p : κ × DV => (p.1, dV K ρ p.2)) = fun kv => decide (kv.1 = k) := rfl
  rw [e]
  cases kvs.find? fun kv => decide (kv.1 = k) <;> rfl
/-- what the dict x holds at y -/
def lookD (S : List DO) (x y : DV) : Option (Option DV) := match x with
  | .ref n => (match S[n]? with
    | some (.dK kvs) => (keyD y).map (valD kvs)
    | some (.dT kvs) => (match y with
      | .ref m => (match S[m]? with
        | some (.tup xs) => (keysD xs).map (valD kvs)
        | _ => none)
      | _ => none)
    | _ => none)
  | _ => none
theorem lookD_ok {ρ : List Addr} {S : List DO} {H : Hp} {x y : DV} {o : Option DV} (R : Rep K ρ S H) (h : lookD S x y = some o) : ∃ a, dV K ρ x = .ref a ∧ DGet H a (dV K ρ y) (o.map (dV K ρ)) := by
  unfold lookD at h
  split at h
  · split at h
    · rename_i kvs e
      obtain ⟨k, h1, rfl⟩ := Option.map_eq_some_iff.mp h
      refine ⟨_, rfl, ?_⟩
      rw [keyD_ok h1, ← valD_eq]
      exact DGet.k (R.get e).1
    · rename_i kvs e
      split at h
      · split at h
        · rename_i xs e2
          obtain ⟨ks, h1, rfl⟩ := Option.map_eq_some_iff.mp h
          refine ⟨_, rfl, ?_⟩
          rw [← valD_eq]
          refine DGet.t (R.get e).1 ?_
          have g := (R.get e2).1
          rw [show dO K ρ (.tup xs) = .tup (ks.map kV) from congrArg HO.tup (keysD_ok h1)] at g
          exact g
        · cases h
      · cases h
    · cases h
  · cases h
instance (td ty : TE) [a : EvE K E td] [b : EvE K E ty] : EvE K E (tDGet td ty) where
  run := fun σ S => bindE (a.run σ S) fun x S1 => bindE (b.run σ S1) fun y S2 => match lookD S2 x y with
    | some (some v) => if wf S2.length v = true then retS v S2 else none
    | _ => none
  good := fun {σ S r} h w => bind_good (te := td) h w fun {x S1 r} l wx h => bind_good (te := ty) h (wfS_le l w) fun {y S2 r} l2 wy h => by
    split at h
    · split at h
      · rename_i wv
        exact ret_good h wv
      · cases h
    · cases h
  ok := fun {σ S r ρ H Q} h w R p => bind_ok (te := td) h w R p fun {x S1 ρ1 H1} l wx h R1 F1 eσ p => by
    rw [← eσ]
    refine bind_ok (te := ty) h (wfS_le l w) R1 p fun {y S2 ρ2 H2} l2 wy h R2 F2 _ p => ?_
    have ex : dV K ρ2 x = dV K ρ1 x := F2.val R1.len wx
    rw [← ex]
    split at h
    · rename_i v hv
      split at h
      · obtain ⟨a', e1, g⟩ := lookD_ok R2 hv
        exact ⟨a', _, e1, g, ret_post (E := E) h R2 p⟩
      · cases h
    · cases h
instance (ty td : TE) [b : EvE K E ty] [a : EvE K E td] : EvE K E (tDIn ty td) where
  run := fun σ S => bindE (b.run σ S) fun y S1 => bindE (a.run σ S1) fun x S2 => match lookD S2 x y with
    | some o => retS (.bl o.isSome) S2
    | _ => none
  good := fun {σ S r} h w => bind_good (te := ty) h w fun {x S1 r} l wx h => bind_good (te := td) h (wfS_le l w) fun {y S2 r} l2 wy h => by
    split at h
    · exact ret_good h rfl
    · cases h
  ok := fun {σ S r ρ H Q} h w R p => bind_ok (te := ty) h w R p fun {y S1 ρ1 H1} l wx h R1 F1 eσ p => by
    rw [← eσ]
    refine bind_ok (te := td) h (wfS_le l w) R1 p fun {x S2 ρ2 H2} l2 wy h R2 F2 _ p => ?_
    have ex : dV K ρ2 y = dV K ρ1 y := F2.val R1.len wx
    rw [← ex]
    split at h
    · rename_i o hv
      obtain ⟨a', e1, g⟩ := lookD_ok R2 hv
      refine ⟨a', _, e1, g, ?_⟩
      rw [Option.isSome_map]
      exact ret_post (E := E) h R2 p
    · cases h
instance (ty td : TE) [b : EvE K E ty] [a : EvE K E td] : EvE K E (tDNotIn ty td) where
  run := fun σ S => bindE (b.run σ S) fun y S1 => bindE (a.run σ S1) fun x S2 => match lookD S2 x y with
    | some o => retS (.bl (!o.isSome)) S2
    | _ => none
  good := fun {σ S r} h w => bind_good (te := ty) h w fun {x S1 r} l wx h => bind_good (te := td) h (wfS_le l w) fun {y S2 r} l2 wy h => by
    split at h
    · exact ret_good h rfl
    · cases h
  ok := fun {σ S r ρ H Q} h w R p => bind_ok (te := ty) h w R p fun {y S1 ρ1 H1} l wx h R1 F1 eσ p => by
    rw [← eσ]
    refine bind_ok (te := td) h (wfS_le l w) R1 p fun {x S2 ρ2 H2} l2 wy h R2 F2 _ p => ?_
    have ex : dV K ρ2 y = dV K ρ1 y := F2.val R1.len wx
    rw [← ex]
    split at h
    · rename_i o hv
      obtain ⟨a', e1, g⟩ := lookD_ok R2 hv
      refine ⟨a', _, e1, g, ?_⟩
      rw [Option.isSome_map]
      exact ret_post (E := E) h R2 p
    · cases h
end RunX
set_option maxHeartbeats 4000000
namespace RunX
open PySem PySem.Spec PyProof.Rows L2 He
variable [Drw] [Cbv]
variable {K : PySem.W.Frag} {E : XK}
/-! ### o[i] = v -/
class EvW (K : PySem.W.Frag) (t : TSet) where
  run : List DO → DV → DV → DV → Option (List DO)
  len : ∀ {S o i v S'}, run S o i v = some S' → S'.length = S.length
  ok : ∀ {S o i v S' ρ H Q}, run S o i v = some S' → wf S.length v = true → Rep K ρ S H → (∀ H', Rep K ρ S' H' → Fr ρ H ρ H' → Q H') → t (dV K ρ o) (dV K ρ i) (dV K ρ v) H Q
instance (te to ti : TE) (t : TSet) [e : EvE K E te] [a : EvE K E to] [b : EvE K E ti] [s : EvW K t] : EvS K E (tAsg te (gSub to ti t)) where
  run := fun σ S => bindX (e.run σ S) fun v S1 => bindX (a.run σ S1) fun o S2 => bindX (b.run σ S2) fun i S3 => (s.run S3 o i v).map fun S4 => .nx σ S4
  good := fun {σ S q} h w => bindX_good (te := te) h w fun {v S1 q} l1 wv h => bindX_good (te := to) h (wfS_le l1 w) fun {o S2 q} l2 wo h => bindX_good (te := ti) h (wfS_le (Nat.le_trans l1 l2) w) fun {i S3 q} l3 wi h => by
    obtain ⟨S4, h1, rfl⟩ := Option.map_eq_some_iff.mp h
    show (decide _ && _) = true
    rw [s.len h1, wfS_le (Nat.le_trans l1 (Nat.le_trans l2 l3)) w]
    simp
  ok := fun {σ S q ρ H D} h w R p => bindX_ok (te := te) h w R p fun {v S1 ρ1 H1} l1 wv h R1 F1 eσ p => by
    rw [← eσ]
    have w1 := wfS_le l1 w
    refine bindX_ok (te := to) h w1 R1 p fun {o S2 ρ2 H2} l2 wo h R2 F2 eσ2 p => ?_
    have w2 := wfS_le l2 w1
    rw [← eσ2]
    refine bindX_ok (te := ti) h w2 R2 p fun {i S3 ρ3 H3} l3 wi h R3 F3 eσ3 p => ?_
    obtain ⟨S4, h1, rfl⟩ := Option.map_eq_some_iff.mp h
    have ev : dV K ρ3 v = dV K ρ1 v := (F3.val R2.len (wf_le l2 wv)).trans (F2.val R1.len wv)
    have eo : dV K ρ3 o = dV K ρ2 o := F3.val R2.len wo
    rw [← ev, ← eo, ← eσ3]
    exact s.ok h1 (wf_le (Nat.le_trans l2 l3) wv) R3 fun H' R' F' => p ρ3 H' R' F'
def putD {κ : Type} [DecidableEq κ] (kvs : List (κ × DV)) (k : κ) (v : DV) : List (κ × DV) :=
  if (kvs.any fun kv => decide (kv.1 = k)) = true then kvs.map (fun kv => if kv.1 = k then (kv.1, v) else kv) else kvs ++ [(k, v)]
theorem putD_eq {κ : Type} [DecidableEq κ] {ρ : List Addr} {kvs : List (κ × DV)} {k : κ} {v : DV} : (putD kvs k v).map (fun p => (p.1, dV K ρ p.2)) = putK (kvs.map fun p => (p.1, dV K ρ p.2)) k (dV K ρ v) := by
  unfold putD putK
  have e : ((kvs.map fun p => (p.1, dV K ρ p.2)).any fun kv => decide (kv.1 = k)) = kvs.any fun kv => decide (kv.1 = k) := by
    rw [List.any_map]
    rfl
  rw [e]
  split
  · rw [List.map_map, List.map_map]
    refine List.map_congr_left fun p hp => ?_
    show (_, _) = _
    by_cases c : p.1 = k
    · simp [c]
    · simp [c]
  · simp
instance : EvW K rSetD where
  run := fun S o i v => match o with
    | .ref n => (match S[n]? with
      | some (.dK kvs) => (match keyD i with
        | some k => if kvs.length ≤ 100000 ∧ wfO S.length (.dK (putD kvs k v)) = true then some (S.set n (.dK (putD kvs k v))) else none
        | none => none)
      | some (.dT kvs) => (match i with
        | .ref m => (match S[m]? with
          | some (.tup xs) => (match keysD xs with
            | some k => if kvs.length ≤ 100000 ∧ wfO S.length (.dT (putD kvs k v)) = true then some (S.set n (.dT (putD kvs k v))) else none
            | none => none)
          | _ => none)
        | _ => none)
      | _ => none)
    | _ => none
  len := fun {S o i v S'} h => by
    split at h
    · split at h
      · split at h
        · split at h
          · cases h
            rw [List.length_set]
          · cases h
        · cases h
      · split at h
        · split at h
          · split at h
            · split at h
              · cases h
                rw [List.length_set]
              · cases h
            · cases h
          · cases h
        · cases h
      · cases h
    · cases h
  ok := fun {S o i v S' ρ H Q} h wv R q => by
    split at h
    · split at h
      · rename_i kvs e
        split at h
        · rename_i k hk
          split at h
          · rename_i c
            cases h
            obtain ⟨R1, F1⟩ := R.set e c.2
            have em : dO K ρ (.dK (putD kvs k v)) = .dK (putK (kvs.map fun p => (p.1, dV K ρ p.2)) k (dV K ρ v)) := congrArg HO.dK putD_eq
            refine ⟨_, _, rfl, ?_, q _ R1 F1⟩
            rw [keyD_ok hk, em]
            exact DPut.k (R.get e).1 (Nat.lt_of_le_of_lt (by rw [List.length_map]; exact c.1) (by decide))
          · cases h
        · cases h
      · rename_i kvs e
        split at h
        · split at h
          · rename_i xs e2
            split at h
            · rename_i k hk
              split at h
              · rename_i c
                cases h
                obtain ⟨R1, F1⟩ := R.set e c.2
                have em : dO K ρ (.dT (putD kvs k v)) = .dT (putK (kvs.map fun p => (p.1, dV K ρ p.2)) k (dV K ρ v)) := congrArg HO.dT putD_eq
                have g2 := (R.get e2).1
                rw [show dO K ρ (.tup xs) = .tup (k.map kV) from congrArg HO.tup (keysD_ok hk)] at g2
                refine ⟨_, _, rfl, .inr ⟨_, k, _, (R.get e).1, rfl, g2, Nat.lt_of_le_of_lt (by rw [List.length_map]; exact c.1) (by decide), rfl⟩, ?_⟩
                rw [← em]
                exact q _ R1 F1
              · cases h
            · cases h
          · cases h
        · cases h
      · cases h
    · cases h
end RunX
set_option maxHeartbeats 4000000
/-! Dicts with keys of any depth. -/
namespace RunX
open PySem PySem.Spec PyProof.Rows L2 He NKx
variable [Drw] [Cbv]
variable {K : PySem.W.Frag} {E : XK}
/-! ### keys -/
def datT (S : List DO) : Nat → DV → Option PyData
  | 0, _ => none
  | k + 1, v => match v with
    | .non => some .none
    | .bl b => some (.bool b)
    | .int i => some (.int i)
    | .str x => some (.str x)
    | .ref n => (match S[n]? with
      | some (.tup xs) => (allD (datT S k) xs).map .tuple
      | _ => none)
    | _ => none
theorem allT_ok {ρ : List Addr} {H : Hp} {f : DV → Option PyData} (hf : ∀ v d, f v = some d → DR H (dV K ρ v) d) : ∀ {xs : List DV} {ds : List PyData}, allD f xs = some ds → DRs H (xs.map (dV K ρ)) ds
  | [], _, h => by cases h; exact .nil
  | v :: r, _, h => by
    unfold allD at h
    split at h
    · rename_i d ds h1 h2
      cases h
      exact .cons (hf v d h1) (allT_ok hf h2)
    · cases h
theorem datT_ok {ρ : List Addr} {S : List DO} {H : Hp} (R : Rep K ρ S H) : ∀ {k : Nat} {v : DV} {d : PyData}, datT S k v = some d → DR H (dV K ρ v) d
  | 0, _, _, h => by cases h
  | k + 1, v, d, h => by
    unfold datT at h
    split at h
    · cases h; exact .non
    · cases h; exact .bl _
    · cases h; exact .int _
    · cases h; exact .str _
    · split at h
      · rename_i xs e
        obtain ⟨ds, h1, rfl⟩ := Option.map_eq_some_iff.mp h
        exact .tup (R.get e).1 (allT_ok (fun v d q => datT_ok R q) h1)
      · cases h
    · cases h
def keyN (S : List DO) (m : Nat) : Option NK := match datT S 10 (.ref m) with
  | some d => if SeqAt.shaped d = true then (match nkOf d with
    | some k => if tupN k = true ∧ depthN k ≤ 8 then some k else none
    | none => none) else none
  | none => none
theorem keyN_ok {ρ : List Addr} {S : List DO} {H : Hp} {m : Nat} {k : NK} (R : Rep K ρ S H) (h : keyN S m = some k) : NKey H k (ρ.getD m 0) := by
  unfold keyN at h
  split at h
  · rename_i d hd
    split at h
    · rename_i hsh
      split at h
      · rename_i k' hk
        split at h
        · rename_i c
          cases h
          exact ⟨d, hk, c.1, datT_ok R hd, hsh, c.2⟩
        · cases h
      · cases h
    · cases h
  · cases h
abbrev EsN := List (NK × Nat × DV)
def keysOk (S : List DO) (es : EsN) : Bool := es.all fun p => decide (keyN S p.2.1 = some p.1)
theorem keysOk_ok {ρ : List Addr} {S : List DO} {H : Hp} {es : EsN} (R : Rep K ρ S H) (h : keysOk S es = true) : ∀ p ∈ esV K ρ es, NKey H p.1 p.2.1 := fun p hp => by
  obtain ⟨q, hq, rfl⟩ := List.mem_map.mp hp
  exact keyN_ok R (of_decide_eq_true (List.all_eq_true.mp h q hq))
def valDN (es : EsN) (k : NK) : Option DV := (es.find? fun p => decide (p.1 = k)).map (·.2.2)
theorem valDN_eq {ρ : List Addr} {es : EsN} {k : NK} : valN (esV K ρ es) k = (valDN es k).map (dV K ρ) := by
  unfold valN valDN esV
  rw [List.find?_map]
  have e : (fun p : NK × Addr × V => decide (p.1 = k)) ∘ (fun p : NK × Nat × DV => (p.1, ρ.getD p.2.1 0, dV K ρ p.2.2)) = fun p => decide (p.1 = k) := rfl
  rw [e]
  cases es.find? fun p => decide (p.1 = k) <;> rfl
def putDN (es : EsN) (k : NK) (m : Nat) (v : DV) : EsN := if (es.any fun p => decide (p.1 = k)) = true then es.map (fun p => if p.1 = k then (p.1, p.2.1, v) else p) else es ++ [(k, m, v)]
theorem putDN_eq {ρ : List Addr} {es : EsN} {k : NK} {m : Nat} {v : DV} : esV K ρ (putDN es k m v) = putN (esV K ρ es) k (ρ.getD m 0) (dV K ρ v) := by
  unfold putDN putN esV
  have e : ((es.map fun p => (p.1, ρ.getD p.2.1 0, dV K ρ p.2.2)).any fun p => decide (p.1 = k)) = es.any fun p => decide (p.1 = k) := by
    rw [List.any_map]
    rfl
  rw [e]
  split
  · rw [List.map_map, List.map_map]
    refine List.map_congr_left fun p hp => ?_
    show (_, _, _) = _
    by_cases c : p.1 = k
    · simp [c]
    · simp [c]
  · simp
/-- the dict at n, its keys tuples of any depth -/
def nAt (S : List DO) (n : Nat) : Option EsN := match S[n]? with
  | some (.dN es) => if keysOk S es = true then some es else none
  | some (.frzN es) => if keysOk S es = true then some es else none
  | _ => none
theorem nAt_ok {ρ : List Addr} {S : List DO} {H : Hp} {n : Nat} {es : EsN} (R : Rep K ρ S H) (h : nAt S n = some es) : ∃ a, Rd H (ρ.getD n 0) (NDo Drw.wld a (esV K ρ es)) ∧ ∀ p ∈ esV K ρ es, NKey H p.1 p.2.1 := by
  unfold nAt at h
  have at_ : ∀ {o : DO}, S[n]? = some o → ∃ u, H (ρ.getD n 0) = some u ∧ Sh K ρ o u := fun {o} e => by
    have hn : n < ρ.length := Fr.lt R e
    exact R.obj n o (ρ.getD n 0) e (by rw [List.getD_eq_getElem?_getD, List.getElem?_eq_getElem hn]; rfl)
  split at h
  · rename_i es' e
    split at h
    · rename_i c
      cases h
      obtain ⟨u, eu, a, rfl⟩ := at_ e
      exact ⟨a, .inl eu, keysOk_ok R c⟩
    · cases h
  · rename_i es' e
    split at h
    · rename_i c
      cases h
      obtain ⟨u, eu, o, a, rfl⟩ := at_ e
      exact ⟨a, .inr ⟨o, eu⟩, keysOk_ok R c⟩
    · cases h
  · cases h
def isNil (S : List DO) (n : Nat) : Bool := match S[n]? with
  | some (.dK []) => true
  | _ => false
theorem isNil_eq {S : List DO} {n : Nat} (h : isNil S n = true) : S[n]? = some (.dK []) := by
  unfold isNil at h
  split at h
  · assumption
  · cases h
def lookN (S : List DO) (x y : DV) : Option (Option DV) := match x, y with
  | .ref n, .ref m => (match keyN S m with
    | some k => (match nAt S n with
      | some es => some (valDN es k)
      | none => if isNil S n = true then some none else none)
    | none => none)
  | _, _ => none
theorem lookN_ok {ρ : List Addr} {S : List DO} {H : Hp} {x y : DV} {o : Option DV} (R : Rep K ρ S H) (h : lookN S x y = some o) : ∃ a, dV K ρ x = .ref a ∧ NGet Drw.wld H a (dV K ρ y) (o.map (dV K ρ)) := by
  unfold lookN at h
  split at h
  · rename_i n m
    split at h
    · rename_i k hk
      split at h
      · rename_i es he
        cases h
        obtain ⟨a, e, ks⟩ := nAt_ok R he
        exact ⟨_, rfl, k, _, rfl, keyN_ok R hk, .inl ⟨a, _, e, ks, valDN_eq.symm⟩⟩
      · split at h
        · rename_i c
          cases h
          exact ⟨_, rfl, k, _, rfl, keyN_ok R hk, .inr ⟨.inl (R.get (isNil_eq c)).1, rfl⟩⟩
        · cases h
    · cases h
  · cases h
def lookX (S : List DO) (x y : DV) : Option (Option DV) := match lookD S x y with
  | some o => some o
  | none => lookN S x y
theorem lookX_ok {ρ : List Addr} {S : List DO} {H : Hp} {x y : DV} {o : Option DV} (R : Rep K ρ S H) (h : lookX S x y = some o) : ∃ a, dV K ρ x = .ref a ∧ XGet Drw.wld H a (dV K ρ y) (o.map (dV K ρ)) := by
  unfold lookX at h
  split at h
  · rename_i o' ho
    cases h
    obtain ⟨a, e, g⟩ := lookD_ok R ho
    exact ⟨a, e, .inl g⟩
  · obtain ⟨a, e, g⟩ := lookN_ok R h
    exact ⟨a, e, .inr g⟩
instance (td ty : TE) [a : EvE K E td] [b : EvE K E ty] : EvE K E (tXGet Drw.wld td ty) where
  run := fun σ S => bindE (a.run σ S) fun x S1 => bindE (b.run σ S1) fun y S2 => match lookX S2 x y with
    | some (some v) => if wf S2.length v = true then retS v S2 else none
    | _ => none
  good := fun {σ S r} h w => bind_good (te := td) h w fun {x S1 r} l wx h => bind_good (te := ty) h (wfS_le l w) fun {y S2 r} l2 wy h => by
    split at h
    · split at h
      · rename_i wv
        exact ret_good h wv
      · cases h
    · cases h
  ok := fun {σ S r ρ H Q} h w R p => bind_ok (te := td) h w R p fun {x S1 ρ1 H1} l wx h R1 F1 eσ p => by
    rw [← eσ]
    refine bind_ok (te := ty) h (wfS_le l w) R1 p fun {y S2 ρ2 H2} l2 wy h R2 F2 _ p => ?_
    have ex : dV K ρ2 x = dV K ρ1 x := F2.val R1.len wx
    rw [← ex]
    split at h
    · rename_i v hv
      split at h
      · obtain ⟨a', e1, g⟩ := lookX_ok R2 hv
        exact ⟨a', _, e1, g, ret_post (E := E) h R2 p⟩
      · cases h
    · cases h
instance (neg : Bool) (ty td : TE) [b : EvE K E ty] [a : EvE K E td] : EvE K E (tXIn Drw.wld neg ty td) where
  run := fun σ S => bindE (b.run σ S) fun y S1 => bindE (a.run σ S1) fun x S2 => match lookX S2 x y with
    | some o => retS (.bl (if neg = true then !o.isSome else o.isSome)) S2
    | _ => none
  good := fun {σ S r} h w => bind_good (te := ty) h w fun {x S1 r} l wx h => bind_good (te := td) h (wfS_le l w) fun {y S2 r} l2 wy h => by
    split at h
    · exact ret_good h rfl
    · cases h
  ok := fun {σ S r ρ H Q} h w R p => bind_ok (te := ty) h w R p fun {y S1 ρ1 H1} l wx h R1 F1 eσ p => by
    rw [← eσ]
    refine bind_ok (te := td) h (wfS_le l w) R1 p fun {x S2 ρ2 H2} l2 wy h R2 F2 _ p => ?_
    have ex : dV K ρ2 y = dV K ρ1 y := F2.val R1.len wx
    rw [← ex]
    split at h
    · rename_i o hv
      obtain ⟨a', e1, g⟩ := lookX_ok R2 hv
      refine ⟨a', _, e1, g, ?_⟩
      rw [Option.isSome_map]
      exact ret_post (E := E) h R2 p
    · cases h
/-- a dict with walked or not, of any keys -/
def isXD (S : List DO) (n : Nat) : Bool := match S[n]? with
  | some (.dK _) => true
  | some (.dT _) => true
  | some (.dN _) => true
  | _ => false
theorem isXD_ok {ρ : List Addr} {S : List DO} {H : Hp} {n : Nat} (R : Rep K ρ S H) (h : isXD S n = true) : IsX Drw.wld H (ρ.getD n 0) := by
  unfold isXD at h
  split at h
  · rename_i e
    exact .inl (.inl ⟨_, .inl (R.get e).1⟩)
  · rename_i e
    exact .inl (.inr ⟨_, .inl (R.get e).1⟩)
  · rename_i es e
    have hn : n < ρ.length := Fr.lt R e
    obtain ⟨u, eu, a, rfl⟩ := R.obj n _ (ρ.getD n 0) e (by rw [List.getD_eq_getElem?_getD, List.getElem?_eq_getElem hn]; rfl)
    exact .inr ⟨_, _, .inl eu⟩
  · cases h
instance (td ty : TE) [a : EvE K E td] [b : EvE K E ty] : EvE K E (tXGet1 Drw.wld td ty) where
  run := fun σ S => bindE (a.run σ S) fun x S1 => match x with
    | .ref n => if isXD S1 n = true then bindE (b.run σ S1) fun y S2 => (match lookX S2 (.ref n) y with
      | some o => if wf S2.length (o.getD .non) = true then retS (o.getD .non) S2 else none
      | none => none) else none
    | _ => none
  good := fun {σ S r} h w => bind_good (te := td) h w fun {x S1 r} l wx h => by
    split at h
    · split at h
      · exact bind_good (te := ty) h (wfS_le l w) fun {y S2 r} l2 wy h => by
          split at h
          · split at h
            · rename_i wv
              exact ret_good h wv
            · cases h
          · cases h
      · cases h
    · cases h
  ok := fun {σ S r ρ H Q} h w R p => bind_ok (te := td) h w R p fun {x S1 ρ1 H1} l wx h R1 F1 eσ p => by
    split at h
    · rename_i n
      split at h
      · rename_i hd
        refine ⟨_, rfl, isXD_ok R1 hd, ?_⟩
        rw [← eσ]
        refine bind_ok (te := ty) h (wfS_le l w) R1 p fun {y S2 ρ2 H2} l2 wy h R2 F2 _ p => ?_
        split at h
        · rename_i o hv
          split at h
          · obtain ⟨a', e1, g⟩ := lookX_ok R2 hv
            have ex : dV K ρ2 (.ref n) = dV K ρ1 (.ref n) := F2.val R1.len wx
            have ea : a' = ρ1.getD n 0 := by
              rw [ex] at e1
              exact (V.ref.inj e1).symm
            subst ea
            refine ⟨_, g, ?_⟩
            have eo : (o.map (dV K ρ2)).getD V.non = dV K ρ2 (o.getD .non) := by cases o <;> rfl
            rw [eo]
            exact ret_post (E := E) h R2 p
          · cases h
        · cases h
      · cases h
    · cases h
instance (td ty tx : TE) [a : EvE K E td] [b : EvE K E ty] [c : EvE K E tx] : EvE K E (tXGet2 Drw.wld td ty tx) where
  run := fun σ S => bindE (a.run σ S) fun x S1 => match x with
    | .ref n => if isXD S1 n = true then bindE (b.run σ S1) fun y S2 => bindE (c.run σ S2) fun z S3 => (match lookX S3 (.ref n) y with
      | some o => if wf S3.length (o.getD z) = true then retS (o.getD z) S3 else none
      | none => none) else none
    | _ => none
  good := fun {σ S r} h w => bind_good (te := td) h w fun {x S1 r} l wx h => by
    split at h
    · split at h
      · exact bind_good (te := ty) h (wfS_le l w) fun {y S2 r} l2 wy h => bind_good (te := tx) h (wfS_le (Nat.le_trans l l2) w) fun {z S3 r} l3 wz h => by
          split at h
          · split at h
            · rename_i wv
              exact ret_good h wv
            · cases h
          · cases h
      · cases h
    · cases h
  ok := fun {σ S r ρ H Q} h w R p => bind_ok (te := td) h w R p fun {x S1 ρ1 H1} l wx h R1 F1 eσ p => by
    split at h
    · rename_i n
      split at h
      · rename_i hd
        refine ⟨_, rfl, isXD_ok R1 hd, ?_⟩
        rw [← eσ]
        refine bind_ok (te := ty) h (wfS_le l w) R1 p fun {y S2 ρ2 H2} l2 wy h R2 F2 eσ2 p => ?_
        rw [← eσ2]
        refine bind_ok (te := tx) h (wfS_le (Nat.le_trans l l2) w) R2 p fun {z S3 ρ3 H3} l3 wz h R3 F3 _ p => ?_
        split at h
        · rename_i o hv
          split at h
          · obtain ⟨a', e1, g⟩ := lookX_ok R3 hv
            have ex : dV K ρ3 (.ref n) = dV K ρ1 (.ref n) := (F3.val R2.len (wf_le l2 wx)).trans (F2.val R1.len wx)
            have ea : a' = ρ1.getD n 0 := by
              rw [ex] at e1
              exact (V.ref.inj e1).symm
            subst ea
            have ey : dV K ρ3 y = dV K ρ2 y := F3.val R2.len wy
            rw [ey] at g
            refine ⟨_, g, ?_⟩
            have eo : (o.map (dV K ρ3)).getD (dV K ρ3 z) = dV K ρ3 (o.getD z) := by cases o <;> rfl
            rw [eo]
            exact ret_post (E := E) h R3 p
          · cases h
        · cases h
      · cases h
    · cases h
/-! ### d[y] = v -/
theorem Rep.setN {ρ : List Addr} {S : List DO} {H : Hp} {n a : Nat} {o : DO} {es : EsN} (R : Rep K ρ S H) (h : S[n]? = some o) (w : wfO S.length (.dN es) = true) (nt : notTup o = true) (e0 : ∃ u, H (ρ.getD n 0) = some u ∧ (∀ od v, u ≠ .frz od v) ∧ ∀ xs, u ≠ .tup xs) :
    Rep K ρ (S.set n (.dN es)) (upd H (ρ.getD n 0) (NDo Drw.wld a (esV K ρ es))) ∧ Fr ρ H ρ (upd H (ρ.getD n 0) (NDo Drw.wld a (esV K ρ es))) := by
  have hn : n < ρ.length := Fr.lt R h
  have md : ρ.getD n 0 ∈ ρ := by
    rw [List.getD_eq_getElem?_getD, List.getElem?_eq_getElem hn]
    exact List.getElem_mem hn
  obtain ⟨u0, e0, nf, ntu⟩ := e0
  have far : ∀ {b : Addr} {u : HO}, H b = some u → (u = u0 → False) → b ≠ ρ.getD n 0 := fun {b u} hb k z => by
    rw [z, e0] at hb
    exact k (Option.some.inj hb).symm
  refine ⟨R.put0 h w ⟨a, rfl⟩ nt, ⟨⟨[], by simp, fun a z => by simp at z⟩, fun b u nb hb _ => ?_, fun b od u hb => ?_, fun b xs hb => ?_, fun b xs hb => ?_⟩⟩
  · rw [upd_ne fun z => nb (by rw [z]; exact md)]
    exact hb
  · rw [upd_ne (far hb fun z => nf od u z.symm)]
    exact hb
  · rw [upd_ne (far hb fun z => ntu xs z.symm)]
    exact hb
  · by_cases c : b = ρ.getD n 0
    · rw [c, upd_same] at hb
      cases hb
    · rw [upd_ne c] at hb
      exact .inr (.inl hb)
def setN (S : List DO) (o i v : DV) : Option (List DO) := match o, i with
  | .ref n, .ref m => (match keyN S m with
    | some k => (match S[n]? with
      | some (.dN es) => if keysOk S es = true ∧ es.length ≤ 100000 ∧ wfO S.length (.dN (putDN es k m v)) = true then some (S.set n (.dN (putDN es k m v))) else none
      | some (.dK []) => if wfO S.length (.dN [(k, m, v)]) = true then some (S.set n (.dN [(k, m, v)])) else none
      | _ => none)
    | none => none)
  | _, _ => none
theorem setN_len {S S' : List DO} {o i v : DV} (h : setN S o i v = some S') : S'.length = S.length := by
  unfold setN at h
  split at h
  · split at h
    · split at h
      · split at h
        · cases h
          rw [List.length_set]
        · cases h
      · split at h
        · cases h
          rw [List.length_set]
        · cases h
      · cases h
    · cases h
  · cases h
theorem setN_ok {ρ : List Addr} {S S' : List DO} {H : Hp} {o i v : DV} {Q : Hp → Prop} (h : setN S o i v = some S') (R : Rep K ρ S H) (q : ∀ H', Rep K ρ S' H' → Fr ρ H ρ H' → Q H') : rSetX Drw.wld (dV K ρ o) (dV K ρ i) (dV K ρ v) H Q := by
  unfold setN at h
  split at h
  · rename_i n m
    split at h
    · rename_i k hk
      split at h
      · rename_i es e
        split at h
        · rename_i c
          cases h
          have hn : n < ρ.length := Fr.lt R e
          obtain ⟨u, eu, a, rfl⟩ := R.obj n _ (ρ.getD n 0) e (by rw [List.getD_eq_getElem?_getD, List.getElem?_eq_getElem hn]; rfl)
          obtain ⟨R1, F1⟩ := R.setN (a := ρ.getD n 0) e c.2.2 rfl ⟨_, eu, fun _ _ z => (nomatch z), fun _ z => (nomatch z)⟩
          rw [putDN_eq] at R1 F1
          exact ⟨_, _, rfl, .inr ⟨k, _, rfl, keyN_ok R hk, .inl ⟨a, _, eu, keysOk_ok R c.1, Nat.lt_of_le_of_lt (by unfold esV; rw [List.length_map]; exact c.2.1) (by decide), rfl⟩⟩, q _ R1 F1⟩
        · cases h
      · rename_i e
        split at h
        · rename_i c
          cases h
          have g := (R.get e).1
          obtain ⟨R1, F1⟩ := R.setN (a := ρ.getD n 0) e c rfl ⟨_, g, fun _ _ z => (nomatch z), fun _ z => (nomatch z)⟩
          exact ⟨_, _, rfl, .inr ⟨k, _, rfl, keyN_ok R hk, .inr ⟨g, rfl⟩⟩, q _ R1 F1⟩
        · cases h
      · cases h
    · cases h
  · cases h
instance : EvW K (rSetX Drw.wld) where
  run := fun S o i v => match (inferInstance : EvW K rSetD).run S o i v with
    | some S' => some S'
    | none => setN S o i v
  len := fun {S o i v S'} h => by
    split at h
    · rename_i h1
      cases h
      exact EvW.len (self := (inferInstance : EvW K rSetD)) h1
    · exact setN_len h
  ok := fun {S o i v S' ρ H Q} h wv R q => by
    split at h
    · rename_i h1
      cases h
      obtain ⟨a, H', e, g, z⟩ := EvW.ok (self := (inferInstance : EvW K rSetD)) h1 wv R q
      exact ⟨a, H', e, .inl g, z⟩
    · exact setN_ok h R q
end RunX
set_option maxHeartbeats 4000000
namespace RunX
open PySem PySem.Spec PyProof.Rows L2 He
variable [Drw] [Cbv]
variable {K : PySem.W.Frag} {E : XK}
/-! ### tuples joined -/
instance : EvR K (rCatT K) where
  run := fun S x y => match x, y with
    | .ref n, .ref m => (match S[n]?, S[m]? with
      | some (.tup xs), some (.tup ys) => if xs ≠ [] ∧ xs.length + ys.length ≤ 100000 ∧ wfO S.length (.tup (xs ++ ys)) = true then (if ys = [] then some (.ret (.ref n) S) else alloc S (.tup (xs ++ ys))) else none
      | _, _ => none)
    | _, _ => none
  good := fun {S x y q} h wx wy => by
    split at h
    · split at h
      · split at h
        · split at h
          · cases h
            show (decide _ && _) = true
            rw [wx]
            simp
          · exact alloc_good h
        · cases h
      · cases h
    · cases h
  ok := fun {S x y q ρ H Q E} h wx wy R p => by
    split at h
    · split at h
      · rename_i n m _ _ xs ys e1 e2
        split at h
        · rename_i c
          have nn : xs.map (dV K ρ) ≠ [] := fun z => c.1 (List.map_eq_nil_iff.mp z)
          refine ⟨_, _, xs.map (dV K ρ), ys.map (dV K ρ), rfl, rfl, SqT.of (R.get e1).1, SqT.of (R.get e2).1, nn, by rw [List.length_map, List.length_map]; exact Nat.le_trans c.2.1 (by decide), fun z => ?_, fun z a ha => ?_⟩
          · have hy : ys = [] := List.map_eq_nil_iff.mp z
            rw [if_pos hy] at h
            cases h
            exact p ρ H R (Fr.refl _ _)
          · have hy : ys ≠ [] := fun q => z (by rw [q]; rfl)
            rw [if_neg hy] at h
            have w := alloc_post (E := E) h c.2.2 R p ha
            have em : dO K ρ (.tup (xs ++ ys)) = .tup (xs.map (dV K ρ) ++ ys.map (dV K ρ)) := by simp [dO]
            rw [em] at w
            exact w
        · cases h
      · cases h
    · cases h
end RunX
set_option maxHeartbeats 4000000
namespace RunX
open PySem PySem.Spec PyProof.Rows L2 He
variable [Drw] [Cbv]
variable {K : PySem.W.Frag} {E : XK}
theorem rep_map {ρ : List Addr} {xs : List DV} {n : Nat} : (List.replicate n xs).flatten.map (dV K ρ) = (List.replicate n (xs.map (dV K ρ))).flatten := by
  simp [List.map_flatten, List.map_replicate]
/-! ### repeated -/
instance : EvR K rRep where
  run := fun S x y => match x, y with
    | .ref n, .int k => (match S[n]? with
      | some (.lst xs) => if (-(2 ^ 63) ≤ k ∧ k < 2 ^ 63) ∧ xs.length * k.toNat ≤ 100000 ∧ wfO S.length (.lst (List.replicate k.toNat xs).flatten) = true then alloc S (.lst (List.replicate k.toNat xs).flatten) else none
      | _ => none)
    | _, _ => none
  good := fun {S x y q} h wx wy => by
    split at h
    · split at h
      · split at h
        · exact alloc_good h
        · cases h
      · cases h
    · cases h
  ok := fun {S x y q ρ H Q E} h wx wy R p => by
    split at h
    · split at h
      · rename_i xs e
        split at h
        · rename_i c
          refine ⟨_, _, _, rfl, rfl, (R.get e).1, c.1.1, c.1.2, by rw [List.length_map]; exact Nat.le_trans c.2.1 (by decide), fun a ha => ?_⟩
          have z := alloc_post (E := E) h c.2.2 R p ha
          rw [← rep_map]
          exact z
        · cases h
      · cases h
    · cases h
instance : EvR K (rRepT K) where
  run := fun S x y => match x, y with
    | .ref n, .int k => (match S[n]? with
      | some (.tup xs) => if (xs ≠ [] ∧ 2 ≤ k ∧ k ≤ 1000) ∧ xs.length ≤ 1000 ∧ wfO S.length (.tup (List.replicate k.toNat xs).flatten) = true then alloc S (.tup (List.replicate k.toNat xs).flatten) else none
      | _ => none)
    | _, _ => none
  good := fun {S x y q} h wx wy => by
    split at h
    · split at h
      · split at h
        · exact alloc_good h
        · cases h
      · cases h
    · cases h
  ok := fun {S x y q ρ H Q E} h wx wy R p => by
    split at h
    · split at h
      · rename_i xs e
        split at h
        · rename_i c
          refine ⟨_, _, _, rfl, rfl, SqT.of (R.get e).1, fun z => c.1.1 (List.map_eq_nil_iff.mp z), c.1.2.1, c.1.2.2, by rw [List.length_map]; exact c.2.1, fun a ha => ?_⟩
          have z := alloc_post (E := E) h c.2.2 R p ha
          rw [← rep_map]
          exact z
        · cases h
      · cases h
    · cases h
end RunX
set_option maxHeartbeats 4000000
namespace RunX
open PySem PySem.Spec PyProof.Rows L2 He
variable [Drw] [Cbv]
variable {K : PySem.W.Frag} {E : XK}
def cutD (xs : List DV) (lo hi : Option Int) : List DV := (xs.drop (HT.sIx xs.length 0 lo)).take (HT.sIx xs.length xs.length hi - HT.sIx xs.length 0 lo)
theorem cutD_eq {ρ : List Addr} {xs : List DV} {lo hi : Option Int} : cutV (xs.map (dV K ρ)) lo hi = (cutD xs lo hi).map (dV K ρ) := by
  unfold cutV cutD
  rw [List.length_map, List.map_take, List.map_drop]
theorem cutD_wf {n : Nat} {xs : List DV} {lo hi : Option Int} (w : xs.all (wf n) = true) : (cutD xs lo hi).all (wf n) = true :=
  List.all_eq_true.mpr fun v hv => List.all_eq_true.mp w v (List.mem_of_mem_drop (List.mem_of_mem_take hv))
/-! ### slices of lists and tuples -/
instance : EvSl K (rSlL K) where
  run := fun S x lo hi => match x with
    | .ref n => (match S[n]? with
      | some (.lst xs) => alloc S (.lst (cutD xs lo hi))
      | _ => none)
    | _ => none
  good := fun {S x lo hi q} h wx => by
    split at h
    · split at h
      · exact alloc_good h
      · cases h
    · cases h
  ok := fun {S x lo hi q ρ H Q E} h wx R p => by
    split at h
    · split at h
      · rename_i xs e
        obtain ⟨g, w⟩ := R.get e
        refine ⟨_, _, rfl, SqL.of g, fun a ha => ?_⟩
        rw [cutD_eq]
        exact alloc_post (E := E) (o := .lst (cutD xs lo hi)) h (cutD_wf w) R p ha
      · cases h
    · cases h
instance : EvSl K (rSlT K) where
  run := fun S x lo hi => match x with
    | .ref n => (match S[n]? with
      | some (.tup xs) => if HT.sIx xs.length 0 lo = 0 ∧ HT.sIx xs.length xs.length hi = xs.length then none else alloc S (.tup (cutD xs lo hi))
      | _ => none)
    | _ => none
  good := fun {S x lo hi q} h wx => by
    split at h
    · split at h
      · split at h
        · cases h
        · exact alloc_good h
      · cases h
    · cases h
  ok := fun {S x lo hi q ρ H Q E} h wx R p => by
    split at h
    · split at h
      · rename_i xs e
        split at h
        · cases h
        · rename_i c
          obtain ⟨g, w⟩ := R.get e
          refine ⟨_, _, rfl, SqT.of g, by rw [List.length_map]; exact c, fun a ha => ?_⟩
          rw [cutD_eq]
          exact alloc_post (E := E) (o := .tup (cutD xs lo hi)) h (cutD_wf w) R p ha
      · cases h
    · cases h
end RunX
set_option maxHeartbeats 4000000
/-! Attributes and isinstance with the class's facts kept in the rule, none in the reading. -/
namespace PO
open PySem PySem.Spec PyProof.Rows L2
theorem imp {X : Cx} {e : Expr} {t t' : TE} (h : PE X e t) (f : ∀ σ H Q, t' σ H Q → t σ H Q) : PE X e t' := ⟨fun pins s σ H Q I q => h.run pins s σ H Q I (f σ H Q q)⟩
/-- e.f of an instance of the class at C -/
def tFldO (C : Addr) (f : Str) (ta : TE) : TE := fun σ H Q => ta σ H fun x H1 => ∃ a dx fs v, x = .ref a ∧ H1 a = some (.ins C dx fs) ∧ fs.lookup f = some v ∧ Q v H1
/-- o.f = e -/
def sFldO (C : Addr) (f : Str) (ta tv : TE) : TS := fun D σ H => tv σ H fun y H1 => ta σ H1 fun x H2 => ∃ a dx fs, x = .ref a ∧ H2 a = some (.ins C dx fs) ∧ fs.length < 1000 ∧ D.nx σ (upd H2 a (.ins C dx (putF f y fs)))
/-- o.f as a target -/
def gFldO (C : Addr) (f : Str) (ta : TE) : TG := fun y σ H Q => ta σ H fun x H2 => ∃ a dx fs, x = .ref a ∧ H2 a = some (.ins C dx fs) ∧ fs.length < 1000 ∧ Q σ (upd H2 a (.ins C dx (putF f y fs)))
inductive IsO (C : Addr) (H : Hp) : V → Bool → Prop where
  | non : IsO C H .non false
  | bl (x : Bool) : IsO C H (.bl x) false
  | int (i : Int) : IsO C H (.int i) false
  | str (x : Str) : IsO C H (.str x) false
  | lst {a : Addr} {xs : List V} (e : H a = some (.lst xs)) : IsO C H (.ref a) false
  | tup {a : Addr} {xs : List V} (e : H a = some (.tup xs)) : IsO C H (.ref a) false
  | dK {a : Addr} {kvs : List (Key × V)} (e : H a = some (.dK kvs)) : IsO C H (.ref a) false
  | dT {a : Addr} {kvs : List (List Key × V)} (e : H a = some (.dT kvs)) : IsO C H (.ref a) false
  | ins {a dx : Addr} {fs : List (Str × V)} (e : H a = some (.ins C dx fs)) : IsO C H (.ref a) true
/-- isinstance(x, C) -/
def rIsO (C : Addr) : List V → Hp → VK → Prop := fun xs H Q => ∃ x b, xs = [x, .ref C] ∧ IsO C H x b ∧ Q (.bl b) H
/-- what must be known of the class for it -/
structure IsF (K : PySem.W.Frag) (C : Addr) : Prop where
  non : PySem.W.kitOne K (.type "NoneType") (.ref C) = some false
  bl : PySem.W.kitOne K (.type "bool") (.ref C) = some false
  int : PySem.W.kitOne K (.type "int") (.ref C) = some false
  str : PySem.W.kitOne K (.type "str") (.ref C) = some false
  lst : PySem.W.kitOne K (.type "list") (.ref C) = some false
  tup : PySem.W.kitOne K (.type "tuple") (.ref C) = some false
  dct : PySem.W.kitOne K (.type "dict") (.ref C) = some false
  own : PySem.W.kitOne K (.ref C) (.ref C) = some true
  ins : ∀ {H : Hp} {a dx : Addr} {fs : List (Str × V)}, H a = some (.ins C dx fs) → TyOf K H (.ref a) (.ref C)
section
variable {X : Cx} {C : Addr} {f : Str} {e o v : Expr} {ta tv : TE} {pos pos' : Pos}
theorem pe_fldO (c : Cls X.K C) (n : NoAttr X.K C f) (he : PE X e ta) (hb : attributeBase e f X.env (eval e X.env) = eval e X.env := by rfl) : PE X (.Attribute e f pos) (tFldO C f ta) := by
  refine ⟨fun pins s σ H Q I h => attr_of hb (thn (he.run pins s σ H _ I h) fun u s1 ⟨x, H1, I1, rx, a, dx, fs, z, ex, ea, l, q⟩ => ?_)⟩
  subst ex
  obtain rfl : u = Value.ref a := rx
  exact getattr_ok I1 ea c n l fun u' s2 I2 ru => ⟨z, H1, I2, ru, q⟩
theorem ps_fldO (c : Cls X.K C) (n : NoAttr X.K C f) (ho : PE X o ta) (hv : PE X v tv) (hs : swapsWith v (some (.Attribute o f pos')) pos.line X.env = pure false := by rfl) : PS X (.Assign [.Attribute o f pos'] v pos) (sFldO C f ta tv) := by
  refine ⟨fun pins s σ H D I h => plainObj_wpAny_Assign_Attribute (thn (hv.run pins s σ H _ I h) fun u s1 ⟨y, H1, I1, ry, q⟩ => thn (ho.run pins s1 σ H1 _ I1 q) fun ov s2 ⟨x, H2, I2, rx, a, dx, fs, ex, ea, l, q2⟩ => ?_) hs⟩
  subst ex
  obtain rfl : ov = Value.ref a := rx
  exact setattr_ok I2 ea c n l ry fun s3 I3 => ⟨σ, _, I3, q2⟩
theorem pg_fldO (c : Cls X.K C) (n : NoAttr X.K C f) (ho : PE X o ta) : PG X (.Attribute o f pos) (gFldO C f ta) := by
  refine ⟨fun pins s σ H y u Q I ry h => ?_⟩
  rw [arm_assign_Attribute]
  refine wpAny_bind (wpAny_holding (thn (ho.run pins s σ H _ I h) fun ov s2 ⟨x, H2, I2, rx, a, dx, fs, ex, ea, l, q2⟩ => ?_))
  subst ex
  obtain rfl : ov = Value.ref a := rx
  exact wpAny_bind (wpAny_standAt (wpAny_bind (wpAny_holding (setattr_ok I2 ea c n l ry fun s3 I3 => wpAny_release ⟨σ, _, I3, q2⟩))))
theorem call_isO (F : IsF X.K C) : CallR X (.builtin "isinstance") (rIsO C) := by
  intro pins s σ H xs us Q I r h
  obtain ⟨x, b, rfl, i, q⟩ := h
  have fin : ∀ t, TyOf X.K H x t → PySem.W.kitOne X.K t (.ref C) = some b → wpAny (model X.prog X.w) X.A (call (.builtin "isinstance") us) (EP X pins σ Q) X.xe s := fun t ty k =>
    call_isi pins s σ H [x, .ref C] us Q I r ⟨x, .ref C, t, .ref C, b, rfl, .own C, .base ty, k, q⟩
  cases i with
  | non => exact fin _ .non F.non
  | bl z => exact fin _ (.bl z) F.bl
  | int z => exact fin _ (.int z) F.int
  | str z => exact fin _ (.str z) F.str
  | lst e => exact fin _ (.lst e) F.lst
  | tup e => exact fin _ (.tup e) F.tup
  | dK e => exact fin _ (.dK e) F.dct
  | dT e => exact fin _ (.dT e) F.dct
  | ins e => exact fin _ (F.ins e) F.own
end
end PO
set_option maxHeartbeats 4000000
/-! Objects of own classes: attributes, methods, new ones, isinstance. -/
namespace RunX
open PySem PySem.Spec PyProof.Rows L2 He PO
variable [Drw] [Cbv]
variable {K : PySem.W.Frag} {E : XK}
theorem look_map {ρ : List Addr} {f : Str} : ∀ {fs : List (Str × DV)}, (fs.map fun p => (p.1, dV K ρ p.2)).lookup f = (fs.lookup f).map (dV K ρ)
  | [] => rfl
  | (g, x) :: r => by
    rw [List.map_cons, List.lookup_cons, List.lookup_cons]
    cases f == g
    · exact look_map
    · rfl
def putA (f : Str) (v : DV) : List (Str × DV) → List (Str × DV)
  | [] => [(f, v)]
  | (g, x) :: r => if g = f then (g, v) :: r else (g, x) :: putA f v r
theorem put_map {ρ : List Addr} {f : Str} {v : DV} : ∀ {fs : List (Str × DV)}, putF f (dV K ρ v) (fs.map fun p => (p.1, dV K ρ p.2)) = (putA f v fs).map fun p => (p.1, dV K ρ p.2)
  | [] => rfl
  | (g, x) :: r => by
    simp only [List.map_cons, putF, putA]
    split
    · rfl
    · rw [put_map]
      rfl
theorem put_wf {n : Nat} {f : Str} {v : DV} (wv : wf n v = true) : ∀ {fs : List (Str × DV)}, (fs.all fun p => wf n p.2) = true → ((putA f v fs).all fun p => wf n p.2) = true
  | [], _ => by
    show (wf n v && true) = true
    rw [wv]
    rfl
  | (g, x) :: r, h => by
    obtain ⟨h1, h2⟩ := ba (show (wf n x && r.all fun p => wf n p.2) = true from h)
    unfold putA
    split
    · show (wf n v && _) = true
      rw [wv, h2]
      rfl
    · show (wf n x && _) = true
      rw [h1, put_wf wv h2]
      rfl
theorem look_wf {n : Nat} {f : Str} {v : DV} : ∀ {fs : List (Str × DV)}, (fs.all fun p => wf n p.2) = true → fs.lookup f = some v → wf n v = true
  | (g, x) :: r, h, e => by
    obtain ⟨h1, h2⟩ := ba (show (wf n x && r.all fun p => wf n p.2) = true from h)
    rw [List.lookup_cons] at e
    cases c : f == g
    · rw [c] at e
      exact look_wf h2 e
    · rw [c] at e
      cases e
      exact h1
/-- the instance at x -/
def insD (C : Str) (S : List DO) : DV → Option (Nat × Nat × List (Str × DV))
  | .ref n => (match S[n]? with
    | some (.ins D dx fs) => if D = C then some (n, dx, fs) else none
    | _ => none)
  | _ => none
theorem insD_ok {ρ : List Addr} {S : List DO} {H : Hp} {C : Str} {x : DV} {n dx : Nat} {fs : List (Str × DV)} (R : Rep K ρ S H) (h : insD C S x = some (n, dx, fs)) :
    x = .ref n ∧ S[n]? = some (.ins C dx fs) ∧ H (ρ.getD n 0) = some (.ins (ga K C) (ρ.getD dx 0) (fs.map fun p => (p.1, dV K ρ p.2))) ∧ (decide (dx < S.length) && fs.all fun p => wf S.length p.2) = true := by
  unfold insD at h
  split at h
  · split at h
    · rename_i e
      split at h
      · rename_i c
        cases h
        subst c
        obtain ⟨g, w⟩ := R.get e
        exact ⟨rfl, e, g, w⟩
      · cases h
    · cases h
  · cases h
theorem insD_wf {S : List DO} {C : Str} {x : DV} {n dx : Nat} {fs : List (Str × DV)} (h : insD C S x = some (n, dx, fs)) : x = .ref n ∧ S[n]? = some (.ins C dx fs) := by
  unfold insD at h
  split at h
  · split at h
    · rename_i e
      split at h
      · rename_i c
        cases h
        subst c
        exact ⟨rfl, e⟩
      · cases h
    · cases h
  · cases h
/-- e.f -/
instance (C f : Str) (te : TE) [e : EvE K E te] : EvE K E (tFldO (ga K C) f te) where
  run := fun σ S => bindE (e.run σ S) fun x S1 => match insD C S1 x with
    | some (_, _, fs) => (match fs.lookup f with
      | some v => if wf S1.length v = true then retS v S1 else none
      | none => none)
    | none => none
  good := fun {σ S r} h w => bind_good (te := te) h w fun {x S1 r} l wx h => by
    split at h
    · split at h
      · split at h
        · rename_i c
          exact ret_good h c
        · cases h
      · cases h
    · cases h
  ok := fun {σ S r ρ H Q} h w R p => bind_ok (te := te) h w R p fun {x S1 ρ1 H1} l wx h R1 F1 eσ p => by
    split at h
    · rename_i n dx fs hi
      split at h
      · rename_i v hv
        split at h
        · obtain ⟨rfl, e1, g, wi⟩ := insD_ok R1 hi
          exact ⟨_, _, _, dV K ρ1 v, rfl, g, by rw [look_map, hv]; rfl, ret_post (E := E) h R1 p⟩
        · cases h
      · cases h
    · cases h
/-- o.f = e -/
instance (C f : Str) (te tv : TE) [e : EvE K E te] [v : EvE K E tv] : EvS K E (sFldO (ga K C) f te tv) where
  run := fun σ S => bindX (v.run σ S) fun y S1 => bindX (e.run σ S1) fun x S2 => match insD C S2 x with
    | some (n, dx, fs) => if fs.length < 1000 ∧ wfO S2.length (.ins C dx (putA f y fs)) = true then some (.nx σ (S2.set n (.ins C dx (putA f y fs)))) else none
    | none => none
  good := fun {σ S o} h w => bindX_good (te := tv) h w fun {y S1 o} l wy h => bindX_good (te := te) h (wfS_le l w) fun {x S2 o} l2 wx h => by
    split at h
    · split at h
      · cases h
        show (decide _ && _) = true
        rw [List.length_set, wfS_le l2 (wfS_le l w)]
        simp
      · cases h
    · cases h
  ok := fun {σ S o ρ H D} h w R p => bindX_ok (te := tv) h w R p fun {y S1 ρ1 H1} l wy h R1 F1 eσ p => by
    show te _ _ _
    rw [← eσ]
    refine bindX_ok (te := te) h (wfS_le l w) R1 p fun {x S2 ρ2 H2} l2 wx h R2 F2 eσ2 p => ?_
    split at h
    · rename_i n dx fs hi
      split at h
      · rename_i c
        cases h
        obtain ⟨rfl, e1, g, wi⟩ := insD_ok R2 hi
        obtain ⟨R3, F3⟩ := R2.set e1 c.2
        refine ⟨_, _, _, rfl, g, by rw [List.length_map]; exact c.1, ?_⟩
        have z := p _ _ R3 F3
        rw [eσ2] at z
        have ey : dV K ρ2 y = dV K ρ1 y := F2.val R1.len wy
        rw [← ey, put_map]
        exact z
      · cases h
    · cases h
/-! ### targets that change objects -/
class EvH (K : PySem.W.Frag) (E : XK) (g : TG) where
  run : DV → List (Option DV) → List DO → Option (List (Option DV) × List DO)
  good : ∀ {v σ S σ' S'}, run v σ S = some (σ', S') → wf S.length v = true → wfS S.length σ = true → S.length ≤ S'.length ∧ wfS S'.length σ' = true
  ok : ∀ {v σ S σ' S' ρ H Q}, run v σ S = some (σ', S') → wf S.length v = true → wfS S.length σ = true → Rep K ρ S H → (∀ ρ' H', Rep K ρ' S' H' → Fr ρ H ρ' H' → Q (dSt K ρ' σ') H') → g (dV K ρ v) (dSt K ρ σ) H Q
instance (i : Nat) : EvH K E (gName i) where
  run := fun v σ S => some (σ.set i (some v), S)
  good := fun {v σ S σ' S'} h wv w => by
    cases h
    exact ⟨Nat.le_refl _, wfS_set w wv⟩
  ok := fun {v σ S σ' S' ρ H Q} h wv w R q => by
    cases h
    have z := q ρ H R (Fr.refl _ _)
    rw [dSt_set] at z
    exact z
instance (C f : Str) (te : TE) [e : EvE K E te] : EvH K E (gFldO (ga K C) f te) where
  run := fun y σ S => match e.run σ S with
    | some (.ret x S2) => (match insD C S2 x with
      | some (n, dx, fs) => if fs.length < 1000 ∧ wfO S2.length (.ins C dx (putA f y fs)) = true then some (σ, S2.set n (.ins C dx (putA f y fs))) else none
      | none => none)
    | _ => none
  good := fun {v σ S σ' S'} h wv w => by
    split at h
    · rename_i x S2 h2
      split at h
      · split at h
        · cases h
          have l := of_decide_eq_true (ba (e.good h2 w)).1
          rw [List.length_set]
          exact ⟨l, wfS_le l w⟩
        · cases h
      · cases h
    · cases h
  ok := fun {y σ S σ' S' ρ H Q} h wv w R q => by
    split at h
    · rename_i x S2 h2
      split at h
      · rename_i n dx fs hi
        split at h
        · rename_i c
          cases h
          refine e.ok h2 w R fun ρ2 H2 R2 F2 => ?_
          obtain ⟨rfl, e1, g, wi⟩ := insD_ok R2 hi
          obtain ⟨R3, F3⟩ := R2.set e1 c.2
          refine ⟨_, _, _, rfl, g, by rw [List.length_map]; exact c.1, ?_⟩
          have z := q _ _ R3 (F2.trans R2 F3)
          rw [F2.le R.len w] at z
          have ey : dV K ρ2 y = dV K ρ y := F2.val R.len wv
          rw [← ey, put_map]
          exact z
        · cases h
      · cases h
    · cases h
class EvHs (K : PySem.W.Frag) (E : XK) (g : TGs) where
  run : List DV → List (Option DV) → List DO → Option (List (Option DV) × List DO)
  good : ∀ {vs σ S σ' S'}, run vs σ S = some (σ', S') → vs.all (wf S.length) = true → wfS S.length σ = true → S.length ≤ S'.length ∧ wfS S'.length σ' = true
  ok : ∀ {vs σ S σ' S' ρ H Q}, run vs σ S = some (σ', S') → vs.all (wf S.length) = true → wfS S.length σ = true → Rep K ρ S H → (∀ ρ' H', Rep K ρ' S' H' → Fr ρ H ρ' H' → Q (dSt K ρ' σ') H') → g (vs.map (dV K ρ)) (dSt K ρ σ) H Q
instance : EvHs K E gNil where
  run := fun vs σ S => match vs with
    | [] => some (σ, S)
    | _ => none
  good := fun {vs σ S σ' S'} h wv w => by
    split at h
    · cases h
      exact ⟨Nat.le_refl _, w⟩
    · cases h
  ok := fun {vs σ S σ' S' ρ H Q} h wv w R q => by
    split at h
    · cases h
      exact ⟨rfl, q ρ H R (Fr.refl _ _)⟩
    · cases h
theorem all_le {m n : Nat} (h : m ≤ n) {vs : List DV} (w : vs.all (wf m) = true) : vs.all (wf n) = true := List.all_eq_true.mpr fun v hv => wf_le h (List.all_eq_true.mp w v hv)
theorem Fr.vals {ρ ρ' : List Addr} {H H' : Hp} {vs : List DV} {n : Nat} (f : Fr ρ H ρ' H') (hn : ρ.length = n) (w : vs.all (wf n) = true) : vs.map (dV K ρ') = vs.map (dV K ρ) := List.map_congr_left fun v hv => f.val hn (List.all_eq_true.mp w v hv)
instance (t : TG) (u : TGs) [a : EvH K E t] [b : EvHs K E u] : EvHs K E (gCons t u) where
  run := fun vs σ S => match vs with
    | v :: r => (match a.run v σ S with
      | some (σ1, S1) => b.run r σ1 S1
      | none => none)
    | _ => none
  good := fun {vs σ S σ' S'} h wv w => by
    split at h
    · obtain ⟨w1, w2⟩ := ba (show (wf S.length _ && _) = true from wv)
      split at h
      · rename_i h1
        obtain ⟨l1, z1⟩ := a.good h1 w1 w
        obtain ⟨l2, z2⟩ := b.good h (all_le l1 w2) z1
        exact ⟨Nat.le_trans l1 l2, z2⟩
      · cases h
    · cases h
  ok := fun {vs σ S σ' S' ρ H Q} h wv w R q => by
    split at h
    · obtain ⟨w1, w2⟩ := ba (show (wf S.length _ && _) = true from wv)
      split at h
      · rename_i h1
        obtain ⟨l1, z1⟩ := a.good h1 w1 w
        refine ⟨_, _, rfl, a.ok h1 w1 w R fun ρ1 H1 R1 F1 => ?_⟩
        rw [← F1.vals R.len w2]
        exact b.ok h (all_le l1 w2) z1 R1 fun ρ2 H2 R2 F2 => q ρ2 H2 R2 (F1.trans R1 F2)
      · cases h
    · cases h
instance (n : Nat) (t : TGs) [b : EvHs K E t] : EvH K E (gTup K n t) where
  run := fun v σ S => match v with
    | .ref m => (match S[m]? with
      | some (.tup xs) => if xs.length = n ∧ xs.all (wf S.length) = true then b.run xs σ S else none
      | _ => none)
    | _ => none
  good := fun {v σ S σ' S'} h wv w => by
    split at h
    · split at h
      · split at h
        · rename_i c
          exact b.good h c.2 w
        · cases h
      · cases h
    · cases h
  ok := fun {v σ S σ' S' ρ H Q} h wv w R q => by
    split at h
    · split at h
      · rename_i xs e
        split at h
        · rename_i c
          exact ⟨_, _, rfl, SqT.of (R.get e).1, by rw [List.length_map]; exact c.1, b.ok h c.2 w R q⟩
        · cases h
      · cases h
    · cases h
instance (priority := 900) (te : TE) (n : Nat) (t : TGs) [e : EvE K E te] [g : EvH K E (gTup K n t)] : EvS K E (tAsg te (gTup K n t)) where
  run := fun σ S => bindX (e.run σ S) fun v S1 => match g.run v σ S1 with
    | some (σ', S') => some (.nx σ' S')
    | none => none
  good := fun {σ S o} h w => bindX_good (te := te) h w fun {v S1 o} l wv h => by
    split at h
    · rename_i h1
      cases h
      obtain ⟨l1, z1⟩ := g.good h1 wv (wfS_le l w)
      show (decide _ && _) = true
      rw [z1, decide_eq_true l1]
      rfl
    · cases h
  ok := fun {σ S o ρ H D} h w R p => bindX_ok (te := te) h w R p fun {v S1 ρ1 H1} l wv h R1 F1 eσ p => by
    split at h
    · rename_i h1
      cases h
      rw [← eσ]
      exact g.ok h1 wv (wfS_le l w) R1 p
    · cases h
/-! ### methods, new objects, properties -/
theorem post_call {sp : Sp} [s : EvSp K sp] {b : Bool} {ρ : List Addr} {S : List DO} {H : Hp} {Q : VK} {ds : List DV} {r : Res} {E' : XK} (hE : b = true → E' = E) (h : (if b = true then s.d.run ds S else onlyRet (s.d.run ds S)) = some r) (w : ds.all (wf S.length) = true) (R : Rep K ρ S H) (p : Post K E ρ H Q r) : sp (ds.map (dV K ρ)) H Q E' := by
  cases b with
  | true =>
    rw [hE rfl]
    exact s.ok h w R p
  | false =>
    obtain ⟨v, S2, h1, rfl⟩ := onlyRet_eq h
    exact s.ok h1 w R p
theorem good_call {sp : Sp} [s : EvSp K sp] {b : Bool} {S : List DO} {ds : List DV} {r : Res} (h : (if b = true then s.d.run ds S else onlyRet (s.d.run ds S)) = some r) (w : ds.all (wf S.length) = true) : good S.length r = true := by
  cases b with
  | true => exact s.d.good h w
  | false =>
    obtain ⟨v, S2, h1, rfl⟩ := onlyRet_eq h
    exact s.d.good h1 w
section
variable (b : Bool) (C m : Str) (sp : Sp) (E' : XK) (te : TE) (ta : TA) [e : EvE K E te] [a : EvA K E ta] [s : EvSp K sp]
def methRun (σ : List (Option DV)) (S : List DO) : Option Res := bindE (e.run σ S) fun x S1 => match insD C S1 x with
    | some (_, _, fs) => if fs.lookup m = none then bindA (a.run σ S1) fun vs S2 => if (wf S2.length x) = true then (if b = true then s.d.run (x :: vs) S2 else onlyRet (s.d.run (x :: vs) S2)) else none else none
    | none => none
theorem meth_good {σ S r} (h : methRun (K := K) (E := E) b C m sp te ta σ S = some r) (w : wfS S.length σ = true) : good S.length r = true := bind_good (te := te) h w fun {x S1 r} l wx h => by
    split at h
    · split at h
      · exact bindA_good (ta := ta) h (wfS_le l w) fun {vs S2 r} l2 wv h => by
          split at h
          · rename_i c
            exact good_call (K := K) h (by show (wf _ x && _) = true; rw [c, wv]; rfl)
          · cases h
      · cases h
    · cases h
theorem meth_ok (hE : b = true → E' = E) {σ S r ρ H Q} (h : methRun (K := K) (E := E) b C m sp te ta σ S = some r) (w : wfS S.length σ = true) (R : Rep K ρ S H) (p : Post K E ρ H Q r) : tMeth (ga K C) m sp [] E' te ta (dSt K ρ σ) H Q := bind_ok (te := te) h w R p fun {x S1 ρ1 H1} l wx h R1 F1 eσ p => by
    split at h
    · rename_i n dx fs hi
      split at h
      · rename_i hl
        obtain ⟨rfl, e1, g, wi⟩ := insD_ok R1 hi
        refine ⟨_, _, _, rfl, g, by rw [look_map, hl]; rfl, ?_⟩
        rw [← eσ]
        refine bindA_ok (ta := ta) h (wfS_le l w) R1 p fun {vs S2 ρ2 H2} l2 wv h R2 F2 p => ?_
        split at h
        · rename_i c
          have ex : dV K ρ2 (.ref n) = dV K ρ1 (.ref n) := F2.val R1.len wx
          rw [List.append_nil, ← ex]
          exact post_call (K := K) (ds := .ref n :: vs) hE h (by show (wf _ _ && _) = true; rw [c, wv]; rfl) R2 p
        · cases h
      · cases h
    · cases h
end
instance (C m : Str) (sp : Sp) (te : TE) (ta : TA) [e : EvE K E te] [a : EvA K E ta] [s : EvSp K sp] : EvE K E (tMeth (ga K C) m sp [] E te ta) := ⟨methRun (K := K) (E := E) true C m sp te ta, meth_good (K := K) true C m sp te ta, RunX.meth_ok (K := K) true C m sp E te ta fun _ => rfl⟩
instance (priority := 1100) (C m : Str) (sp : Sp) (te : TE) (ta : TA) [e : EvE K E te] [a : EvA K E ta] [s : EvSp K sp] : EvE K E (tMeth (ga K C) m sp [] E0 te ta) := ⟨methRun (K := K) (E := E) false C m sp te ta, meth_good (K := K) false C m sp te ta, RunX.meth_ok (K := K) false C m sp E0 te ta fun z => nomatch z⟩
section
variable (b : Bool) (C : Str) (sp : Sp) (E' : XK) (te : TE) [e : EvE K E te] [s : EvSp K sp]
def propRun (σ : List (Option DV)) (S : List DO) : Option Res := bindE (e.run σ S) fun x S1 => match insD C S1 x with
    | some (_, _, fs) => if b = true then s.d.run [x] S1 else onlyRet (s.d.run [x] S1)
    | none => none
theorem prop_good {σ S r} (h : propRun (K := K) (E := E) b C sp te σ S = some r) (w : wfS S.length σ = true) : good S.length r = true := bind_good (te := te) h w fun {x S1 r} l wx h => by
    split at h
    · exact good_call (K := K) h (by show (wf _ x && _) = true; rw [wx]; rfl)
    · cases h
theorem prop_ok (hE : b = true → E' = E) {σ S r ρ H Q} (h : propRun (K := K) (E := E) b C sp te σ S = some r) (w : wfS S.length σ = true) (R : Rep K ρ S H) (p : Post K E ρ H Q r) : tProp (ga K C) sp [] E' te (dSt K ρ σ) H Q := bind_ok (te := te) h w R p fun {x S1 ρ1 H1} l wx h R1 F1 eσ p => by
    split at h
    · rename_i n dx fs hi
      obtain ⟨rfl, e1, g, wi⟩ := insD_ok R1 hi
      exact ⟨_, _, _, rfl, g, post_call (K := K) (ds := [.ref n]) hE h (by show (wf _ _ && _) = true; rw [wx]; rfl) R1 p⟩
    · cases h
end
instance (C : Str) (sp : Sp) (te : TE) [e : EvE K E te] [s : EvSp K sp] : EvE K E (tProp (ga K C) sp [] E te) := ⟨propRun (K := K) (E := E) true C sp te, prop_good (K := K) true C sp te, RunX.prop_ok (K := K) true C sp E te fun _ => rfl⟩
instance (priority := 1100) (C : Str) (sp : Sp) (te : TE) [e : EvE K E te] [s : EvSp K sp] : EvE K E (tProp (ga K C) sp [] E0 te) := ⟨propRun (K := K) (E := E) false C sp te, prop_good (K := K) false C sp te, RunX.prop_ok (K := K) false C sp E0 te fun z => nomatch z⟩
/-- __init__ tells None -/
def madeR (n : Nat) (r : Option Res) : Option Res := match r with
  | some (.ret .non S) => if n < S.length then some (.ret (.ref n) S) else none
  | some (.exc C d S) => some (.exc C d S)
  | _ => none
theorem madeR_eq {n : Nat} {r : Option Res} {q : Res} (h : madeR n r = some q) : (∃ S, r = some (.ret .non S) ∧ q = .ret (.ref n) S ∧ n < S.length) ∨ ∃ C d S, r = some (.exc C d S) ∧ q = .exc C d S := by
  unfold madeR at h
  split at h
  · split at h
    · rename_i c
      cases h
      exact .inl ⟨_, rfl, rfl, c⟩
    · cases h
  · cases h
    exact .inr ⟨_, _, _, rfl, rfl⟩
  · cases h
section
variable (b : Bool) (C : Str) (sp : Sp) (E' : XK) (ta : TA) [a : EvA K E ta] [s : EvSp K sp]
def makeRun (σ : List (Option DV)) (S : List DO) : Option Res := bindA (a.run σ S) fun vs S1 =>
  madeR (S1.length + 1) (if b = true then s.d.run (.ref (S1.length + 1) :: vs) (S1 ++ [.own (S1.length + 1), .ins C S1.length []]) else onlyRet (s.d.run (.ref (S1.length + 1) :: vs) (S1 ++ [.own (S1.length + 1), .ins C S1.length []])))
theorem make_wf {S1 : List DO} {C : Str} {vs : List DV} (wv : vs.all (wf S1.length) = true) : (DV.ref (S1.length + 1) :: vs).all (wf (S1 ++ [DO.own (S1.length + 1), .ins C S1.length []]).length) = true := by
  show (decide _ && _) = true
  rw [all_le (by simp) wv]
  simp
theorem make_good {σ S r} (h : makeRun (K := K) (E := E) b C sp ta σ S = some r) (w : wfS S.length σ = true) : good S.length r = true := bindA_good (ta := ta) h w fun {vs S1 r} l wv h => by
    have le : S1.length ≤ (S1 ++ [DO.own (S1.length + 1), .ins C S1.length []]).length := by simp
    rcases madeR_eq h with ⟨S2, h1, rfl, c⟩ | ⟨D, d, S2, h1, rfl⟩
    · have z := good_call (K := K) h1 (make_wf wv)
      obtain ⟨l2, _⟩ := ba z
      show (decide _ && decide _) = true
      rw [decide_eq_true (Nat.le_trans le (of_decide_eq_true l2)), decide_eq_true c]
      rfl
    · exact good_le le (good_call (K := K) h1 (make_wf wv))
theorem make_ok (hE : b = true → E' = E) {σ S r ρ H Q} (h : makeRun (K := K) (E := E) b C sp ta σ S = some r) (w : wfS S.length σ = true) (R : Rep K ρ S H) (p : Post K E ρ H Q r) : tMake (ga K C) sp [] E' ta (dSt K ρ σ) H Q := bindA_ok (ta := ta) h w R p fun {vs S1 ρ1 H1} l wv h R1 F1 p x dx hx hdx ne => by
    have len : ρ1.length = S1.length := R1.len
    obtain ⟨R2, F2⟩ := R1.grow (ps := [dx, x]) (os := [.own (S1.length + 1), .ins C S1.length []]) (H' := upd (upd H1 dx (.own x)) x (.ins (ga K C) dx [])) rfl (by simp [ne]) (fun a ha => by
        rcases List.mem_cons.mp ha with q | q
        · rw [q]; exact hdx
        · rw [List.mem_singleton.mp q]; exact hx)
      (fun c hc => by
        have c1 : c ≠ dx := fun z => hc (by simp [z])
        have c2 : c ≠ x := fun z => hc (by simp [z])
        rw [upd_ne c2, upd_ne c1])
      (fun i o a hi ha => by
        match i, hi, ha with
        | 0, hi, ha =>
          cases hi; cases ha
          rw [upd_ne ne, upd_same]
          simp [dO, ← len, List.getD_eq_getElem?_getD]
        | 1, hi, ha =>
          cases hi; cases ha
          rw [upd_same]
          simp [dO, ← len, List.getD_eq_getElem?_getD]
        | k + 2, hi, ha => simp at hi)
      (fun o ho => by
        rcases List.mem_cons.mp ho with q | q
        · rw [q]; exact ⟨decide_eq_true (by simp), rfl⟩
        · rw [List.mem_singleton.mp q]; exact ⟨by show (decide _ && true) = true; simp, rfl⟩)
    have ex : ∀ {ρ' H'}, Fr (ρ1 ++ [dx, x]) (upd (upd H1 dx (.own x)) x (.ins (ga K C) dx [])) ρ' H' → dV K ρ' (.ref (S1.length + 1)) = .ref x := fun F => by
      show V.ref _ = _
      rw [F.at (by simp [len])]
      simp [← len, List.getD_eq_getElem?_getD]
    have ev : (DV.ref (S1.length + 1) :: vs).map (dV K (ρ1 ++ [dx, x])) = .ref x :: (vs.map (dV K ρ1) ++ []) := by
      rw [List.map_cons, ex (Fr.refl _ _), F2.vals R1.len wv, List.append_nil]
    rw [← ev]
    rcases madeR_eq h with ⟨S2, h1, rfl, c⟩ | ⟨D, d, S2, h1, rfl⟩
    · refine post_call (K := K) hE h1 (make_wf wv) R2 fun ρ3 H3 R3 F3 => ⟨rfl, ?_⟩
      have z := p ρ3 H3 R3 (F2.trans R2 F3)
      rw [ex F3] at z
      exact z
    · exact post_call (K := K) hE h1 (make_wf wv) R2 (PostX.of p R2 F2)
end
instance (C : Str) (sp : Sp) (ta : TA) [a : EvA K E ta] [s : EvSp K sp] : EvE K E (tMake (ga K C) sp [] E ta) := ⟨makeRun (K := K) (E := E) true C sp ta, make_good (K := K) true C sp ta, RunX.make_ok (K := K) true C sp E ta fun _ => rfl⟩
instance (priority := 1100) (C : Str) (sp : Sp) (ta : TA) [a : EvA K E ta] [s : EvSp K sp] : EvE K E (tMake (ga K C) sp [] E0 ta) := ⟨makeRun (K := K) (E := E) false C sp ta, make_good (K := K) false C sp ta, RunX.make_ok (K := K) false C sp E0 ta fun z => nomatch z⟩
/-! ### isinstance of an own class -/
def isOD (C : Str) (S : List DO) : DV → Option Bool
  | .non => some false
  | .bl _ => some false
  | .int _ => some false
  | .str _ => some false
  | .ref n => (match S[n]? with
    | some (.lst _) => some false
    | some (.tup _) => some false
    | some (.dK _) => some false
    | some (.dT _) => some false
    | some (.ins D _ _) => if D = C then some true else none
    | _ => none)
  | _ => none
theorem isOD_ok {ρ : List Addr} {S : List DO} {H : Hp} {C : Str} {x : DV} {b : Bool} (R : Rep K ρ S H) (h : isOD C S x = some b) : IsO (ga K C) H (dV K ρ x) b := by
  unfold isOD at h
  split at h
  · cases h; exact .non
  · cases h; exact .bl _
  · cases h; exact .int _
  · cases h; exact .str _
  · split at h
    · rename_i n _ _ e; cases h; exact .lst (R.get e).1
    · rename_i n _ _ e; cases h; exact .tup (R.get e).1
    · rename_i n _ _ e; cases h; exact .dK (R.get e).1
    · rename_i n _ _ e; cases h; exact .dT (R.get e).1
    · rename_i n _ _ _ _ e
      split at h
      · rename_i c
        cases h
        subst c
        exact .ins (R.get e).1
      · cases h
    · cases h
  · cases h
instance (C : Str) : EvB K (rIsO (ga K C)) where
  run := fun ds S => match ds with
    | [x, .glo D] => if D = C then (match isOD C S x with
      | some b => retS (.bl b) S
      | none => none) else none
    | _ => none
  good := fun {ds S q} h w => by
    split at h
    · split at h
      · split at h
        · exact ret_good h rfl
        · cases h
      · cases h
    · cases h
  ok := fun {ds S q ρ H Q E} h w R p => by
    split at h
    · rename_i x D
      split at h
      · rename_i c
        subst c
        split at h
        · rename_i b hb
          exact ⟨_, b, rfl, isOD_ok R hb, ret_post (E := E) h R p⟩
        · cases h
      · cases h
    · cases h
end RunX
set_option maxHeartbeats 4000000
/-! Dict comprehensions whose keys are tuples; dict comprehensions stored to a local name. -/
namespace DCT
open PySem PySem.Spec PyProof.Rows L2 NKx
/-- the dict at D takes one more key, a tuple -/
theorem put_t {X : Cx} {pins : List (Addr × Obj)} {σ : L2.St} {H : Hp} {s : Shared} {E : Value → Shared → Prop} {D b : Addr} {kvs : List (List Key × V)} {k : List Key} {v : V} {r : Value} {Q : Unit → Shared → Prop} (hu : X.A.units < cLine) (I : L2.Inv X pins σ H s) (eD : H D = some (.dT kvs))
    (eb : H b = some (.tup (k.map kV))) (few : kvs.length < sizeLine) (rv : RelV v r) (go : ∀ s', L2.Inv X pins σ (upd H D (.dT (putK kvs k v))) s' → Q () s') : wpAny (model X.prog X.w) X.A (dictSet D (.ref b) r) Q E s := by
  obtain ⟨z, hd, xs, rel, dd⟩ := dt_of I.hok eD
  have zx : xs.length ≤ sizeLine := by
    rw [← Paired.length rel]
    exact z
  have zk : (putK kvs k v).length ≤ sizeLine := by
    have := length_putK kvs k v
    omega
  refine wpAny_dictSet_heap (hsz := zx) hu (key_of I.hok eb) dd fun h' dd' sb => go _ ?_
  obtain ⟨q, es, ep, hq, g2, g3, g4, _, g5⟩ := dd'
  refine d_write I (by rw [eD]; exact True.intro) sb ⟨q, hq⟩ ⟨zk, hd, _, (rel.put k eb rv).keeps fun c ys ec => ?_, q, es, ep, hq, g2, g3, g4, g5⟩
  have nc : c ≠ D := ne_of ec eD (fun w => nomatch w)
  rw [upd_ne nc]
  exact ec
/-- a new dict at D: of ints and texts, or of tuples -/
def newD (tk : Bool) : HO := if tk = true then .dT [] else .dK []
theorem newD_ok (b : Bool) {P : Program} {w : World} {H : Hp} (h : Heap) (hb : sysModules < h.objs.size) : ObjOk P w H (h.push { cls := .type "dict", data := .dict #[] }) h.objs.size (newD b) := by
  cases b
  · exact dk_empty h hb
  · exact dt_empty h hb
/-- {k: v for ..}: b says that the keys are tuples -/
def tDcB (w : World) (b : Bool) (wi : TI) (g : TG) (tt : TT) (tk tv : TE) (vs : List Nat) : TE := fun σ H Q => wi σ H fun J H1 => ∀ D, H1 D = none → ∃ W : Nat → Nat → Hp → Prop, (∃ m, W 0 m (upd H1 D (newD b))) ∧ ∀ i m H, W i m H →
  (J.stop i H ∧ Q (.ref D) H) ∨ (J.go i H ∧ ∃ Nx : Hp → Prop, (∀ H', Nx H' → ∃ m', m' < m ∧ W (i + 1) m' H') ∧ ∀ x H', J.yld i H x H' → g x (wipe σ vs) H' fun σ2 H2 => wipe σ2 vs = wipe σ vs ∧ tt σ2 H2 fun c H3 =>
    if c = true then tk σ2 H3 fun y H4 => tv σ2 H4 fun z H5 => ∃ H6, XPut w H5 D y z H6 ∧ Nx H6 else Nx H3)
section
variable {X : Cx}
theorem core {pins : List (Addr × Obj)} {s : Shared} {σ : L2.St} {H : Hp} {Q : VK} {kx vx tg iter : Expr} {ifs : List Expr} {scope : Scope} {own : List (Str × Nat)} {pos pos' : Pos} {wi : TI} {g : TG} {tt : TT} {tk tv : TE} {use : Option (Value → Sem Unit)} {Qf : Value → Shared → Prop} (b : Bool)
    (hsy : (X.K.lookup sysModules).isSome = true) (hu : X.A.units + 65 < cLine) (hc : X.calm = true) (hN : X.N.Nodup) (I : L2.Inv X pins σ H s) (hi : PI X tg iter wi) (ok : BlkOk X.N X.env.scope scope own)
    (hg : ∀ (s : Shared) (H : Hp) (C : Addr) (cl : List (Str × Addr)) (fp : List Addr), PG (X.blk s H scope (compEnvC scope cl C X.env) fp) tg g)
    (ht : ∀ (s : Shared) (H : Hp) (C : Addr) (cl : List (Str × Addr)) (fp : List Addr), PTs (X.blk s H scope (compEnvC scope cl C X.env) fp) ifs tt)
    (hk : ∀ (s : Shared) (H : Hp) (C : Addr) (cl : List (Str × Addr)) (fp : List Addr), PE (X.blk s H scope (compEnvC scope cl C X.env) fp) kx tk)
    (he : ∀ (s : Shared) (H : Hp) (C : Addr) (cl : List (Str × Addr)) (fp : List Addr), PE (X.blk s H scope (compEnvC scope cl C X.env) fp) vx tv) (hs : ∀ x, foldedSetIterable iter X.env x = pure x)
    (h : tDcB X.w b wi g tt tk tv (own.map (·.2)) σ H Q)
    (hR : ∀ D C s' m H', L2.Inv X pins σ H' s' → Q (.ref D) H' → s'.heap.Ns C m → FpOk X pins H' C → compPost (model X.prog X.w) X.A X.xe use Qf (.ref D) C (.ok .next) s') :
    wpAny (model X.prog X.w) X.A (comprehension (.DictComp kx vx [⟨tg, iter, ifs, 0⟩] scope pos) scope X.env pos' newDict false (eval iter X.env) use) Qf X.xe s := by
  have free : ∀ y ∈ scope.names, y.2 = .free → ∃ c, X.env.cells.lookup y.1 = some c := fun y hy e => (ok.free y hy e).elim (fun k => I.ok.has _ (.inl k)) fun k => I.ok.has _ (.inr k)
  refine wpAny_comprehension_free (use := use) rfl hs (closure_ok free) ok.kind (fun y hy e => by rw [ok.uniq y hy, e]) (thn (hi.run pins s σ H _ I h) fun xv s1 hx => thn hx fun itv s2 h2 => ?_)
  obtain ⟨it, fp, tn, J, H2, rfl, I2, T, st2, f2, q⟩ := h2
  refine wpAny_newObj_type (newEnv_comp ?_)
  generalize eD : s2.heap.objs.size = D
  have nD : H2 D = none := I2.hok.fresh (Nat.le_of_eq eD)
  obtain ⟨W, ⟨m0, w0⟩, turn⟩ := q D nD
  generalize e3 : ({ s2 with heap := s2.heap.push { cls := .type "dict", data := .dict #[] } } : Shared) = s3
  have I3 : L2.Inv X pins σ (upd H2 D (newD b)) s3 := by
    rw [← e3]
    refine I2.laid (t' := s2.toks) (fun c o e => Heap.get?_push_of_some _ e) (Nat.le_of_eq eD) ?_
    rw [← eD]
    exact newD_ok b s2.heap I2.big
  have h3 : s3.heap = s2.heap.push { cls := .type "dict", data := .dict #[] } := by rw [← e3]
  have low : ∀ c ∈ fp, c < s2.heap.objs.size := fun c hc' => (let ⟨o, e, _⟩ := T.obj _ _ st2 c hc'; Heap.lt_size e)
  have f3 : ∀ c ∈ fp, FpOk X pins (upd H2 D (newD b)) c ∧ c < s3.heap.objs.size := fun c hc' => by
    have hlt := low c hc'
    have nd : c ≠ D := by rw [← eD]; exact Nat.ne_of_lt hlt
    refine ⟨⟨by rw [upd_ne nd]; exact (f2 c hc').1, (f2 c hc').2⟩, ?_⟩
    rw [h3, Heap.size_push]
    exact Nat.lt_succ_of_lt hlt
  have st3 : tn 0 s3.heap := T.keep _ _ _ st2 fun c _ o e => by rw [h3]; exact Heap.get?_push_of_some _ e
  have I4 := block_start I3 ok hN f3
  have pg := hg s3 (upd H2 D (newD b)) s3.heap.objs.size (cellsFrom (s3.heap.objs.size + 1) scope.names (cloFrom X.env.cells scope.names [])) fp
  have pt := ht s3 (upd H2 D (newD b)) s3.heap.objs.size (cellsFrom (s3.heap.objs.size + 1) scope.names (cloFrom X.env.cells scope.names [])) fp
  have pk := hk s3 (upd H2 D (newD b)) s3.heap.objs.size (cellsFrom (s3.heap.objs.size + 1) scope.names (cloFrom X.env.cells scope.names [])) fp
  have pe := he s3 (upd H2 D (newD b)) s3.heap.objs.size (cellsFrom (s3.heap.objs.size + 1) scope.names (cloFrom X.env.cells scope.names [])) fp
  show codeAny _ _ (.compStart (.DictComp kx vx [⟨tg, iter, ifs, 0⟩] scope pos) 0 (.ref it) (.ref D) (compEnvC scope (cellsFrom (s3.heap.objs.size + 1) scope.names (cloFrom X.env.cells scope.names [])) s3.heap.objs.size X.env))
    (compPost (model X.prog X.w) X.A X.xe use Qf (.ref D) s3.heap.objs.size) { s3 with heap := pushCells (s3.heap.push { cls := .type "dict", data := .dict #[] }) scope.names }
  have nfp : ∀ c ∈ fp, (upd H2 D (newD b)) c = none := fun c hc' => (f3 c hc').1.1
  generalize ece : compEnvC scope (cellsFrom (s3.heap.objs.size + 1) scope.names (cloFrom X.env.cells scope.names [])) s3.heap.objs.size X.env = ce at I4 pg pt pk pe ⊢
  have cL : ce.locals = s3.heap.objs.size := by
    subst ece
    rfl
  generalize eH3 : upd H2 D (newD b) = H3 at I3 I4 pg pt pk pe w0 nfp f3
  generalize e4 : ({ s3 with heap := pushCells (s3.heap.push { cls := .type "dict", data := .dict #[] }) scope.names } : Shared) = s4 at I4 ⊢
  have st4 : tn 0 s4.heap := T.keep _ _ _ st3 fun c _ o e => by
    rw [← e4]
    exact pushCells_keeps _ _ _ _ (Heap.get?_push_of_some _ e)
  have stat : ∀ {σ' : L2.St} {H' : Hp} {s' : Shared}, L2.Inv (X.blk s3 H3 scope ce fp) [] σ' H' s' → (∀ c ∈ fp, H' c = none) → ∀ c ∈ fp, FpOk (X.blk s3 H3 scope ce fp) [] H' c := fun {σ' H' s'} I' hn c hc' =>
    ⟨hn c hc', (I'.ok.exf c hc').1, I'.ok.exfs c hc', .inl hc', fun x d e => (I'.ok.exf c hc').2 x d e, fun p hp => absurd (show p ∈ ([] : List (Addr × Obj)) ++ [] from hp) (by simp)⟩
  have loop : codeAny (model X.prog X.w) X.A (.compLoop (.DictComp kx vx [⟨tg, iter, ifs, 0⟩] scope pos) 0 (.ref it) (.ref D) ce) (compPost (model X.prog X.w) X.A X.xe use Qf (.ref D) s3.heap.objs.size) s4 := by
   refine compLoop_anyD (fun n s' => ∃ i H', L2.Inv (X.blk s3 H3 scope ce fp) [] (wipe σ (own.map (·.2))) H' s' ∧ tn i s'.heap ∧ (∀ c ∈ fp, H' c = none) ∧ W i n H') ?_ m0 ⟨0, H3, I4, st4, nfp, w0⟩
   rintro n s5 ⟨i, H5, I5, st5, n5, w5⟩
   rcases turn i n H5 w5 with ⟨stop, qq⟩ | ⟨go, Nx, hNx, step⟩
   · refine thnF (T.done (X.blk s3 H3 scope ce fp) rfl rfl rfl hc i [] s5 _ H5 (fun _ _ => False) I5 (stat I5 n5) st5 stop) fun r s6 ⟨hr, I6⟩ => ?_
     subst hr
     have I7 : L2.Inv X pins σ H5 s6 := I3.call' (ch := fp) I6.os I6.base I6.hok I6.bare fun c hc' => ⟨(f3 c hc').1.2.2.2.1, (f3 c hc').1.2.1, (f3 c hc').1.2.2.2.2.1, (f3 c hc').1.2.2.2.2.2⟩
     have nC : H5 s3.heap.objs.size = none := by
       have z : H5 ce.locals = none := I6.free
       rwa [cL] at z
     obtain ⟨m, hn, _⟩ := I6.loc
     have hn : s6.heap.Ns ce.locals m := hn
     rw [cL] at hn
     exact hR D s3.heap.objs.size s6 m H5 I7 qq hn (I3.fpOk (Nat.le_refl _) nC)
   · refine thnF (T.item (X.blk s3 H3 scope ce fp) rfl rfl rfl hc i [] s5 _ H5 (fun _ _ => False) I5 (stat I5 n5) st5 go) fun r s6 ⟨u, hr, h6⟩ => ?_
     subst hr
     refine thnF h6 fun _ s7 ⟨x, H7, I7, r7, y7, st7, n7⟩ => ?_
     have Ip := I7.pinned (stat I7 n7) (T.obj _ _ st7)
     refine thnF (pg.run _ s7 _ H7 x u _ Ip r7 (step x H7 y7)) fun _ s8 ⟨σ8, H8, I8, hw8, q8⟩ => thnF (pt.run _ s8 σ8 H8 _ I8 q8) fun c s9 ⟨H9, I9, q9⟩ => ?_
     have fin : ∀ {s' : Shared} {H' : Hp}, L2.Inv (X.blk s3 H3 scope ce fp) ([] ++ pinsAt fp s7.heap) σ8 H' s' → Nx H' → ∃ m, m < n ∧ ∃ i H', L2.Inv (X.blk s3 H3 scope ce fp) [] (wipe σ (own.map (·.2))) H' s' ∧ tn i s'.heap ∧ (∀ c ∈ fp, H' c = none) ∧ W i m H' := fun {s' H'} I' nx => by
       obtain ⟨m', hm, w'⟩ := hNx H' nx
       have pin' : ∀ d ∈ fp, ∀ o, s7.heap.get? d = some o → s'.heap.get? d = some o ∧ H' d = none := fun d hd o e =>
         (let z := I'.pin (d, o) (List.mem_append_right _ (List.mem_append_right _ (mem_pinsAt hd e))); ⟨z.1, z.2.1⟩)
       have hl : (wipe σ (own.map (·.2))).length = σ8.length := by rw [← hw8, wipe_length]
       refine ⟨m', hm, i + 1, H', (I'.unpinned (pins := [])).weak hl (fun j v e => (wipe_some (vs := own.map (·.2)) (by rw [hw8]; exact e)).1), T.keep _ _ _ st7 fun d hd o e => (pin' d hd o e).1, fun d hd => ?_, w'⟩
       obtain ⟨o, e, _⟩ := T.obj _ _ st7 d hd
       exact (pin' d hd o e).2
     cases c with
     | false =>
       simp only [Bool.false_eq_true, if_false] at q9 ⊢
       exact fin I9 q9
     | true =>
       simp only [if_true] at q9 ⊢
       refine thnF (pk.run _ s9 σ8 H9 _ I9 q9) fun z s10 ⟨yk, H10, I10, r10, q10⟩ => thnF (pe.run _ s10 σ8 H10 _ I10 q10) fun z2 s11 ⟨yv, H11, I11, r11, H12, dp, nx⟩ => ?_
       rcases dp with (⟨kvs, k, ed, ek, lk, eH⟩ | ⟨kvs, k, a, ed, ek, ea, lk, eH⟩) | np
       · subst ek eH
         exact d_dictSet (X := X.blk s3 H3 scope ce fp) I11 ed lk r10 r11 fun s12 I12 => fin I12 nx
       · subst ek eH
         cases (show z = Value.ref a from r10)
         exact put_t (X := X.blk s3 H3 scope ce fp) (Nat.lt_of_le_of_lt (Nat.le_add_right _ _) hu) I11 ed ea lk r11 fun s12 I12 => fin I12 nx
       · refine np_set (X := X.blk s3 H3 scope ce fp) (α := Unit) (f := fun _ _ _ => pure ()) (Qf := fun s12 => ∃ m, m < n ∧ ∃ i H', L2.Inv (X.blk s3 H3 scope ce fp) [] (wipe σ (own.map (·.2))) H' s12 ∧ tn i s12.heap ∧ (∀ c ∈ fp, H' c = none) ∧ W i m H') hsy I11 np r10 r11 (fun s12 I12 => fin I12 nx) _ fun k b xs eu hk dd hz go => ?_
         subst eu
         exact wpAny_dictSet_heap (knd := nkind X.prog X.w) (hsz := hz) (show X.A.units + 64 < cLine by omega) hk dd fun h' dd' sb => go h' dd' sb
  exact codeAny_compStart_dict loop (T.self X.A 0 _ _ _ st4 loop)
/-- as a value -/
theorem pe_dcB {kx vx tg iter : Expr} {ifs : List Expr} {scope : Scope} {own : List (Str × Nat)} {pos : Pos} {wi : TI} {g : TG} {tt : TT} {tk tv : TE} (b : Bool) (hsy : (X.K.lookup sysModules).isSome = true) (hu : X.A.units + 65 < cLine) (hc : X.calm = true) (hN : X.N.Nodup) (hi : PI X tg iter wi) (ok : BlkOk X.N X.env.scope scope own)
    (hg : ∀ (s : Shared) (H : Hp) (C : Addr) (cl : List (Str × Addr)) (fp : List Addr), PG (X.blk s H scope (compEnvC scope cl C X.env) fp) tg g)
    (ht : ∀ (s : Shared) (H : Hp) (C : Addr) (cl : List (Str × Addr)) (fp : List Addr), PTs (X.blk s H scope (compEnvC scope cl C X.env) fp) ifs tt)
    (hk : ∀ (s : Shared) (H : Hp) (C : Addr) (cl : List (Str × Addr)) (fp : List Addr), PE (X.blk s H scope (compEnvC scope cl C X.env) fp) kx tk)
    (he : ∀ (s : Shared) (H : Hp) (C : Addr) (cl : List (Str × Addr)) (fp : List Addr), PE (X.blk s H scope (compEnvC scope cl C X.env) fp) vx tv) (hs : ∀ x, foldedSetIterable iter X.env x = pure x := by intro _; rfl) :
    PE X (.DictComp kx vx [⟨tg, iter, ifs, 0⟩] scope pos) (tDcB X.w b wi g tt tk tv (own.map (·.2))) := by
  refine ⟨fun pins s σ H Q I h => ?_⟩
  rw [arm_eval_DictComp]
  refine core b hsy hu hc hN I hi ok hg ht hk he hs h fun D C s' m H' I' q hn f => ⟨m, hn, fun h'' sb => ?_⟩
  obtain ⟨z0, z1, z2, z3, z4, z5⟩ := f
  exact ⟨.ref D, H', I'.turned (t' := s'.toks) (fun c o hc' e => (sb.2 c hc').trans e) z0 z1 z3 z4 z5, rfl, q⟩
/-- name = {..} on one line, the name a local -/
theorem ps_setDcB {i : Nat} {y : Str} {py : Pos} {kx vx tg iter : Expr} {ifs : List Expr} {scope : Scope} {own : List (Str × Nat)} {pos spos : Pos} {wi : TI} {g : TG} {tt : TT} {tk tv : TE} (b : Bool) (hsy : (X.K.lookup sysModules).isSome = true) (hu : X.A.units + 65 < cLine) (hc : X.calm = true) (hN : X.N.Nodup) (hy : X.N[i]? = some y)
    (hyl : X.env.scope.names.lookup y = some .local) (hsw : swapsWith (.DictComp kx vx [⟨tg, iter, ifs, 0⟩] scope pos) (some (.Name y py)) spos.line X.env = pure true) (hi : PI X tg iter wi) (ok : BlkOk X.N X.env.scope scope own)
    (hg : ∀ (s : Shared) (H : Hp) (C : Addr) (cl : List (Str × Addr)) (fp : List Addr), PG (X.blk s H scope (compEnvC scope cl C X.env) fp) tg g)
    (ht : ∀ (s : Shared) (H : Hp) (C : Addr) (cl : List (Str × Addr)) (fp : List Addr), PTs (X.blk s H scope (compEnvC scope cl C X.env) fp) ifs tt)
    (hk : ∀ (s : Shared) (H : Hp) (C : Addr) (cl : List (Str × Addr)) (fp : List Addr), PE (X.blk s H scope (compEnvC scope cl C X.env) fp) kx tk)
    (he : ∀ (s : Shared) (H : Hp) (C : Addr) (cl : List (Str × Addr)) (fp : List Addr), PE (X.blk s H scope (compEnvC scope cl C X.env) fp) vx tv) (hs : ∀ x, foldedSetIterable iter X.env x = pure x := by intro _; rfl) :
    PS X (.Assign [.Name y py] (.DictComp kx vx [⟨tg, iter, ifs, 0⟩] scope pos) spos) (tAsg (tDcB X.w b wi g tt tk tv (own.map (·.2))) (gName i)) := by
  refine ⟨fun pins s σ H D I h => ?_⟩
  rw [exec_Assign_Name_used _ _ _ _ hsw]
  refine wpAny_bind (wpAny_standAt (wpAny_bind ?_))
  show wpAny _ X.A (do
    let _ ← comprehension (.DictComp kx vx [⟨tg, iter, ifs, 0⟩] scope pos) scope X.env (firstIterPos [⟨tg, iter, ifs, 0⟩] pos) newDict false (eval iter X.env) (some (assign (.Name y py) X.env))) _ _ s
  have h' : tDcB X.w b wi g tt tk tv (own.map (·.2)) σ H (fun x H1 => gName i x σ H1 D.nx) := h
  refine wpAny_bind (thn (core (Qf := fun _ s' => SP X pins D .next s') b hsy hu hc hN I hi ok hg ht hk he hs h' fun L C s' m H' I' q hn f => ?_) fun _ s' hq => wpAny_pure (wpAny_pure hq))
  show wpAny _ _ (assign (.Name y py) X.env (.ref L)) _ _ _
  obtain ⟨z0, z1, z2, z3, z4, z5⟩ := f
  refine wpAny_assign_Name (store_ok2 (v := V.ref L) I' hN hy (.inl hyl) rfl (fun s2 I2 ⟨a, sb, ha⟩ => ?_) (.inr hyl))
  have nCa : C ≠ a := ha.elim (fun z => by rw [z]; exact z1) fun z e => z4 y a z e.symm
  exact ⟨m, hn.sameBut sb nCa, fun h3 sb3 => ⟨_, H', I2.turned (t' := s2.toks) (fun c o hc' e => (sb3.2 c hc').trans e) z0 z1 z3 z4 z5, q⟩⟩
theorem sw_dc {kx vx : Expr} {gs : List Comprehension} {scope : Scope} {pos py : Pos} {y : Str} {l : Nat} {env : Env} (hk : env.scope.kind = .function) (hy : env.scope.names.lookup y = some .local) (hl : (py.line == pos.line) = true)
    (ha : (scope.names.any fun (n, k) => n == y && (k == .local || k == .cell)) = false) : swapsWith (.DictComp kx vx gs scope pos) (some (.Name y py)) l env = pure true := by
  have k1 : env.kindOf y = some .local := hy
  have k2 : env.blockKind = .function := by
    unfold Env.blockKind
    rw [hk]
    rfl
  unfold swapsWith
  simp only [k2, k1, ha, Expr.pos, hl]
  rfl
end
end DCT
set_option maxHeartbeats 4000000
/-! Dicts that are walked, under a lock; enumerate. -/
namespace RunX
open PySem PySem.Spec PyProof.Rows L2 He PO
variable [Drw] [Cbv]
variable {K : PySem.W.Frag} {E : XK}
theorem Rep.getF {ρ : List Addr} {S : List DO} {H : Hp} {n : Nat} {kvs : List (Key × DV)} (R : Rep K ρ S H) (h : S[n]? = some (.frz kvs)) : ∃ od, H (ρ.getD n 0) = some (.frz od (.dK (kvs.map fun p => (p.1, dV K ρ p.2)))) := by
  have hn : n < ρ.length := Fr.lt R h
  obtain ⟨u, eu, od, e⟩ := R.obj n _ (ρ.getD n 0) h (by rw [List.getD_eq_getElem?_getD, List.getElem?_eq_getElem hn]; rfl)
  rw [e] at eu
  exact ⟨od, eu⟩
theorem frz_at {ρ ρ' : List Addr} {S : List DO} {H0 H : Hp} {n : Nat} {o : Obj} {kv : List (Key × V)} {kvs : List (Key × DV)} (F : Fr ρ H0 ρ' H) (hn : n < ρ.length) (e0 : H0 (ρ.getD n 0) = some (.frz o (.dK kv))) (R : Rep K ρ' S H) (hs : S[n]? = some (.frz kvs)) :
    H (ρ.getD n 0) = some (.frz o (.dK kv)) ∧ kv = kvs.map fun p => (p.1, dV K ρ' p.2) := by
  have h1 := F.frz _ _ _ e0
  obtain ⟨od, h2⟩ := R.getF hs
  rw [F.at hn, h1] at h2
  cases h2
  exact ⟨h1, rfl⟩
theorem kD_ok {ρ : List Addr} (k : Key) : dV K ρ (kD k) = kV k := by
  cases k <;> rfl
theorem kD_wf {n : Nat} (k : Key) : wf n (kD k) = true := by
  cases k <;> rfl
theorem at_frz {f : Nat → ItD} {g : Key × DV → List DO → DV × List DO} {n i : Nat} {S : List DO} {q} (hf : (f n).at i S = (match S[n]? with
    | some (.frz kvs) => some (kvs[i]?.map fun x => g x S)
    | _ => none)) (h : (f n).at i S = some q) : ∃ kvs, S[n]? = some (.frz kvs) ∧ kvs[i]?.map (fun x => g x S) = q := by
  rw [hf] at h
  split at h
  · rename_i kvs hs
    exact ⟨kvs, hs, Option.some.inj h⟩
  · cases h
theorem get_map {ρ : List Addr} {kvs : List (Key × DV)} {i : Nat} {p : Key × DV} (h : kvs[i]? = some p) : (kvs.map fun p => (p.1, dV K ρ p.2))[i]? = some (p.1, dV K ρ p.2) := by
  rw [List.getElem?_map, h]
  rfl
section
variable {ρ : List Addr} {H0 : Hp} {n : Nat} {o : Obj} {kv : List (Key × V)}
theorem keys_ok (hn : n < ρ.length) (e0 : H0 (ρ.getD n 0) = some (.frz o (.dK kv))) : ItOk K ρ H0 (.keys n) (Itk (ρ.getD n 0) o kv) where
  stop := fun {ρ' S H i} F R h => by
    obtain ⟨kvs, hs, hx⟩ := at_frz (f := .keys) (g := fun x S => (kD x.1, S)) rfl h
    obtain ⟨g, ek⟩ := frz_at F hn e0 R hs
    exact ⟨g, by rw [ek, List.length_map]; exact List.getElem?_eq_none_iff.mp (Option.map_eq_none_iff.mp hx)⟩
  go := fun {ρ' S H i x} F R h => by
    obtain ⟨kvs, hs, hx⟩ := at_frz (f := .keys) (g := fun x S => (kD x.1, S)) rfl h
    obtain ⟨g, ek⟩ := frz_at F hn e0 R hs
    obtain ⟨p, hp, _⟩ := Option.map_eq_some_iff.mp hx
    exact ⟨g, by rw [ek, List.length_map]; exact (List.getElem?_eq_some_iff.mp hp).1⟩
  yld := fun {ρ' S S' H H' i x v} F R h y => by
    obtain ⟨kvs, hs, hx⟩ := at_frz (f := .keys) (g := fun x S => (kD x.1, S)) rfl h
    obtain ⟨g, ek⟩ := frz_at F hn e0 R hs
    obtain ⟨p, hp, ex⟩ := Option.map_eq_some_iff.mp hx
    cases ex
    obtain ⟨eH, k, u, hk, ev⟩ := y
    rw [ek, get_map hp] at hk
    cases hk
    subst eH
    exact ⟨ρ', R, Fr.refl _ _, by rw [ev, kD_ok]⟩
theorem vals_ok (hn : n < ρ.length) (e0 : H0 (ρ.getD n 0) = some (.frz o (.dK kv))) : ItOk K ρ H0 (.vals n) (Itd (ρ.getD n 0) o kv) where
  stop := fun {ρ' S H i} F R h => by
    obtain ⟨kvs, hs, hx⟩ := at_frz (f := .vals) (g := fun x S => (x.2, S)) rfl h
    obtain ⟨g, ek⟩ := frz_at F hn e0 R hs
    exact ⟨g, by rw [ek, List.length_map]; exact List.getElem?_eq_none_iff.mp (Option.map_eq_none_iff.mp hx)⟩
  go := fun {ρ' S H i x} F R h => by
    obtain ⟨kvs, hs, hx⟩ := at_frz (f := .vals) (g := fun x S => (x.2, S)) rfl h
    obtain ⟨g, ek⟩ := frz_at F hn e0 R hs
    obtain ⟨p, hp, _⟩ := Option.map_eq_some_iff.mp hx
    exact ⟨g, by rw [ek, List.length_map]; exact (List.getElem?_eq_some_iff.mp hp).1⟩
  yld := fun {ρ' S S' H H' i x v} F R h y => by
    obtain ⟨kvs, hs, hx⟩ := at_frz (f := .vals) (g := fun x S => (x.2, S)) rfl h
    obtain ⟨g, ek⟩ := frz_at F hn e0 R hs
    obtain ⟨p, hp, ex⟩ := Option.map_eq_some_iff.mp hx
    cases ex
    obtain ⟨eH, k, hk⟩ := y
    rw [ek, get_map hp] at hk
    cases hk
    subst eH
    exact ⟨ρ', R, Fr.refl _ _, rfl⟩
theorem items_ok (hn : n < ρ.length) (e0 : H0 (ρ.getD n 0) = some (.frz o (.dK kv))) : ItOk K ρ H0 (.items n) (Iti (ρ.getD n 0) o kv) where
  stop := fun {ρ' S H i} F R h => by
    obtain ⟨kvs, hs, hx⟩ := at_frz (f := .items) (g := fun x S => (.ref S.length, S ++ [.tup [kD x.1, x.2]])) rfl h
    obtain ⟨g, ek⟩ := frz_at F hn e0 R hs
    exact ⟨g, by rw [ek, List.length_map]; exact List.getElem?_eq_none_iff.mp (Option.map_eq_none_iff.mp hx)⟩
  go := fun {ρ' S H i x} F R h => by
    obtain ⟨kvs, hs, hx⟩ := at_frz (f := .items) (g := fun x S => (.ref S.length, S ++ [.tup [kD x.1, x.2]])) rfl h
    obtain ⟨g, ek⟩ := frz_at F hn e0 R hs
    obtain ⟨p, hp, _⟩ := Option.map_eq_some_iff.mp hx
    exact ⟨g, by rw [ek, List.length_map]; exact (List.getElem?_eq_some_iff.mp hp).1⟩
  yld := fun {ρ' S S' H H' i x v} F R h y => by
    obtain ⟨kvs, hs, hx⟩ := at_frz (f := .items) (g := fun x S => (.ref S.length, S ++ [.tup [kD x.1, x.2]])) rfl h
    obtain ⟨g, ek⟩ := frz_at F hn e0 R hs
    obtain ⟨p, hp, ex⟩ := Option.map_eq_some_iff.mp hx
    cases ex
    obtain ⟨T, k, u, hk, ev, hT, eH⟩ := y
    rw [ek, get_map hp] at hk
    cases hk
    have wk : wfO S.length (.frz kvs) = true := R.wf _ (List.mem_of_getElem? hs)
    have wp : wf S.length p.2 = true := List.all_eq_true.mp wk p (List.mem_of_getElem? hp)
    obtain ⟨R1, F1⟩ := R.new (o := .tup [kD p.1, p.2]) hT (by show (wf _ _ && (wf _ _ && true)) = true; rw [kD_wf, wp]; rfl)
    have e1 : dO K ρ' (.tup [kD p.1, p.2]) = .tup [kV p.1, dV K ρ' p.2] := by simp only [dO, List.map_cons, List.map_nil, kD_ok]
    rw [e1, ← eH] at R1 F1
    refine ⟨_, R1, F1, ?_⟩
    rw [ev]
    show V.ref T = V.ref _
    rw [← R.len]
    simp [List.getD_eq_getElem?_getD]
end
theorem Rep.getFT {ρ : List Addr} {S : List DO} {H : Hp} {n : Nat} {kvs : List (List Key × DV)} (R : Rep K ρ S H) (h : S[n]? = some (.frzT kvs)) : ∃ od, H (ρ.getD n 0) = some (.frz od (.dT (kvs.map fun p => (p.1, dV K ρ p.2)))) := by
  have hn : n < ρ.length := Fr.lt R h
  obtain ⟨u, eu, od, e⟩ := R.obj n _ (ρ.getD n 0) h (by rw [List.getD_eq_getElem?_getD, List.getElem?_eq_getElem hn]; rfl)
  rw [e] at eu
  exact ⟨od, eu⟩
theorem frzT_at {ρ ρ' : List Addr} {S : List DO} {H0 H : Hp} {n : Nat} {o : Obj} {kv : List (List Key × V)} {kvs : List (List Key × DV)} (F : Fr ρ H0 ρ' H) (hn : n < ρ.length) (e0 : H0 (ρ.getD n 0) = some (.frz o (.dT kv))) (R : Rep K ρ' S H) (hs : S[n]? = some (.frzT kvs)) :
    H (ρ.getD n 0) = some (.frz o (.dT kv)) ∧ kv = kvs.map fun p => (p.1, dV K ρ' p.2) := by
  have h1 := F.frz _ _ _ e0
  obtain ⟨od, h2⟩ := R.getFT hs
  rw [F.at hn, h1] at h2
  cases h2
  exact ⟨h1, rfl⟩
theorem at_frzT {n i : Nat} {S : List DO} {q} (h : (ItD.keysT n).at i S = some q) : ∃ kvs, S[n]? = some (.frzT kvs) ∧ kvs[i]?.map (fun x => (DV.ref S.length, S ++ [.tup (x.1.map kD)])) = q := by
  have h' : (match S[n]? with
    | some (.frzT kvs) => some (kvs[i]?.map fun x => (DV.ref S.length, S ++ [.tup (x.1.map kD)]))
    | _ => none) = some q := h
  split at h'
  · rename_i kvs hs
    exact ⟨kvs, hs, Option.some.inj h'⟩
  · cases h'
theorem kDs_ok {ρ : List Addr} (ks : List Key) : (ks.map kD).map (dV K ρ) = ks.map kV := by
  rw [List.map_map]
  exact List.map_congr_left fun k _ => kD_ok k
theorem kDs_wf {n : Nat} (ks : List Key) : (ks.map kD).all (wf n) = true := List.all_eq_true.mpr fun v hv => by
  obtain ⟨k, _, rfl⟩ := List.mem_map.mp hv
  exact kD_wf k
theorem keysT_ok {ρ : List Addr} {H0 : Hp} {n : Nat} {o : Obj} {kv : List (List Key × V)} (hn : n < ρ.length) (e0 : H0 (ρ.getD n 0) = some (.frz o (.dT kv))) : ItOk K ρ H0 (.keysT n) (Itkt (ρ.getD n 0) o kv) where
  stop := fun {ρ' S H i} F R h => by
    obtain ⟨kvs, hs, hx⟩ := at_frzT h
    obtain ⟨g, ek⟩ := frzT_at F hn e0 R hs
    exact ⟨g, by rw [ek, List.length_map]; exact List.getElem?_eq_none_iff.mp (Option.map_eq_none_iff.mp hx)⟩
  go := fun {ρ' S H i x} F R h => by
    obtain ⟨kvs, hs, hx⟩ := at_frzT h
    obtain ⟨g, ek⟩ := frzT_at F hn e0 R hs
    obtain ⟨p, hp, _⟩ := Option.map_eq_some_iff.mp hx
    exact ⟨g, by rw [ek, List.length_map]; exact (List.getElem?_eq_some_iff.mp hp).1⟩
  yld := fun {ρ' S S' H H' i x v} F R h y => by
    obtain ⟨kvs, hs, hx⟩ := at_frzT h
    obtain ⟨g, ek⟩ := frzT_at F hn e0 R hs
    obtain ⟨p, hp, ex⟩ := Option.map_eq_some_iff.mp hx
    cases ex
    obtain ⟨eH, k, u, q, hk, ev, hq⟩ := y
    rw [ek, List.getElem?_map, hp] at hk
    cases hk
    subst eH
    obtain ⟨R1, F1⟩ := R.know (p := q) (xs := p.1.map kD) (by rw [kDs_ok]; exact hq) (kDs_wf _)
    refine ⟨_, R1, F1, ?_⟩
    rw [ev]
    show V.ref q = V.ref _
    rw [← R.len]
    simp [List.getD_eq_getElem?_getD]
/-- a pair is laid by enumerate -/
theorem enum_ok {ρ : List Addr} {H0 : Hp} {n : Nat} (hn : n < ρ.length) : ItOk K ρ H0 (.enum n) (Ite K (ρ.getD n 0)) where
  stop := fun {ρ' S H i} e R h => by
    have h' : (match S[n]? with
      | some (.lst xs) => some (xs[i]?.map fun x => (DV.ref S.length, S ++ [.tup [.int (i : Nat), x]]))
      | _ => none) = some none := h
    split at h'
    · rename_i xs hs
      have g := (R.get hs).1
      rw [e.at hn] at g
      exact ⟨_, SqL.of g, by rw [List.length_map]; exact List.getElem?_eq_none_iff.mp (Option.map_eq_none_iff.mp (Option.some.inj h'))⟩
    · cases h'
  go := fun {ρ' S H i x} e R h => by
    have h' : (match S[n]? with
      | some (.lst xs) => some (xs[i]?.map fun x => (DV.ref S.length, S ++ [.tup [.int (i : Nat), x]]))
      | _ => none) = some (some x) := h
    split at h'
    · rename_i xs hs
      obtain ⟨y, hy, _⟩ := Option.map_eq_some_iff.mp (Option.some.inj h')
      have g := (R.get hs).1
      rw [e.at hn] at g
      exact ⟨_, _, SqL.of g, by rw [List.getElem?_map, hy]; rfl⟩
    · cases h'
  yld := fun {ρ' S S' H H' i x v} e R h y => by
    have h' : (match S[n]? with
      | some (.lst xs) => some (xs[i]?.map fun x => (DV.ref S.length, S ++ [.tup [.int (i : Nat), x]]))
      | _ => none) = some (some (x, S')) := h
    split at h'
    · rename_i xs hs
      obtain ⟨z, hz, ez⟩ := Option.map_eq_some_iff.mp (Option.some.inj h')
      cases ez
      obtain ⟨g, wg⟩ := R.get hs
      rw [e.at hn] at g
      obtain ⟨T, u, ev, hT, eH, f⟩ := y
      have hu := f _ (SqL.of g)
      rw [List.getElem?_map, hz] at hu
      cases hu
      have wz : wf S.length z = true := List.all_eq_true.mp wg z (List.mem_of_getElem? hz)
      obtain ⟨R1, F1⟩ := R.new (o := .tup [.int (i : Nat), z]) hT (by show (true && (wf _ _ && true)) = true; rw [wz]; rfl)
      have e1 : dO K ρ' (.tup [.int (i : Nat), z]) = .tup [.int (i : Nat), dV K ρ' z] := rfl
      rw [e1, ← eH] at R1 F1
      refine ⟨_, R1, F1, ?_⟩
      rw [ev]
      show V.ref T = V.ref _
      rw [← R.len]
      simp [List.getD_eq_getElem?_getD]
    · cases h'
/-! ### what is walked -/
def frzAt (S : List DO) : DV → Option Nat
  | .ref n => (match S[n]? with
    | some (.frz _) => some n
    | _ => none)
  | _ => none
theorem frzAt_eq {S : List DO} {x : DV} {n : Nat} (h : frzAt S x = some n) : x = .ref n ∧ ∃ kvs, S[n]? = some (.frz kvs) := by
  unfold frzAt at h
  split at h
  · split at h
    · rename_i kvs e
      cases h
      exact ⟨rfl, kvs, e⟩
    · cases h
  · cases h
def walkRun (f : Nat → ItD) (r : Option Res) : Option (Sum (ItD × List DO) Res) := match r with
  | some (.ret x S1) => (match frzAt S1 x with
    | some n => some (.inl (f n, S1))
    | none => none)
  | some (.exc C d S1) => some (.inr (.exc C d S1))
  | none => none
theorem walk_good {f : Nat → ItD} {te : TE} [e : EvE K E te] {σ S it S1} (h : walkRun f (e.run σ S) = some (.inl (it, S1))) (w : wfS S.length σ = true) : S.length ≤ S1.length := by
  unfold walkRun at h
  split at h
  · rename_i x S2 h1
    split at h
    · cases h
      exact of_decide_eq_true (ba (e.good h1 w)).1
    · cases h
  · cases h
  · cases h
theorem walk_ok {f : Nat → ItD} {te : TE} [e : EvE K E te] {σ S q ρ H} {Qj : It → Hp → Prop} {Q1 : VK}
    (p : match q with
      | .inl (it, S1) => ∀ ρ' H' J, Rep K ρ' S1 H' → Fr ρ H ρ' H' → ItOk K ρ' H' it J → Qj J H'
      | .inr (.exc C d S1) => PostX K E ρ H C d S1
      | .inr _ => False)
    (h : walkRun f (e.run σ S) = some q) (w : wfS S.length σ = true) (R : Rep K ρ S H)
    (k : ∀ n ρ1 H1 o kv, n < ρ1.length → H1 (ρ1.getD n 0) = some (.frz o (.dK kv)) → (∀ J, ItOk K ρ1 H1 (f n) J → Qj J H1) → Q1 (.ref (ρ1.getD n 0)) H1) : te (dSt K ρ σ) H Q1 := by
  unfold walkRun at h
  split at h
  · rename_i x S1 h1
    split at h
    · rename_i n hn
      cases h
      obtain ⟨rfl, kvs, hs⟩ := frzAt_eq hn
      refine e.ok h1 w R fun ρ1 H1 R1 F1 => ?_
      obtain ⟨o, eo⟩ := R1.getF hs
      exact k n ρ1 H1 o _ (Fr.lt R1 hs) eo fun J okJ => p ρ1 H1 J R1 F1 okJ
    · cases h
  · rename_i C d S1 h1
    cases h
    exact e.ok h1 w R p
  · cases h
/-- the dict that is walked: with names and numbers for keys, with tuples -/
def frzAtB (S : List DO) : DV → Option (Nat × Bool)
  | .ref n => (match S[n]? with
    | some (.frz _) => some (n, false)
    | some (.frzT _) => some (n, true)
    | _ => none)
  | _ => none
def keysRun (r : Option Res) : Option (Sum (ItD × List DO) Res) := match r with
  | some (.ret x S1) => (match frzAtB S1 x with
    | some (n, false) => some (.inl (.keys n, S1))
    | some (n, true) => some (.inl (.keysT n, S1))
    | none => none)
  | some (.exc C d S1) => some (.inr (.exc C d S1))
  | none => none
theorem frzAtB_f {S : List DO} {x : DV} {n : Nat} (h : frzAtB S x = some (n, false)) : x = .ref n ∧ ∃ kvs, S[n]? = some (.frz kvs) := by
  unfold frzAtB at h
  split at h
  · split at h
    · rename_i kvs e
      cases h
      exact ⟨rfl, kvs, e⟩
    · cases h
    · cases h
  · cases h
theorem frzAtB_t {S : List DO} {x : DV} {n : Nat} (h : frzAtB S x = some (n, true)) : x = .ref n ∧ ∃ kvs, S[n]? = some (.frzT kvs) := by
  unfold frzAtB at h
  split at h
  · split at h
    · cases h
    · rename_i kvs e
      cases h
      exact ⟨rfl, kvs, e⟩
    · cases h
  · cases h
instance (te : TE) [e : EvE K E te] : EvI K E (iKeys te) where
  run := fun σ S => keysRun (e.run σ S)
  good := fun {σ S it S1} h w => by
    unfold keysRun at h
    split at h
    · rename_i x S2 h1
      have l := of_decide_eq_true (ba (e.good h1 w)).1
      split at h
      · cases h
        exact l
      · cases h
        exact l
      · cases h
    · cases h
    · cases h
  ok := fun {σ S q ρ H Qj} h w R p => by
    unfold keysRun at h
    split at h
    · rename_i x S1 h1
      split at h
      · rename_i n hn
        cases h
        obtain ⟨rfl, kvs, hs⟩ := frzAtB_f hn
        refine e.ok h1 w R fun ρ1 H1 R1 F1 => ?_
        obtain ⟨o, eo⟩ := R1.getF hs
        exact ⟨_, o, rfl, .inl ⟨_, eo, p ρ1 H1 _ R1 F1 (keys_ok (Fr.lt R1 hs) eo)⟩⟩
      · rename_i n hn
        cases h
        obtain ⟨rfl, kvs, hs⟩ := frzAtB_t hn
        refine e.ok h1 w R fun ρ1 H1 R1 F1 => ?_
        obtain ⟨o, eo⟩ := R1.getFT hs
        exact ⟨_, o, rfl, .inr ⟨_, eo, p ρ1 H1 _ R1 F1 (keysT_ok (Fr.lt R1 hs) eo)⟩⟩
      · cases h
    · rename_i C d S1 h1
      cases h
      exact e.ok h1 w R p
    · cases h
instance (te : TE) [e : EvE K E te] : EvI K E (iKeysM te) where
  run := fun σ S => walkRun .keys (e.run σ S)
  good := fun {σ S it S1} h w => walk_good (te := te) h w
  ok := fun {σ S q ρ H Qj} h w R p => walk_ok (te := te) p h w R fun n ρ1 H1 o kv hn eo go => ⟨_, o, kv, rfl, eo, go _ (keys_ok hn eo)⟩
instance (te : TE) [e : EvE K E te] : EvI K E (iVals te) where
  run := fun σ S => walkRun .vals (e.run σ S)
  good := fun {σ S it S1} h w => walk_good (te := te) h w
  ok := fun {σ S q ρ H Qj} h w R p => walk_ok (te := te) p h w R fun n ρ1 H1 o kv hn eo go => ⟨_, o, kv, rfl, eo, go _ (vals_ok hn eo)⟩
instance (te : TE) [e : EvE K E te] : EvI K E (iItems te) where
  run := fun σ S => walkRun .items (e.run σ S)
  good := fun {σ S it S1} h w => walk_good (te := te) h w
  ok := fun {σ S q ρ H Qj} h w R p => walk_ok (te := te) p h w R fun n ρ1 H1 o kv hn eo go => ⟨_, o, kv, rfl, eo, go _ (items_ok hn eo)⟩
instance (ta : TA) [a : EvA K E ta] : EvI K E (iEnum K ta) where
  run := fun σ S => match a.run σ S with
    | some (.ret [.ref n] S1) => (match S1[n]? with
      | some (.lst _) => some (.inl (.enum n, S1))
      | _ => none)
    | some (.exc C d S1) => some (.inr (.exc C d S1))
    | _ => none
  good := fun {σ S it S1} h w => by
    split at h
    · rename_i n S2 h1
      split at h
      · cases h
        exact of_decide_eq_true (ba (a.good h1 w)).1
      · cases h
    · cases h
    · cases h
  ok := fun {σ S q ρ H Qj} h w R p => by
    split at h
    · rename_i n S1 h1
      split at h
      · rename_i xs hs
        cases h
        exact a.ok h1 w R fun ρ1 H1 R1 F1 => ⟨_, _, rfl, SqL.of (R1.get hs).1, p ρ1 H1 _ R1 F1 (enum_ok (Fr.lt R1 hs))⟩
      · cases h
    · rename_i C d S1 h1
      cases h
      exact a.ok h1 w R p
    · cases h
/-! ### the lock -/
class PeekI (K : PySem.W.Frag) (E : XK) (wi : TI) where
  run : List (Option DV) → List DO → Option Res
instance (te : TE) [e : EvE K E te] : PeekI K E (iKeys te) := ⟨e.run⟩
instance (te : TE) [e : EvE K E te] : PeekI K E (iKeysM te) := ⟨e.run⟩
instance (te : TE) [e : EvE K E te] : PeekI K E (iVals te) := ⟨e.run⟩
instance (te : TE) [e : EvE K E te] : PeekI K E (iItems te) := ⟨e.run⟩
class PeekE (K : PySem.W.Frag) (E : XK) (te : TE) where
  run : List (Option DV) → List DO → Option Res
instance (wi : TI) (g : TG) (tt : TT) (te : TE) (vs : List Nat) [p : PeekI K E wi] : PeekE K E (tLc wi g tt te vs) := ⟨p.run⟩
instance (w : World) (b : Bool) (wi : TI) (g : TG) (tt : TT) (tk tv : TE) (vs : List Nat) [p : PeekI K E wi] : PeekE K E (DCT.tDcB w b wi g tt tk tv vs) := ⟨p.run⟩
/-- a dict, and as it is walked -/
def isDct : DO → Bool
  | .dK _ => true
  | .dT _ => true
  | _ => false
def frzO : DO → DO
  | .dK kvs => .frz kvs
  | .dT kvs => .frzT kvs
  | o => o
def dictAt (S : List DO) (r : Option Res) : Option (Nat × DO) := match r with
  | some (.ret (.ref n) _) => (match S[n]? with
    | some o => if isDct o = true then some (n, o) else none
    | none => none)
  | _ => none
theorem dictAt_eq {S : List DO} {r : Option Res} {n : Nat} {o : DO} (h : dictAt S r = some (n, o)) : S[n]? = some o ∧ isDct o = true := by
  unfold dictAt at h
  split at h
  · split at h
    · rename_i e
      split at h
      · rename_i c
        cases h
        exact ⟨e, c⟩
      · cases h
    · cases h
  · cases h
theorem isDct_plain {o : DO} (d : isDct o = true) : plainO o = true := by
  cases o <;> first | rfl | cases d
theorem frz_sh {ρ : List Addr} {o : DO} (d : isDct o = true) (od : Obj) : Sh K ρ (frzO o) (.frz od (dO K ρ o)) := by
  cases o <;> first | exact ⟨od, rfl⟩ | cases d
theorem frz_wf {n : Nat} {o : DO} (d : isDct o = true) (w : wfO n o = true) : wfO n (frzO o) = true := by
  cases o <;> first | exact w | cases d
theorem dct_mut {ρ : List Addr} {o : DO} (d : isDct o = true) : Mut (some (dO K ρ o)) := by
  cases o <;> first | exact trivial | cases d
theorem dct_nt {ρ : List Addr} {o : DO} {xs : List V} (d : isDct o = true) (e : dO K ρ o = .tup xs) : False := by
  cases o with
  | tup ys => cases d
  | _ => cases e
theorem dct_ntup {o : DO} (d : isDct o = true) : notTup o = true := by
  cases o <;> first | rfl | cases d
section
variable {ρ ρ' : List Addr} {S S' : List DO} {H H' : Hp} {n : Nat} {o : DO} {od : Obj}
theorem lock_in (R : Rep K ρ S H) (hs : S[n]? = some o) (d : isDct o = true) (od : Obj) : Rep K ρ (S.set n (frzO o)) (upd H (ρ.getD n 0) (.frz od (dO K ρ o))) :=
  R.put0 hs (nt := dct_ntup d) (frz_wf d (R.wf _ (List.mem_of_getElem? hs))) (frz_sh d od)
theorem lock_out (R : Rep K ρ S H) (hs : S[n]? = some o) (d : isDct o = true) (R' : Rep K ρ' S' H') (F : Fr ρ (upd H (ρ.getD n 0) (.frz od (dO K ρ o))) ρ' H') (hl : S.length ≤ S'.length) :
    H' (ρ.getD n 0) = some (.frz od (dO K ρ o)) ∧ Rep K ρ' (S'.set n o) (upd H' (ρ.getD n 0) (dO K ρ o)) ∧ Fr ρ H ρ' (upd H' (ρ.getD n 0) (dO K ρ o)) := by
  have hn : n < ρ.length := Fr.lt R hs
  have wk : wfO S.length o = true := R.wf _ (List.mem_of_getElem? hs)
  have hn' : n < S'.length := Nat.lt_of_lt_of_le (by rw [← R.len]; exact hn) hl
  have md : ρ.getD n 0 ∈ ρ := by
    rw [List.getD_eq_getElem?_getD, List.getElem?_eq_getElem hn]
    exact List.getElem_mem hn
  have eD : H (ρ.getD n 0) = some (dO K ρ o) := (R.get hs (isDct_plain d)).1
  have ek : dO K ρ' o = dO K ρ o := by
    obtain ⟨m, e, _⟩ := F.pre
    rw [e]
    exact dO_app (by rw [R.len]; exact wk)
  have hfz : notTup (S'[n]'hn') = true := by
    obtain ⟨h, eh, sh⟩ := R'.obj n _ (ρ'.getD n 0) (List.getElem?_eq_getElem hn') (by rw [List.getD_eq_getElem?_getD, List.getElem?_eq_getElem (by rw [R'.len]; exact hn')]; rfl)
    rw [F.at hn, F.frz _ _ _ upd_same] at eh
    cases eh
    revert sh
    cases S'[n]'hn' with
    | tup ys => intro sh; cases (show HO.frz _ _ = HO.tup _ from sh)
    | _ => intro _; rfl
  have R2 := R'.put0 (List.getElem?_eq_getElem hn') (nt := hfz) (o' := o) (u' := dO K ρ' o) (wfO_le hl wk) (Sh.of (isDct_plain d))
  rw [F.at hn, ek] at R2
  refine ⟨F.frz _ _ _ upd_same, R2, ⟨?_, fun b u nb hb nt => ?_, fun b u v hb => ?_, fun b xs hb => ?_, fun b xs hb => ?_⟩⟩
  · obtain ⟨m, e, hm⟩ := F.pre
    refine ⟨m, e, fun a ha => ?_⟩
    have z := hm a ha
    by_cases c : a = ρ.getD n 0
    · rw [c, upd_same] at z
      rcases z with z | ⟨xs, z⟩ | ⟨xs, z⟩ <;> cases z
    · rwa [upd_ne c] at z
  · have c : b ≠ ρ.getD n 0 := fun z => nb (by rw [z]; exact md)
    rw [upd_ne c]
    exact F.out b u nb (by rw [upd_ne c]; exact hb) nt
  · have c : b ≠ ρ.getD n 0 := fun z => by
      rw [z, eD] at hb
      exact dO_nf (Option.some.inj hb)
    rw [upd_ne c]
    exact F.frz b u v (by rw [upd_ne c]; exact hb)
  · have c : b ≠ ρ.getD n 0 := fun z => by
      rw [z, eD] at hb
      exact dct_nt d (Option.some.inj hb)
    rw [upd_ne c]
    exact F.tup b xs (by rw [upd_ne c]; exact hb)
  · by_cases c : b = ρ.getD n 0
    · rw [c, upd_same] at hb
      exact (dct_nt d (Option.some.inj hb)).elim
    · rw [upd_ne c] at hb
      have z := F.was b xs hb
      rwa [upd_ne c] at z
end
def unlockE (n : Nat) (o : DO) (r : Option Res) : Option Res := match r with
  | some (.ret v S) => some (.ret v (S.set n o))
  | _ => none
instance (te : TE) [p : PeekE K E te] [e : EvE K E te] : EvE K E (tLockE te) where
  run := fun σ S => match dictAt S (p.run σ S) with
    | some (n, o) => unlockE n o (e.run σ (S.set n (frzO o)))
    | none => none
  good := fun {σ S r} h w => by
    split at h
    · unfold unlockE at h
      split at h
      · rename_i h1
        cases h
        obtain ⟨l, wv⟩ := ba (e.good h1 (by rw [List.length_set]; exact w))
        rw [List.length_set] at l
        show (decide _ && _) = true
        rw [List.length_set, wv, l]
        rfl
      · cases h
    · cases h
  ok := fun {σ S r ρ H Q} h w R q => by
    split at h
    · rename_i n o hd
      obtain ⟨hs, dc⟩ := dictAt_eq hd
      unfold unlockE at h
      split at h
      · rename_i v S' h1
        cases h
        have l := of_decide_eq_true (ba (e.good h1 (by rw [List.length_set]; exact w))).1
        rw [List.length_set] at l
        refine ⟨_, _, (R.get hs (isDct_plain dc)).1, dct_mut dc, fun od => ?_⟩
        refine e.ok h1 (by rw [List.length_set]; exact w) (lock_in R hs dc od) fun ρ' H' R' F => ?_
        obtain ⟨a, b, c⟩ := lock_out R hs dc R' F l
        exact ⟨a, q ρ' _ b c⟩
      · cases h
    · cases h
def unlockS (n : Nat) (o : DO) (r : Option Out) : Option Out := match r with
  | some (.nx σ S) => some (.nx σ (S.set n o))
  | some (.rt v S) => some (.rt v (S.set n o))
  | _ => none
instance (wi : TI) (g : TG) (tb : TS) [p : PeekI K E wi] [e : EvS K E (tFor wi g tb)] : EvS K E (tLock (tFor wi g tb)) where
  run := fun σ S => match dictAt S (p.run σ S) with
    | some (n, o) => unlockS n o (e.run σ (S.set n (frzO o)))
    | none => none
  good := fun {σ S o} h w => by
    split at h
    · unfold unlockS at h
      split at h
      · rename_i h1
        cases h
        obtain ⟨l, wv⟩ := ba (e.good h1 (by rw [List.length_set]; exact w))
        rw [List.length_set] at l
        show (decide _ && _) = true
        rw [List.length_set, wv, l]
        rfl
      · rename_i h1
        cases h
        obtain ⟨l, wv⟩ := ba (e.good h1 (by rw [List.length_set]; exact w))
        rw [List.length_set] at l
        show (decide _ && _) = true
        rw [List.length_set, wv, l]
        rfl
      · cases h
    · cases h
  ok := fun {σ S o ρ H D} h w R q => by
    split at h
    · rename_i n o hd
      obtain ⟨hs, dc⟩ := dictAt_eq hd
      unfold unlockS at h
      split at h
      · rename_i v S' h1
        cases h
        have l := of_decide_eq_true (ba (e.good h1 (by rw [List.length_set]; exact w))).1
        rw [List.length_set] at l
        refine ⟨_, _, (R.get hs (isDct_plain dc)).1, dct_mut dc, fun od => ?_⟩
        refine e.ok h1 (by rw [List.length_set]; exact w) (lock_in R hs dc od) fun ρ' H' R' F => ?_
        obtain ⟨a, b, c⟩ := lock_out R hs dc R' F l
        exact ⟨a, q ρ' _ b c⟩
      · rename_i v S' h1
        cases h
        have l := of_decide_eq_true (ba (e.good h1 (by rw [List.length_set]; exact w))).1
        rw [List.length_set] at l
        refine ⟨_, _, (R.get hs (isDct_plain dc)).1, dct_mut dc, fun od => ?_⟩
        refine e.ok h1 (by rw [List.length_set]; exact w) (lock_in R hs dc od) fun ρ' H' R' F => ?_
        obtain ⟨a, b, c⟩ := lock_out R hs dc R' F l
        exact ⟨a, q ρ' _ b c⟩
      · cases h
    · cases h
end RunX
set_option maxHeartbeats 4000000
namespace RunX
open PySem PySem.Spec PyProof.Rows L2 He PO
variable [Drw] [Cbv]
variable {K : PySem.W.Frag} {E : XK}
/-! ### truths, ints, texts in a list -/
def boolsD : List DV → Option (List Bool)
  | [] => some []
  | .bl b :: r => (boolsD r).map (b :: ·)
  | _ => none
theorem boolsD_eq {ρ : List Addr} : ∀ {xs : List DV} {bs : List Bool}, boolsD xs = some bs → xs.map (dV K ρ) = bs.map V.bl
  | [], _, h => by cases h; rfl
  | .bl b :: r, _, h => by
    obtain ⟨bs, h1, rfl⟩ := Option.map_eq_some_iff.mp (show (boolsD r).map (b :: ·) = some _ from h)
    show V.bl b :: _ = V.bl b :: _
    rw [boolsD_eq h1]
def intsD : List DV → Option (List Int)
  | [] => some []
  | .int b :: r => (intsD r).map (b :: ·)
  | _ => none
theorem intsD_eq {ρ : List Addr} : ∀ {xs : List DV} {bs : List Int}, intsD xs = some bs → xs.map (dV K ρ) = bs.map V.int
  | [], _, h => by cases h; rfl
  | .int b :: r, _, h => by
    obtain ⟨bs, h1, rfl⟩ := Option.map_eq_some_iff.mp (show (intsD r).map (b :: ·) = some _ from h)
    show V.int b :: _ = V.int b :: _
    rw [intsD_eq h1]
def strsD : List DV → Option (List Str)
  | [] => some []
  | .str b :: r => (strsD r).map (b :: ·)
  | _ => none
theorem strsD_eq {ρ : List Addr} : ∀ {xs : List DV} {bs : List Str}, strsD xs = some bs → xs.map (dV K ρ) = bs.map V.str
  | [], _, h => by cases h; rfl
  | .str b :: r, _, h => by
    obtain ⟨bs, h1, rfl⟩ := Option.map_eq_some_iff.mp (show (strsD r).map (b :: ·) = some _ from h)
    show V.str b :: _ = V.str b :: _
    rw [strsD_eq h1]
/-- a list -/
def lstD (S : List DO) : DV → Option (List DV)
  | .ref n => (match S[n]? with
    | some (.lst xs) => some xs
    | _ => none)
  | _ => none
theorem lstD_ok {ρ : List Addr} {S : List DO} {H : Hp} {x : DV} {xs : List DV} (R : Rep K ρ S H) (h : lstD S x = some xs) : ∃ n, x = .ref n ∧ S[n]? = some (.lst xs) ∧ H (ρ.getD n 0) = some (.lst (xs.map (dV K ρ))) ∧ xs.all (wf S.length) = true := by
  unfold lstD at h
  split at h
  · rename_i n
    split at h
    · rename_i e
      cases h
      exact ⟨n, rfl, e, (R.get e).1, (R.get e).2⟩
    · cases h
  · cases h
theorem lstD_at {S : List DO} {x : DV} {xs : List DV} (h : lstD S x = some xs) : ∃ n, x = .ref n ∧ S[n]? = some (.lst xs) := by
  unfold lstD at h
  split at h
  · rename_i n
    split at h
    · rename_i e
      cases h
      exact ⟨n, rfl, e⟩
    · cases h
  · cases h
instance : EvB K (rAll K) where
  run := fun ds S => match ds with
    | [x] => (match (lstD S x).bind boolsD with
      | some bs => retS (.bl (bs.all id)) S
      | none => none)
    | _ => none
  good := fun {ds S q} h w => by
    split at h
    · split at h
      · exact ret_good h rfl
      · cases h
    · cases h
  ok := fun {ds S q ρ H Q E} h w R p => by
    split at h
    · split at h
      · rename_i bs hb
        obtain ⟨xs, h1, h2⟩ := Option.bind_eq_some_iff.mp hb
        obtain ⟨n, rfl, e, g, _⟩ := lstD_ok R h1
        rw [boolsD_eq h2] at g
        exact ⟨_, bs, rfl, SqL.of g, ret_post (E := E) h R p⟩
      · cases h
    · cases h
instance : EvB K (rSum K) where
  run := fun ds S => match ds with
    | [x] => (match (lstD S x).bind intsD with
      | some bs => retS (.int bs.sum) S
      | none => none)
    | _ => none
  good := fun {ds S q} h w => by
    split at h
    · split at h
      · exact ret_good h rfl
      · cases h
    · cases h
  ok := fun {ds S q ρ H Q E} h w R p => by
    split at h
    · split at h
      · rename_i bs hb
        obtain ⟨xs, h1, h2⟩ := Option.bind_eq_some_iff.mp hb
        obtain ⟨n, rfl, e, g, _⟩ := lstD_ok R h1
        rw [intsD_eq h2] at g
        exact ⟨_, bs, rfl, SqL.of g, ret_post (E := E) h R p⟩
      · cases h
    · cases h
instance : EvR K rInS where
  run := fun S x y => match x, y with
    | .str a, .str b => (match a with
      | ⟨⟨[c]⟩⟩ => retS (.bl (decide (c ∈ b.cps.toList))) S
      | _ => none)
    | _, _ => none
  good := fun {S x y q} h wx wy => by
    split at h
    · split at h
      · exact ret_good h rfl
      · cases h
    · cases h
  ok := fun {S x y q ρ H Q E} h wx wy R p => by
    split at h
    · split at h
      · rename_i c
        exact ⟨c, _, rfl, rfl, ret_post (E := E) h R p⟩
      · cases h
    · cases h
def isNonD : DV → Option Bool
  | .drw _ _ => none
  | .non => some true
  | _ => some false
theorem non_eq {ρ : List Addr} {x : DV} {b : Bool} (h : isNonD x = some b) : decide (dV K ρ x = .non) = b := by
  cases x <;> cases h <;> simp [dV]
instance : EvR K rIsN where
  run := fun S x y => match y, isNonD x with
    | .non, some b => retS (.bl (b)) S
    | _, _ => none
  good := fun {S x y q} h wx wy => by
    split at h
    · exact ret_good h rfl
    · cases h
  ok := fun {S x y q ρ H Q E} h wx wy R p => by
    split at h
    · rename_i b hb
      refine ⟨rfl, ?_⟩
      rw [non_eq hb]
      exact ret_post (E := E) h R p
    · cases h
instance : EvR K rNotN where
  run := fun S x y => match y, isNonD x with
    | .non, some b => retS (.bl (!b)) S
    | _, _ => none
  good := fun {S x y q} h wx wy => by
    split at h
    · exact ret_good h rfl
    · cases h
  ok := fun {S x y q ρ H Q E} h wx wy R p => by
    split at h
    · rename_i b hb
      refine ⟨rfl, ?_⟩
      rw [non_eq hb]
      exact ret_post (E := E) h R p
    · cases h
/-! ### list(..), tuple(..), dict(..) -/
def rListO (K : PySem.W.Frag) : List V → Hp → VK → Prop := fun xs H Q => ∃ p ys, xs = [.ref p] ∧ (SqL K H p ys ∨ SqT K H p ys) ∧ ∀ l, H l = none → Q (.ref l) (upd H l (.lst ys))
def rTupleO (K : PySem.W.Frag) : List V → Hp → VK → Prop := fun xs H Q => ∃ p ys, xs = [.ref p] ∧ ((SqL K H p ys ∧ ∀ l, H l = none → Q (.ref l) (upd H l (.tup ys))) ∨ (SqT K H p ys ∧ Q (.ref p) H))
def rListKT : List V → Hp → VK → Prop := fun xs H Q => ∃ d kvs, xs = [V.ref d] ∧ Rd H d (.dT kvs) ∧ ∀ p bs, H p = none → IsKeys H kvs bs → Q (.ref p) (upd H p (.lst (bs.map V.ref)))
def rDictO : List V → Hp → VK → Prop := fun xs H Q => ∃ (a : Addr) (kvs : List (Key × V)), xs = [.ref a] ∧ Rd H a (.dK kvs) ∧ ∀ p, H p = none → Q (.ref p) (upd H p (.dK kvs))
theorem call_listO {X : Cx} : CallR X (.type "list") (rListO X.K) := call_list_of
theorem call_tupleO {X : Cx} : CallR X (.type "tuple") (rTupleO X.K) := call_tuple_of
theorem call_listKT {X : Cx} (hc : X.calm = true) : CallR X (.type "list") rListKT := call_list_dT hc
theorem call_dictO {X : Cx} : CallR X (.type "dict") rDictO := call_dictD
instance : EvB K (rListO K) where
  run := fun ds S => match ds with
    | [y] => (match itemsD S y with
      | some xs => if wfO S.length (.lst xs) = true then alloc S (.lst xs) else none
      | none => none)
    | _ => none
  good := fun {ds S q} h w => by
    split at h
    · split at h
      · split at h
        · exact alloc_good h
        · cases h
      · cases h
    · cases h
  ok := fun {ds S q ρ H Q E} h w R p => by
    split at h
    · split at h
      · rename_i xs hi
        split at h
        · rename_i c
          obtain ⟨a, e, hs⟩ := itemsD_ok R hi
          exact ⟨a, _, by rw [List.map_cons, e]; rfl, hs, fun l hl => alloc_post (E := E) h c R p hl⟩
        · cases h
      · cases h
    · cases h
instance : EvB K (rTupleO K) where
  run := fun ds S => match ds with
    | [.ref n] => (match S[n]? with
      | some (.lst xs) => alloc S (.tup xs)
      | some (.tup xs) => if n < S.length then retS (.ref n) S else none
      | _ => none)
    | _ => none
  good := fun {ds S q} h w => by
    split at h
    · split at h
      · exact alloc_good h
      · split at h
        · rename_i c
          exact ret_good h (decide_eq_true c)
        · cases h
      · cases h
    · cases h
  ok := fun {ds S q ρ H Q E} h w R p => by
    split at h
    · split at h
      · rename_i xs e
        obtain ⟨g, wx⟩ := R.get e
        exact ⟨_, _, rfl, .inl ⟨SqL.of g, fun l hl => alloc_post (E := E) (o := .tup xs) h wx R p hl⟩⟩
      · rename_i xs e
        split at h
        · exact ⟨_, _, rfl, .inr ⟨SqT.of (R.get e).1, ret_post (E := E) h R p⟩⟩
        · cases h
      · cases h
    · cases h
theorem rd_frz {ρ : List Addr} {S : List DO} {H : Hp} {n : Nat} {kvs : List (Key × DV)} (R : Rep K ρ S H) (h : S[n]? = some (.dK kvs) ∨ S[n]? = some (.frz kvs)) : Rd H (ρ.getD n 0) (.dK (kvs.map fun p => (p.1, dV K ρ p.2))) := by
  rcases h with e | e
  · exact .inl (R.get e).1
  · obtain ⟨od, eo⟩ := R.getF e
    exact .inr ⟨od, eo⟩
def dictKD (S : List DO) : DV → Option (List (Key × DV))
  | .ref n => (match S[n]? with
    | some (.dK kvs) => some kvs
    | some (.frz kvs) => some kvs
    | _ => none)
  | _ => none
theorem dictKD_ok {ρ : List Addr} {S : List DO} {H : Hp} {x : DV} {kvs : List (Key × DV)} (R : Rep K ρ S H) (h : dictKD S x = some kvs) : ∃ n, x = .ref n ∧ Rd H (ρ.getD n 0) (.dK (kvs.map fun p => (p.1, dV K ρ p.2))) ∧ (kvs.all fun p => wf S.length p.2) = true := by
  unfold dictKD at h
  split at h
  · rename_i n
    split at h
    · rename_i e
      cases h
      exact ⟨n, rfl, rd_frz R (.inl e), R.wf _ (List.mem_of_getElem? e)⟩
    · rename_i e
      cases h
      exact ⟨n, rfl, rd_frz R (.inr e), R.wf _ (List.mem_of_getElem? e)⟩
    · cases h
  · cases h
instance : EvB K rListD where
  run := fun ds S => match ds with
    | [.ref n] => (match S[n]? with
      | some (.dK kvs) => alloc S (.lst (kvs.map fun p => kD p.1))
      | _ => none)
    | _ => none
  good := fun {ds S q} h w => by
    split at h
    · split at h
      · exact alloc_good h
      · cases h
    · cases h
  ok := fun {ds S q ρ H Q E} h w R p => by
    split at h
    · split at h
      · rename_i kvs e
        refine ⟨_, _, rfl, (R.get e).1, fun l hl => ?_⟩
        have z := alloc_post (E := E) h (List.all_eq_true.mpr fun v hv => by obtain ⟨q, _, rfl⟩ := List.mem_map.mp hv; exact kD_wf _) R p hl
        have em : dO K ρ (.lst (kvs.map fun p => kD p.1)) = .lst ((kvs.map fun p => (p.1, dV K ρ p.2)).map fun kv => kV kv.1) := by
          simp only [dO, List.map_map]
          exact congrArg HO.lst (List.map_congr_left fun q _ => kD_ok q.1)
        rw [em] at z
        exact z
      · cases h
    · cases h
instance : EvB K rDictO where
  run := fun ds S => match ds with
    | [x] => (match dictKD S x with
      | some kvs => if (kvs.all fun p => wf S.length p.2) = true then alloc S (.dK kvs) else none
      | none => none)
    | _ => none
  good := fun {ds S q} h w => by
    split at h
    · split at h
      · split at h
        · exact alloc_good h
        · cases h
      · cases h
    · cases h
  ok := fun {ds S q ρ H Q E} h w R p => by
    split at h
    · split at h
      · rename_i kvs hk
        split at h
        · rename_i c
          obtain ⟨n, rfl, r, _⟩ := dictKD_ok R hk
          exact ⟨_, _, rfl, r, fun l hl => alloc_post (E := E) (o := .dK kvs) h c R p hl⟩
        · cases h
      · cases h
    · cases h
/-- the tuples of keys become known -/
theorem know_all {ρ : List Addr} {S : List DO} {H : Hp} (R : Rep K ρ S H) : ∀ {ks : List (List Key)} {bs : List Addr}, Paired (fun k b => H b = some (.tup (k.map kV))) ks bs →
    Rep K (ρ ++ bs) (S ++ ks.map fun k => .tup (k.map kD)) H ∧ Fr ρ H (ρ ++ bs) H
  | _, _, .nil => by
    simp only [List.map_nil, List.append_nil]
    exact ⟨R, Fr.refl _ _⟩
  | k :: ks, b :: bs, .cons hb hr => by
    have eb : H b = some (.tup ((k.map kD).map (dV K ρ))) := by
      rw [hb, List.map_map]
      exact congrArg (fun z => some (HO.tup z)) (List.map_congr_left fun q _ => (kD_ok q).symm)
    obtain ⟨R1, F1⟩ := R.know eb (List.all_eq_true.mpr fun v hv => by obtain ⟨q, _, rfl⟩ := List.mem_map.mp hv; exact kD_wf _)
    obtain ⟨R2, F2⟩ := know_all R1 hr
    rw [List.append_assoc, List.append_assoc] at R2
    rw [List.append_assoc] at F2
    exact ⟨R2, F1.trans R1 F2⟩
theorem paired_map {α β γ : Type} {f : α → γ} {P : γ → β → Prop} : ∀ {xs : List α} {ys : List β}, Paired (fun x y => P (f x) y) xs ys → Paired P (xs.map f) ys
  | _, _, .nil => .nil
  | _, _, .cons h r => .cons h (paired_map r)
theorem paired_len {α β : Type} {P : α → β → Prop} : ∀ {xs : List α} {ys : List β}, Paired P xs ys → xs.length = ys.length
  | _, _, .nil => rfl
  | _, _, .cons _ r => by rw [List.length_cons, List.length_cons, paired_len r]
def refsD (n : Nat) : Nat → List DV
  | 0 => []
  | k + 1 => .ref n :: refsD (n + 1) k
theorem refsD_eq {ρ : List Addr} : ∀ {bs ρ0 : List Addr}, (refsD ρ0.length bs.length).map (dV K (ρ0 ++ bs ++ ρ)) = bs.map V.ref
  | [], _ => rfl
  | b :: bs, ρ0 => by
    have e : ρ0 ++ b :: bs ++ ρ = (ρ0 ++ [b]) ++ bs ++ ρ := by simp
    have l : ρ0.length + 1 = (ρ0 ++ [b]).length := by simp
    show dV K _ (.ref ρ0.length) :: (refsD (ρ0.length + 1) bs.length).map _ = V.ref b :: bs.map V.ref
    rw [e, l, refsD_eq]
    simp [dV, List.getD_eq_getElem?_getD]
theorem refsD_wf {m : Nat} : ∀ {k n : Nat}, n + k ≤ m → (refsD n k).all (wf m) = true
  | 0, _, _ => rfl
  | k + 1, n, h => by
    show (decide (n < m) && _) = true
    rw [decide_eq_true (by omega), refsD_wf (by omega)]
    rfl
instance : EvB K rListKT where
  run := fun ds S => match ds with
    | [.ref n] => (match S[n]? with
      | some (.dT kvs) => some (.ret (.ref (S.length + kvs.length)) ((S ++ kvs.map fun p => .tup (p.1.map kD)) ++ [.lst (refsD S.length kvs.length)]))
      | _ => none)
    | _ => none
  good := fun {ds S q} h w => by
    split at h
    · split at h
      · cases h
        show (decide _ && decide _) = true
        simp
      · cases h
    · cases h
  ok := fun {ds S q ρ H Q E} h w R p => by
    split at h
    · split at h
      · rename_i kvs e
        cases h
        refine ⟨_, _, rfl, .inl (R.get e).1, fun l bs hl hk => ?_⟩
        have hk2 : Paired (fun k b => H b = some (.tup (k.map kV))) (kvs.map (·.1)) bs := by
          have z := paired_map (f := fun q : List Key × V => q.1) (P := fun k b => H b = some (.tup (k.map kV))) hk
          rwa [List.map_map] at z
        obtain ⟨R1, F1⟩ := know_all R hk2
        have hlen : bs.length = kvs.length := by rw [← paired_len hk2, List.length_map]
        have eS : (kvs.map (·.1)).map (fun k => DO.tup (k.map kD)) = kvs.map fun p => .tup (p.1.map kD) := by rw [List.map_map]; rfl
        rw [eS] at R1
        obtain ⟨R2, F2⟩ := R1.new (o := .lst (refsD S.length kvs.length)) hl (refsD_wf (by simp))
        have em : dO K (ρ ++ bs) (.lst (refsD S.length kvs.length)) = .lst (bs.map V.ref) := by
          have z := refsD_eq (K := K) (ρ := []) (bs := bs) (ρ0 := ρ)
          rw [List.append_nil, R.len, hlen] at z
          simp only [dO, z]
        rw [em] at R2 F2
        have z := p _ _ R2 (F1.trans R1 F2)
        have er : dV K (ρ ++ bs ++ [l]) (.ref (S.length + kvs.length)) = .ref l := by
          show V.ref _ = _
          rw [← hlen, ← R.len]
          simp [List.getD_eq_getElem?_getD]
        rw [er] at z
        exact z
      · cases h
    · cases h
/-! ### sorted ints -/
def insI (x : Int) : List Int → List Int
  | [] => [x]
  | y :: r => if x ≤ y then x :: y :: r else y :: insI x r
def sortI : List Int → List Int
  | [] => []
  | x :: r => insI x (sortI r)
theorem insI_perm {x : Int} : ∀ {l : List Int}, (insI x l).Perm (x :: l)
  | [] => .refl _
  | y :: r => by
    unfold insI
    split
    · exact .refl _
    · exact ((insI_perm (l := r)).cons y).trans (.swap x y r)
theorem sortI_perm : ∀ {l : List Int}, (sortI l).Perm l
  | [] => .refl _
  | x :: r => insI_perm.trans ((sortI_perm (l := r)).cons x)
theorem insI_sorted {x : Int} : ∀ {l : List Int}, l.Pairwise (· ≤ ·) → (insI x l).Pairwise (· ≤ ·)
  | [], _ => List.pairwise_singleton _ _
  | y :: r, h => by
    obtain ⟨h1, h2⟩ := List.pairwise_cons.mp h
    unfold insI
    split
    · rename_i c
      exact List.pairwise_cons.mpr ⟨fun z hz => by
        rcases List.mem_cons.mp hz with q | q
        · rw [q]; exact c
        · exact Int.le_trans c (h1 z q), h⟩
    · rename_i c
      exact List.pairwise_cons.mpr ⟨fun z hz => by
        rcases List.mem_cons.mp (insI_perm.mem_iff.mp hz) with q | q
        · rw [q]; omega
        · exact h1 z q, insI_sorted h2⟩
theorem sortI_sorted : ∀ {l : List Int}, (sortI l).Pairwise (· ≤ ·)
  | [] => .nil
  | x :: r => insI_sorted sortI_sorted
theorem sorted_one : ∀ {l m : List Int}, l.Perm m → l.Pairwise (· ≤ ·) → m.Pairwise (· ≤ ·) → l = m
  | [], m, p, _, _ => (List.nil_perm.mp p).symm
  | a :: l, [], p, _, _ => by have := p.length_eq; simp at this
  | a :: l, b :: m, p, h, g => by
    obtain ⟨h1, h2⟩ := List.pairwise_cons.mp h
    obtain ⟨g1, g2⟩ := List.pairwise_cons.mp g
    have e : a = b := by
      rcases List.mem_cons.mp (p.mem_iff.mp List.mem_cons_self) with q | q
      · exact q
      · rcases List.mem_cons.mp (p.mem_iff.mpr List.mem_cons_self) with z | z
        · exact z.symm
        · exact Int.le_antisymm (h1 b z) (g1 a q)
    subst e
    rw [sorted_one (List.perm_cons a |>.mp p) h2 g2]
instance : EvB K (rSortedI K) where
  run := fun ds S => match ds with
    | [x] => (match (lstD S x).bind intsD with
      | some ns => alloc S (.lst ((sortI ns).map DV.int))
      | none => none)
    | _ => none
  good := fun {ds S q} h w => by
    split at h
    · split at h
      · exact alloc_good h
      · cases h
    · cases h
  ok := fun {ds S q ρ H Q E} h w R p => by
    split at h
    · split at h
      · rename_i ns hb
        obtain ⟨xs, h1, h2⟩ := Option.bind_eq_some_iff.mp hb
        obtain ⟨n, rfl, e, g, _⟩ := lstD_ok R h1
        rw [intsD_eq h2] at g
        refine ⟨_, ns, rfl, SqL.of g, fun ns' l pm so hl => ?_⟩
        rw [sorted_one (pm.trans sortI_perm.symm) so sortI_sorted]
        have z := alloc_post (E := E) h (List.all_eq_true.mpr fun v hv => by obtain ⟨q, _, rfl⟩ := List.mem_map.mp hv; rfl) R p hl
        have em : dO K ρ (.lst ((sortI ns).map DV.int)) = .lst ((sortI ns).map V.int) := by
          simp only [dO, List.map_map]
          rfl
        rw [em] at z
        exact z
      · cases h
    · cases h
/-! ### chains, a if t else b, stars -/
instance (r r' : R2) (ta tb tc : TE) [a : EvE K E ta] [b : EvE K E tb] [c : EvE K E tc] [o : EvR K r] [o' : EvR K r'] : EvE K E (tChain r r' ta tb tc) where
  run := fun σ S => bindE (a.run σ S) fun x S1 => bindE (b.run σ S1) fun y S2 => match o.run S2 x y with
    | some (.ret (.bl true) S3) => if S2.length ≤ S3.length then bindE (c.run σ S3) fun z S4 => o'.run S4 y z else none
    | some (.ret (.bl false) S3) => some (.ret (.bl false) S3)
    | some (.exc C d S3) => some (.exc C d S3)
    | _ => none
  good := fun {σ S r} h w => bind_good (te := ta) h w fun {x S1 r} l wx h => bind_good (te := tb) h (wfS_le l w) fun {y S2 r} l2 wy h => by
    split at h
    · rename_i S3 h3
      split at h
      · rename_i l3
        exact good_le l3 (bind_good (te := tc) h (wfS_le l3 (wfS_le l2 (wfS_le l w))) fun {z S4 r} l4 wz h => o'.good h (wf_le l4 (wf_le l3 wy)) wz)
      · cases h
    · rename_i S3 h3
      cases h
      exact o.good h3 (wf_le l2 wx) wy
    · rename_i C d S3 h3
      cases h
      exact o.good h3 (wf_le l2 wx) wy
    · cases h
  ok := fun {σ S r ρ H Q} h w R p => bind_ok (te := ta) h w R p fun {x S1 ρ1 H1} l wx h R1 F1 eσ p => by
    rw [← eσ]
    refine bind_ok (te := tb) h (wfS_le l w) R1 p fun {y S2 ρ2 H2} l2 wy h R2 F2 eσ2 p => ?_
    have ex : dV K ρ2 x = dV K ρ1 x := F2.val R1.len wx
    rw [← ex]
    split at h
    · rename_i S3 h3
      split at h
      · rename_i l3
        refine o.ok (E := E) h3 (wf_le l2 wx) wy R2 fun ρ3 H3 R3 F3 => ⟨true, rfl, ?_⟩
        have w2 := wfS_le l2 (wfS_le l w)
        show tc _ H3 _
        rw [← eσ2, ← F3.le R2.len w2]
        refine bind_ok (te := tc) h (wfS_le l3 w2) R3 (Post.of p R3 F3) fun {z S4 ρ4 H4} l4 wz h R4 F4 _ p => ?_
        have ey : dV K ρ4 y = dV K ρ2 y := (F4.val R3.len (wf_le l3 wy)).trans (F3.val R2.len wy)
        rw [← ey]
        exact o'.ok h (wf_le l4 (wf_le l3 wy)) wz R4 p
      · cases h
    · rename_i S3 h3
      cases h
      exact o.ok (E := E) h3 (wf_le l2 wx) wy R2 fun ρ3 H3 R3 F3 => ⟨false, rfl, p ρ3 H3 R3 F3⟩
    · rename_i C d S3 h3
      cases h
      exact o.ok (E := E) h3 (wf_le l2 wx) wy R2 p
    · cases h
instance (tt : TT) (ta tb : TE) [t : EvT K E tt] [a : EvE K E ta] [b : EvE K E tb] : EvE K E (tIf tt ta tb) where
  run := fun σ S => bindT (t.run σ S) fun c S1 => if c = true then a.run σ S1 else b.run σ S1
  good := fun {σ S r} h w => bindT_good (tt := tt) h w fun {c S1 r} l h => by
    split at h
    · exact a.good h (wfS_le l w)
    · exact b.good h (wfS_le l w)
  ok := fun {σ S r ρ H Q} h w R p => by
    unfold bindT at h
    split at h
    · rename_i c S1 h1
      have l := of_decide_eq_true (ba (t.good h1 w)).1
      refine t.ok h1 w R fun ρ1 H1 R1 F1 => ?_
      rw [← F1.le R.len w]
      have h : (if c = true then a.run σ S1 else b.run σ S1) = some r := h
      split
      · rename_i hc
        rw [if_pos hc] at h
        exact a.ok h (wfS_le l w) R1 (Post.of p R1 F1)
      · rename_i hc
        rw [if_neg hc] at h
        exact b.ok h (wfS_le l w) R1 (Post.of p R1 F1)
    · cases h
    · rename_i C d S1 h1
      cases h
      exact t.ok h1 w R p
    · cases h
instance (te : TE) (ta : TA) [e : EvE K E te] [a : EvA K E ta] : EvA K E (StX.tStar K te ta) where
  run := fun σ S => match e.run σ S with
    | some (.ret v S1) => (match itemsD S1 v with
      | some xs => if xs.all (wf S1.length) = true then (match a.run σ S1 with
        | some (.ret vs S2) => some (.ret (xs ++ vs) S2)
        | some (.exc C d S2) => some (.exc C d S2)
        | none => none) else none
      | none => none)
    | some (.exc C d S1) => some (.exc C d S1)
    | none => none
  good := fun {σ S r} h w => by
    split at h
    · rename_i v S1 h1
      have l1 := of_decide_eq_true (ba (e.good h1 w)).1
      split at h
      · rename_i xs hx
        split at h
        · rename_i c
          split at h
          · rename_i vs S2 h2
            cases h
            obtain ⟨l2, w2⟩ := ba (a.good h2 (wfS_le l1 w))
            have l2 := of_decide_eq_true l2
            show (decide _ && _) = true
            rw [List.all_append, all_le l2 c, w2, decide_eq_true (Nat.le_trans l1 l2)]
            rfl
          · rename_i C d S2 h2
            cases h
            exact decide_eq_true (Nat.le_trans l1 (of_decide_eq_true (a.good h2 (wfS_le l1 w))))
          · cases h
        · cases h
      · cases h
    · rename_i C d S1 h1
      cases h
      exact e.good h1 w
    · cases h
  ok := fun {σ S r ρ H Q} h w R p => by
    split at h
    · rename_i v S1 h1
      have l1 := of_decide_eq_true (ba (e.good h1 w)).1
      split at h
      · rename_i xs hx
        split at h
        · rename_i c
          refine e.ok h1 w R fun ρ1 H1 R1 F1 => ?_
          obtain ⟨q, eq, hs⟩ := itemsD_ok R1 hx
          refine ⟨q, _, eq, hs.symm, ?_⟩
          rw [← F1.le R.len w]
          split at h
          · rename_i vs S2 h2
            cases h
            refine a.ok h2 (wfS_le l1 w) R1 fun ρ2 H2 R2 F2 => ?_
            have z := p ρ2 H2 R2 (F1.trans R1 F2)
            rw [List.map_append, F2.vals R1.len c] at z
            exact z
          · rename_i C d S2 h2
            cases h
            exact a.ok h2 (wfS_le l1 w) R1 (PostX.of p R1 F1)
          · cases h
        · cases h
      · cases h
    · rename_i C d S1 h1
      cases h
      exact e.ok h1 w R p
    · cases h
/-! ### several names at once -/
def bindXA (r : Option ResA) (f : List DV → List DO → Option Out) : Option Out := match r with
  | some (.ret vs S) => f vs S
  | some (.exc C d S) => some (.exc C d S)
  | none => none
instance (i j : Nat) (ta : TA) [a : EvA K E ta] : EvS K E (tPar i j ta) where
  run := fun σ S => match a.run σ S with
    | some (.ret [v, u] S1) => some (.nx ((σ.set i (some v)).set j (some u)) S1)
    | some (.exc C d S1) => some (.exc C d S1)
    | _ => none
  good := fun {σ S o} h w => by
    split at h
    · rename_i v u S1 h1
      cases h
      obtain ⟨l, wv⟩ := ba (a.good h1 w)
      obtain ⟨w1, w2⟩ := ba (show (wf _ v && (wf _ u && true)) = true from wv)
      obtain ⟨w2, _⟩ := ba w2
      show (decide _ && _) = true
      rw [l, wfS_set (wfS_set (wfS_le (of_decide_eq_true l) w) w1) w2]
      rfl
    · rename_i C d S1 h1
      cases h
      exact a.good h1 w
    · cases h
  ok := fun {σ S o ρ H D} h w R p => by
    split at h
    · rename_i v u S1 h1
      cases h
      refine a.ok h1 w R fun ρ1 H1 R1 F1 => ⟨_, _, rfl, ?_⟩
      have z := p ρ1 H1 R1 F1
      rw [dSt_set, dSt_set, F1.le R.len w] at z
      exact z
    · rename_i C d S1 h1
      cases h
      exact a.ok h1 w R p
    · cases h
/-! ### d.get(k), d.get(k, x) -/
def isDD (S : List DO) : DV → Bool
  | .ref n => (match S[n]? with
    | some (.dK _) => true
    | some (.dT _) => true
    | _ => false)
  | _ => false
theorem isDD_ok {ρ : List Addr} {S : List DO} {H : Hp} {x : DV} (R : Rep K ρ S H) (h : isDD S x = true) : ∃ n, x = .ref n ∧ IsD H (ρ.getD n 0) := by
  unfold isDD at h
  split at h
  · rename_i n
    split at h
    · rename_i e
      exact ⟨n, rfl, .inl ⟨_, .inl (R.get e).1⟩⟩
    · rename_i e
      exact ⟨n, rfl, .inr ⟨_, .inl (R.get e).1⟩⟩
    · cases h
  · cases h
instance (td ty tx : TE) [a : EvE K E td] [b : EvE K E ty] [c : EvE K E tx] : EvE K E (tDGet2 td ty tx) where
  run := fun σ S => bindE (a.run σ S) fun x S1 => if isDD S1 x = true then bindE (b.run σ S1) fun y S2 => bindE (c.run σ S2) fun z S3 => match lookD S3 x y with
    | some o => if wf S3.length (o.getD z) = true then retS (o.getD z) S3 else none
    | none => none else none
  good := fun {σ S r} h w => bind_good (te := td) h w fun {x S1 r} l wx h => by
    split at h
    · exact bind_good (te := ty) h (wfS_le l w) fun {y S2 r} l2 wy h => bind_good (te := tx) h (wfS_le l2 (wfS_le l w)) fun {z S3 r} l3 wz h => by
        split at h
        · split at h
          · rename_i k
            exact ret_good h k
          · cases h
        · cases h
    · cases h
  ok := fun {σ S r ρ H Q} h w R p => bind_ok (te := td) h w R p fun {x S1 ρ1 H1} l wx h R1 F1 eσ p => by
    split at h
    · rename_i k
      obtain ⟨n, rfl, isd⟩ := isDD_ok R1 k
      refine ⟨_, rfl, isd, ?_⟩
      rw [← eσ]
      refine bind_ok (te := ty) h (wfS_le l w) R1 p fun {y S2 ρ2 H2} l2 wy h R2 F2 eσ2 p => ?_
      rw [← eσ2]
      refine bind_ok (te := tx) h (wfS_le l2 (wfS_le l w)) R2 p fun {z S3 ρ3 H3} l3 wz h R3 F3 eσ3 p => ?_
      split at h
      · rename_i o ho
        split at h
        · obtain ⟨a', ea, g⟩ := lookD_ok R3 ho
          have n1 : n < ρ1.length := by rw [R1.len]; exact of_decide_eq_true wx
          have n2 : n < ρ2.length := by rw [R2.len]; exact Nat.lt_of_lt_of_le (of_decide_eq_true wx) l2
          have en : ρ3.getD n 0 = ρ1.getD n 0 := (F3.at n2).trans (F2.at n1)
          have ea' : a' = ρ1.getD n 0 := by
            have q : V.ref (ρ3.getD n 0) = .ref a' := ea
            cases q
            exact en
          rw [ea'] at g
          have ey : dV K ρ3 y = dV K ρ2 y := F3.val R2.len wy
          rw [← ey]
          refine ⟨_, g, ?_⟩
          have q := ret_post (E := E) h R3 p
          have eo : (o.map (dV K ρ3)).getD (dV K ρ3 z) = dV K ρ3 (o.getD z) := by cases o <;> rfl
          rw [eo]
          exact q
        · cases h
      · cases h
    · cases h
instance (td ty : TE) [a : EvE K E td] [b : EvE K E ty] : EvE K E (tDGet1 td ty) where
  run := fun σ S => bindE (a.run σ S) fun x S1 => if isDD S1 x = true then bindE (b.run σ S1) fun y S2 => match lookD S2 x y with
    | some o => if wf S2.length (o.getD .non) = true then retS (o.getD .non) S2 else none
    | none => none else none
  good := fun {σ S r} h w => bind_good (te := td) h w fun {x S1 r} l wx h => by
    split at h
    · exact bind_good (te := ty) h (wfS_le l w) fun {y S2 r} l2 wy h => by
        split at h
        · split at h
          · rename_i k
            exact ret_good h k
          · cases h
        · cases h
    · cases h
  ok := fun {σ S r ρ H Q} h w R p => bind_ok (te := td) h w R p fun {x S1 ρ1 H1} l wx h R1 F1 eσ p => by
    split at h
    · rename_i k
      obtain ⟨n, rfl, isd⟩ := isDD_ok R1 k
      refine ⟨_, rfl, isd, ?_⟩
      rw [← eσ]
      refine bind_ok (te := ty) h (wfS_le l w) R1 p fun {y S2 ρ2 H2} l2 wy h R2 F2 eσ2 p => ?_
      split at h
      · rename_i o ho
        split at h
        · obtain ⟨a', ea, g⟩ := lookD_ok R2 ho
          have ea' : a' = ρ1.getD n 0 := by
            have q : V.ref (ρ2.getD n 0) = .ref a' := ea
            cases q
            exact F2.at (show n < ρ1.length by rw [R1.len]; exact of_decide_eq_true wx)
          rw [ea'] at g
          refine ⟨_, g, ?_⟩
          have q := ret_post (E := E) h R2 p
          have eo : (o.map (dV K ρ2)).getD V.non = dV K ρ2 (o.getD .non) := by cases o <;> rfl
          rw [eo]
          exact q
        · cases h
      · cases h
    · cases h
/-! ### xs.pop() -/
instance (T : String) (r : V → List V → Hp → VK → Prop) (to : TE) [o : EvE K E to] [m : EvM K T r] : EvE K E (tBM0 K T r to) where
  run := fun σ S => bindE (o.run σ S) fun x S1 => if tyB S1 T x = true then m.run x [] S1 else none
  good := fun {σ S r} h w => bind_good (te := to) h w fun {x S1 r} l wx h => by
    split at h
    · exact m.good h wx rfl
    · cases h
  ok := fun {σ S r ρ H Q} h w R p => bind_ok (te := to) h w R p fun {x S1 ρ1 H1} l wx h R1 F1 eσ p => by
    split at h
    · rename_i k
      exact ⟨tyB_ok R1 k, m.ok (E := E) h wx rfl R1 p⟩
    · cases h
instance : EvM K "list" rPop where
  run := fun x ds S => match x, ds with
    | .ref n, [] => (match S[n]? with
      | some (.lst xs) => (match xs[xs.length - 1]? with
        | some y => if wf S.length y = true ∧ wfO S.length (.lst xs.dropLast) = true then some (.ret y (S.set n (.lst xs.dropLast))) else none
        | none => none)
      | _ => none)
    | _, _ => none
  good := fun {x ds S q} h wx w => by
    split at h
    · split at h
      · split at h
        · split at h
          · rename_i c
            cases h
            show (decide _ && _) = true
            rw [List.length_set, c.1]
            simp
          · cases h
        · cases h
      · cases h
    · cases h
  ok := fun {x ds S q ρ H Q E} h wx w R p => by
    split at h
    · split at h
      · rename_i xs e
        split at h
        · rename_i y hy
          split at h
          · rename_i c
            cases h
            obtain ⟨g, _⟩ := R.get e
            obtain ⟨R1, F1⟩ := R.set (o' := .lst xs.dropLast) e c.2
            refine ⟨_, _, dV K ρ y, rfl, rfl, g, by rw [List.length_map, List.getElem?_map, hy]; rfl, ?_⟩
            have z := p _ _ R1 F1
            have em : dO K ρ (.lst xs.dropLast) = .lst (xs.map (dV K ρ)).dropLast := by simp only [dO, List.map_dropLast]
            rw [em] at z
            exact z
          · cases h
        · cases h
      · cases h
    · cases h
end RunX
set_option maxHeartbeats 4000000
/-! Dict comprehensions; written dicts; sep.join; members of tuples; data compared with (). -/
namespace RunX
open PySem PySem.Spec PyProof.Rows L2 He PO DCT NKx
variable [Drw] [Cbv]
variable {K : PySem.W.Frag} {E : XK}
def putR (K : PySem.W.Frag) (S : List DO) (n : Nat) (y z : DV) : Option (List DO) := (inferInstance : EvW K (rSetX Drw.wld)).run S (.ref n) y z
def dcD (K : PySem.W.Frag) (fk fv c : List (Option DV) → List DO → Option Res) (g : DV → List (Option DV) → List DO → Option (List (Option DV))) (it : ItD) (n : Nat) (σ0 : List (Option DV)) (vs : List Nat) : Nat → Nat → List DO → Option Res
  | 0, _, _ => none
  | k + 1, i, S => match it.at i S with
    | none => none
    | some none => some (.ret (.ref n) S)
    | some (some (x, S0)) => if S.length ≤ S0.length ∧ wf S0.length x = true then (match g x σ0 S0 with
      | none => none
      | some σ2 => if wipeD σ2 vs = σ0 then (match c σ2 S0 with
        | some (.ret (.bl true) S3) => (match fk σ2 S3 with
          | some (.ret y S4) => (match fv σ2 S4 with
            | some (.ret z S5) => (match putR K S5 n y z with
              | some S6 => dcD K fk fv c g it n σ0 vs k (i + 1) S6
              | none => none)
            | some (.exc C d S5) => some (.exc C d S5)
            | none => none)
          | some (.exc C d S4) => some (.exc C d S4)
          | none => none)
        | some (.ret (.bl false) S3) => dcD K fk fv c g it n σ0 vs k (i + 1) S3
        | some (.exc C d S3) => some (.exc C d S3)
        | _ => none) else none) else none
section
variable {g : TG} {tt : TT} {tk tv : TE} [eg : EvG K g] [ec : EvT K E tt] [ek : EvE K E tk] [ev : EvE K E tv]
theorem dc_good {it : ItD} {n : Nat} {σ0 : List (Option DV)} {vs : List Nat} : ∀ {k i : Nat} {S : List DO} {r : Res}, dcD K ek.run ev.run ec.run eg.run it n σ0 vs k i S = some r → n < S.length → wfS S.length σ0 = true → good S.length r = true
  | 0, _, _, _, h, _, _ => by
    unfold dcD at h
    cases h
  | k + 1, i, S, r, h, hn, w => by
    unfold dcD at h
    split at h
    · cases h
    · cases h
      show (decide _ && decide _) = true
      simp [hn]
    · split at h
      · rename_i wx
        split at h
        · cases h
        · rename_i σ2 h1
          have w1 := eg.wf_ h1 wx.2 (wfS_le wx.1 w)
          refine good_le wx.1 ?_
          have hn := Nat.lt_of_lt_of_le hn wx.1
          have w := wfS_le wx.1 w
          split at h
          · split at h
            · rename_i S3 h3
              have l3 := of_decide_eq_true (ba (ec.good h3 w1)).1
              split at h
              · rename_i y S4 h4
                have l4 := of_decide_eq_true (ba (ek.good h4 (wfS_le l3 w1))).1
                split at h
                · rename_i z S5 h5
                  have l5 := of_decide_eq_true (ba (ev.good h5 (wfS_le l4 (wfS_le l3 w1)))).1
                  split at h
                  · rename_i S6 h6
                    have e6 := EvW.len (self := (inferInstance : EvW K (rSetX Drw.wld))) h6
                    have l6 := Nat.le_trans l3 (Nat.le_trans l4 l5)
                    rw [← e6] at l6
                    exact good_le l6 (dc_good h (by omega) (wfS_le l6 w))
                  · cases h
                · rename_i C d S5 h5
                  cases h
                  exact good_le (Nat.le_trans l3 l4) (ev.good h5 (wfS_le l4 (wfS_le l3 w1)))
                · cases h
              · rename_i C d S4 h4
                cases h
                exact good_le l3 (ek.good h4 (wfS_le l3 w1))
              · cases h
            · rename_i S3 h3
              have l3 := of_decide_eq_true (ba (ec.good h3 w1)).1
              exact good_le l3 (dc_good h (by omega) (wfS_le l3 w))
            · rename_i C d S3 h3
              cases h
              exact ec.good h3 w1
            · cases h
          · cases h
      · cases h
theorem dc_ok {it : ItD} {J : It} {ρ1 : List Addr} {S1 : List DO} {H1 : Hp} (ok : ItOk K ρ1 H1 it J) (R1 : Rep K ρ1 S1 H1) {n : Nat} {σ0 : List (Option DV)} {vs : List Nat} {r : Res} {k : Nat} {S : List DO} {H0 : Hp} {Dl : Addr} {σv : L2.St} {Q : VK} (hσ : ∀ m, dSt K (ρ1 ++ m) σ0 = wipe σv vs)
    (h : dcD K ek.run ev.run ec.run eg.run it n σ0 vs k 0 S = some r) (hn : n < S.length) (w : wfS S.length σ0 = true) (R : Rep K (ρ1 ++ [Dl]) S H0) (F0 : Fr ρ1 H1 (ρ1 ++ [Dl]) H0) (hD : n = ρ1.length) (p : Post K E (ρ1 ++ [Dl]) H0 Q r) :
    ∃ W : Nat → Nat → Hp → Prop, (∃ m, W 0 m H0) ∧ ∀ i m H, W i m H → (J.stop i H ∧ Q (.ref Dl) H) ∨ (J.go i H ∧ ∃ Nx : Hp → Prop, (∀ H', Nx H' → ∃ m', m' < m ∧ W (i + 1) m' H') ∧ ∀ x H', J.yld i H x H' → g x (wipe σv vs) H' fun σ2 H2 => wipe σ2 vs = wipe σv vs ∧ tt σ2 H2 fun b H3 =>
      if b = true then tk σ2 H3 fun y H4 => tv σ2 H4 fun z H5 => ∃ H6, XPut Drw.wld H5 Dl y z H6 ∧ Nx H6 else Nx H3) := by
  have lD : n < (ρ1 ++ [Dl]).length := by rw [hD]; simp
  have atD : ∀ {ρ H'}, Fr (ρ1 ++ [Dl]) H0 ρ H' → ρ.getD n 0 = Dl := fun F => by
    rw [F.at lD, hD]
    simp [List.getD_eq_getElem?_getD]
  have atS : ∀ {ρ H'}, Fr (ρ1 ++ [Dl]) H0 ρ H' → dSt K ρ σ0 = wipe σv vs := fun F => by
    obtain ⟨m, e, _⟩ := F.pre
    rw [e, List.append_assoc, hσ]
  refine ⟨fun i m H' => ∃ ρ Sd, Fr (ρ1 ++ [Dl]) H0 ρ H' ∧ Rep K ρ Sd H' ∧ n < Sd.length ∧ wfS Sd.length σ0 = true ∧ dcD K ek.run ev.run ec.run eg.run it n σ0 vs m i Sd = some r ∧ Post K E ρ H' Q r, ⟨k, _, S, Fr.refl _ _, R, hn, w, h, p⟩, ?_⟩
  rintro i m H' ⟨ρ, Sd, F, R', hn, w, h, p⟩
  have F1 := F0.trans R F
  cases m with
  | zero =>
    unfold dcD at h
    cases h
  | succ k =>
    unfold dcD at h
    split at h
    · cases h
    · rename_i hx
      cases h
      have z := p _ H' R' (Fr.refl _ _)
      have ev : dV K ρ (.ref n) = .ref Dl := by
        show V.ref _ = _
        rw [atD F]
      rw [ev] at z
      exact .inl ⟨ok.stop F1 R' hx, z⟩
    · rename_i x S0 hx
      split at h
      · rename_i wx
        split at h
        · cases h
        · rename_i σ2 h1
          have w1 := eg.wf_ h1 wx.2 (wfS_le wx.1 w)
          split at h
          · rename_i hw
            refine .inr ⟨ok.go F1 R' hx, fun H'' => ∃ ρ Sd, Fr (ρ1 ++ [Dl]) H0 ρ H'' ∧ Rep K ρ Sd H'' ∧ n < Sd.length ∧ wfS Sd.length σ0 = true ∧ dcD K ek.run ev.run ec.run eg.run it n σ0 vs k (i + 1) Sd = some r ∧ Post K E ρ H'' Q r, fun H'' z => ⟨k, Nat.lt_succ_self k, z⟩, fun x' H'' y => ?_⟩
            obtain ⟨ρa, Ra, Fa, rfl⟩ := ok.yld F1 R' hx y
            have Fb := F.trans R' Fa
            have hn := Nat.lt_of_lt_of_le hn wx.1
            have w := wfS_le wx.1 w
            have p := Post.of p Ra Fa
            rw [← atS Fb]
            refine eg.ok h1 Ra ⟨?_, ?_⟩
            · rw [← wipe_eq, hw]
            · split at h
              · rename_i S3 h3
                have l3 := of_decide_eq_true (ba (ec.good h3 w1)).1
                refine ec.ok h3 w1 Ra fun ρ3 H3 R3 F3 => ?_
                show tk _ H3 _
                rw [← F3.le Ra.len w1]
                split at h
                · rename_i y S4 h4
                  obtain ⟨l4, wy⟩ := ba (ek.good h4 (wfS_le l3 w1))
                  have l4 := of_decide_eq_true l4
                  split at h
                  · rename_i z S5 h5
                    obtain ⟨l5, wz⟩ := ba (ev.good h5 (wfS_le l4 (wfS_le l3 w1)))
                    have l5 := of_decide_eq_true l5
                    split at h
                    · rename_i S6 h6
                      refine ek.ok h4 (wfS_le l3 w1) R3 fun ρ4 H4 R4 F4 => ?_
                      rw [← F4.le R3.len (wfS_le l3 w1)]
                      refine ev.ok h5 (wfS_le l4 (wfS_le l3 w1)) R4 fun ρ5 H5 R5 F5 => ?_
                      have F35 := (F3.trans R3 F4).trans R4 F5
                      have F45 := Fb.trans Ra F35
                      have e6 := EvW.len (self := (inferInstance : EvW K (rSetX Drw.wld))) h6
                      have l6 := Nat.le_trans l3 (Nat.le_trans l4 l5)
                      rw [← e6] at l6
                      have ey : dV K ρ5 y = dV K ρ4 y := F5.val R4.len wy
                      rw [← ey]
                      obtain ⟨a, H6, ea, dp, nx⟩ := EvW.ok (K := K) (t := rSetX Drw.wld) (o := .ref n) (i := y) (v := z) (Q := fun H6 => ∃ ρ Sd, Fr (ρ1 ++ [Dl]) H0 ρ H6 ∧ Rep K ρ Sd H6 ∧ n < Sd.length ∧ wfS Sd.length σ0 = true ∧ dcD K ek.run ev.run ec.run eg.run it n σ0 vs k (i + 1) Sd = some r ∧ Post K E ρ H6 Q r) h6 wz R5 fun H6 R6 F6 =>
                        ⟨ρ5, S6, F45.trans R5 F6, R6, by omega, wfS_le l6 w, h, Post.of p R6 (F35.trans R5 F6)⟩
                      have ed : a = Dl := by
                        have q : V.ref (ρ5.getD n 0) = .ref a := ea
                        cases q
                        exact atD F45
                      rw [ed] at dp
                      exact ⟨H6, dp, nx⟩
                    · cases h
                  · rename_i C d S5 h5
                    cases h
                    refine ek.ok h4 (wfS_le l3 w1) R3 fun ρ4 H4 R4 F4 => ?_
                    rw [← F4.le R3.len (wfS_le l3 w1)]
                    exact ev.ok h5 (wfS_le l4 (wfS_le l3 w1)) R4 (PostX.of p R4 (F3.trans R3 F4))
                  · cases h
                · rename_i C d S4 h4
                  cases h
                  exact ek.ok h4 (wfS_le l3 w1) R3 (PostX.of p R3 F3)
                · cases h
              · rename_i S3 h3
                have l3 := of_decide_eq_true (ba (ec.good h3 w1)).1
                refine ec.ok h3 w1 Ra fun ρ3 H3 R3 F3 => ?_
                exact ⟨ρ3, S3, Fb.trans Ra F3, R3, by omega, wfS_le l3 w, h, Post.of p R3 F3⟩
              · rename_i C d S3 h3
                cases h
                exact ec.ok h3 w1 Ra p
              · cases h
          · cases h
      · cases h
def newDD (b : Bool) : DO := if b = true then .dT [] else .dK []
theorem newDD_ok {b : Bool} {ρ : List Addr} {n : Nat} : dO K ρ (newDD b) = newD b ∧ wfO n (newDD b) = true ∧ plainO (newDD b) = true := by
  cases b <;> exact ⟨rfl, rfl, rfl⟩
instance (b : Bool) (wi : TI) (vs : List Nat) [ei : EvI K E wi] : EvE K E (tDcB Drw.wld b wi g tt tk tv vs) where
  run := fun σ S => match ei.run σ S with
    | some (.inl (it, S1)) => dcD K ek.run ev.run ec.run eg.run it S1.length (wipeD σ vs) vs 4096 0 (S1 ++ [newDD b])
    | some (.inr (.exc C d S1)) => if S.length ≤ S1.length then some (.exc C d S1) else none
    | _ => none
  good := fun {σ S r} h w => by
    split at h
    · rename_i it S1 h1
      have l := ei.good h1 w
      have z := dc_good h (by simp) (wfS_le (by simp; omega) (wipe_wf w))
      exact good_le (by simp; omega) z
    · split at h
      · rename_i l
        cases h
        exact decide_eq_true l
      · cases h
    · cases h
  ok := fun {σ S r ρ H Q} h w R p => by
    split at h
    · rename_i it S1 h1
      have l := ei.good h1 w
      refine ei.ok h1 w R fun ρ1 H1 J R1 F1 okJ => fun Dl hD => ?_
      obtain ⟨q1, q2, q3⟩ := newDD_ok (K := K) (b := b) (ρ := ρ1) (n := S1.length)
      obtain ⟨R2, F2⟩ := R1.new (o := newDD b) hD q2 q3
      rw [q1] at R2 F2
      have w1 := wfS_le l w
      have w0 : wfS (S1 ++ [newDD b]).length (wipeD σ vs) = true := wfS_le (by simp; omega) (wipe_wf w)
      have wρ : wfS ρ1.length (wipeD σ vs) = true := by rw [R1.len]; exact wipe_wf w1
      refine dc_ok okJ R1 (fun m => ?_) h (by simp) w0 R2 F2 R1.len.symm (Post.of p R2 (F1.trans R1 F2))
      rw [dSt_app wρ, wipe_eq, F1.le R.len w]
    · rename_i C d S1 h1
      split at h
      · cases h
        exact ei.ok h1 w R p
      · cases h
    · cases h
end
/-! ### written dicts -/
class EvP (K : PySem.W.Frag) (E : XK) (trs : List (TE × TE)) where
  run : List (Option DV) → List DO → Option (List (DV × DV) × List DO)
  good : ∀ {σ S ps S1}, run σ S = some (ps, S1) → wfS S.length σ = true → S.length ≤ S1.length ∧ (ps.all fun p => wf S1.length p.1 && wf S1.length p.2) = true
  ok : ∀ {σ S ps S1 ρ H Q}, run σ S = some (ps, S1) → wfS S.length σ = true → Rep K ρ S H → (∀ ρ' H', Rep K ρ' S1 H' → Fr ρ H ρ' H' → Q (ps.map fun p => (dV K ρ' p.1, dV K ρ' p.2)) H') → tPairs trs (dSt K ρ σ) H Q
instance : EvP K E [] where
  run := fun σ S => some ([], S)
  good := fun {σ S ps S1} h w => by
    cases h
    exact ⟨Nat.le_refl _, rfl⟩
  ok := fun {σ S ps S1 ρ H Q} h w R q => by
    cases h
    exact q ρ H R (Fr.refl _ _)
instance (tk tv : TE) (r : List (TE × TE)) [a : EvE K E tk] [b : EvE K E tv] [c : EvP K E r] : EvP K E ((tk, tv) :: r) where
  run := fun σ S => match a.run σ S with
    | some (.ret x S1) => (match b.run σ S1 with
      | some (.ret y S2) => (match c.run σ S2 with
        | some (ps, S3) => if (wf S3.length x && wf S3.length y) = true then some ((x, y) :: ps, S3) else none
        | none => none)
      | _ => none)
    | _ => none
  good := fun {σ S ps S1} h w => by
    split at h
    · rename_i x S1 h1
      have l1 := of_decide_eq_true (ba (a.good h1 w)).1
      split at h
      · rename_i y S2 h2
        have l2 := of_decide_eq_true (ba (b.good h2 (wfS_le l1 w))).1
        split at h
        · rename_i ps S3 h3
          obtain ⟨l3, w3⟩ := c.good h3 (wfS_le l2 (wfS_le l1 w))
          split at h
          · rename_i k
            cases h
            refine ⟨Nat.le_trans l1 (Nat.le_trans l2 l3), ?_⟩
            show ((_ && _) && _) = true
            rw [w3, k]
            rfl
          · cases h
        · cases h
      · cases h
    · cases h
  ok := fun {σ S ps S1 ρ H Q} h w R q => by
    split at h
    · rename_i x S1 h1
      obtain ⟨l1, wx⟩ := ba (a.good h1 w)
      have l1 := of_decide_eq_true l1
      split at h
      · rename_i y S2 h2
        obtain ⟨l2, wy⟩ := ba (b.good h2 (wfS_le l1 w))
        have l2 := of_decide_eq_true l2
        split at h
        · rename_i ps S3 h3
          split at h
          · cases h
            refine a.ok h1 w R fun ρ1 H1 R1 F1 => ?_
            rw [← F1.le R.len w]
            refine b.ok h2 (wfS_le l1 w) R1 fun ρ2 H2 R2 F2 => ?_
            rw [← F2.le R1.len (wfS_le l1 w)]
            refine c.ok h3 (wfS_le l2 (wfS_le l1 w)) R2 fun ρ3 H3 R3 F3 => ?_
            have z := q ρ3 H3 R3 ((F1.trans R1 F2).trans R2 F3)
            have ex : dV K ρ3 x = dV K ρ1 x := (F3.val R2.len (wf_le l2 wx)).trans (F2.val R1.len wx)
            have ey : dV K ρ3 y = dV K ρ2 y := F3.val R2.len wy
            rw [List.map_cons, ex, ey] at z
            exact z
          · cases h
        · cases h
      · cases h
    · cases h
def keyPs : List (DV × DV) → Option (List (Key × DV))
  | [] => some []
  | (k, v) :: r => match keyD k, keyPs r with
    | some k, some r => some ((k, v) :: r)
    | _, _ => none
theorem keyPs_ok {ρ : List Addr} : ∀ {ps : List (DV × DV)} {kvs : List (Key × DV)}, keyPs ps = some kvs → (ps.map fun p => (dV K ρ p.1, dV K ρ p.2)) = (kvs.map fun p => (p.1, dV K ρ p.2)).map fun kv => (kV kv.1, kv.2)
  | [], _, h => by cases h; rfl
  | (k, v) :: r, _, h => by
    unfold keyPs at h
    split at h
    · rename_i k' r' h1 h2
      cases h
      rw [List.map_cons, List.map_cons, List.map_cons, keyPs_ok h2, keyD_ok h1]
    · cases h
def mergeD (kvs more : List (Key × DV)) : List (Key × DV) := more.foldl (fun acc kv => putD acc kv.1 kv.2) kvs
theorem mergeD_eq {ρ : List Addr} : ∀ {more kvs : List (Key × DV)}, (mergeD kvs more).map (fun p => (p.1, dV K ρ p.2)) = mergeK (kvs.map fun p => (p.1, dV K ρ p.2)) (more.map fun p => (p.1, dV K ρ p.2))
  | [], _ => rfl
  | (k, v) :: r, kvs => by
    show (mergeD (putD kvs k v) r).map _ = mergeK (putK _ k (dV K ρ v)) _
    rw [mergeD_eq, putD_eq]
instance (trs : List (TE × TE)) [e : EvP K E trs] : EvE K E (tDisp trs) where
  run := fun σ S => match e.run σ (S ++ [.dK []]) with
    | some (ps, S1) => (match S1[S.length]?, keyPs ps with
      | some (.dK []), some kvs => if kvs.length ≤ 15 ∧ wfO S1.length (.dK (mergeD [] kvs)) = true then some (.ret (.ref S.length) (S1.set S.length (.dK (mergeD [] kvs)))) else none
      | _, _ => none)
    | none => none
  good := fun {σ S r} h w => by
    split at h
    · rename_i ps S1 h1
      have l := (e.good h1 (wfS_le (by simp) w)).1
      rw [List.length_append, List.length_singleton] at l
      split at h
      · split at h
        · cases h
          show (decide _ && decide _) = true
          rw [List.length_set]
          simp
          omega
        · cases h
      · cases h
    · cases h
  ok := fun {σ S r ρ H Q} h w R q => by
    split at h
    · rename_i ps S1 h1
      split at h
      · rename_i kvs e1 e2
        split at h
        · rename_i c
          cases h
          intro p hp
          obtain ⟨R0, F0⟩ := R.new (o := .dK []) hp rfl
          have eσ : dSt K (ρ ++ [p]) σ = dSt K ρ σ := F0.le R.len w
          rw [← eσ]
          refine e.ok h1 (wfS_le (by simp) w) R0 fun ρ1 H1 R1 F1 => ?_
          have ep : ρ1.getD S.length 0 = p := by
            rw [F1.at (by rw [List.length_append, R.len]; simp), ← R.len]
            simp [List.getD_eq_getElem?_getD]
          have g := (R1.get e1).1
          rw [ep] at g
          obtain ⟨R2, F2⟩ := R1.set e1 c.2
          rw [ep] at R2 F2
          refine ⟨g, _, keyPs_ok e2, by rw [List.length_map]; exact c.1, ?_⟩
          have z := q _ _ R2 ((F0.trans R0 F1).trans R1 F2)
          have ev : dV K ρ1 (.ref S.length) = .ref p := by show V.ref _ = _; rw [ep]
          have em : dO K ρ1 (.dK (mergeD [] kvs)) = .dK (mergeK [] (kvs.map fun p => (p.1, dV K ρ1 p.2))) := congrArg HO.dK mergeD_eq
          rw [ev, em] at z
          exact z
        · cases h
      · cases h
    · cases h
/-! ### sep.join -/
def rJoinO (K : PySem.W.Frag) : V → List V → Hp → VK → Prop := fun x xs H Q => ∃ a p, ∃ ys : List Str, x = .str a ∧ xs = [.ref p] ∧ (SqL K H p (ys.map V.str) ∨ SqT K H p (ys.map V.str)) ∧ (ys.map (·.length)).sum + ys.length * a.length ≤ 16777216 ∧ Q (.str (Txt.join a ys)) H
theorem pe_joinO {X : Cx} {o e : Expr} {to te : TE} {apos pos : Pos} (ho : PE X o to) (he : PE X e te) (hs : starEach [e] X.env = [(false, eval e X.env)] := by rfl) (hbase : attributeBase o "join" X.env (eval o X.env) = eval o X.env := by rfl) (hline : (apos.endLine == pos.line) = true := by rfl) :
    PE X (.Call (.Attribute o "join" apos) [e] [] pos) (tM1 (rJoinO X.K) to te) := pe_join ho he hs hbase hline
instance (to te : TE) [a : EvE K E to] [b : EvE K E te] : EvE K E (tM1 (rJoinO K) to te) where
  run := fun σ S => bindE (a.run σ S) fun x S1 => match x with
    | .str sep => bindE (b.run σ S1) fun y S2 => (match (itemsD S2 y).bind strsD with
      | some ys => if (ys.map (·.length)).sum + ys.length * sep.length ≤ 100000 then retS (.str (Txt.join sep ys)) S2 else none
      | none => none)
    | _ => none
  good := fun {σ S r} h w => bind_good (te := to) h w fun {x S1 r} l wx h => by
    split at h
    · exact bind_good (te := te) h (wfS_le l w) fun {y S2 r} l2 wy h => by
        split at h
        · split at h
          · exact ret_good h rfl
          · cases h
        · cases h
    · cases h
  ok := fun {σ S r ρ H Q} h w R p => bind_ok (te := to) h w R p fun {x S1 ρ1 H1} l wx h R1 F1 eσ p => by
    split at h
    · rename_i sep
      refine ⟨⟨sep, rfl⟩, ?_⟩
      rw [← eσ]
      refine bind_ok (te := te) h (wfS_le l w) R1 p fun {y S2 ρ2 H2} l2 wy h R2 F2 eσ2 p => ?_
      split at h
      · rename_i ys hy
        split at h
        · rename_i c
          obtain ⟨xs, h1, h2⟩ := Option.bind_eq_some_iff.mp hy
          obtain ⟨a, e, hs⟩ := itemsD_ok R2 h1
          rw [strsD_eq h2] at hs
          exact ⟨sep, a, ys, rfl, by rw [e], hs, Nat.le_trans c (by decide), ret_post (E := E) h R2 p⟩
        · cases h
      · cases h
    · cases h
/-! ### x in a tuple or a list of data -/
def rInDT (K : PySem.W.Frag) : R2 := fun x y H Q => ∃ d ds, Dp K H x d ∧ Dp K H y (.tuple ds) ∧ SeqAt.shaped d = true ∧ SeqAt.shaped (.tuple ds) = true ∧ Q (.bl (ds.any fun z => PyData.eqv z d)) H
theorem op_inDT {X : Cx} (hu : X.A.units + 65 < cLine) : OpR X (compareOp .In) (rInDT X.K) := by
  intro pins s σ H x y v u Q I rx ry h
  obtain ⟨d, ds, hd, he, sd, se, q⟩ := h
  obtain ⟨as, r1⟩ := Dp.reads I d x v hd rx
  obtain ⟨bs, r2⟩ := Dp.reads I (.tuple ds) y u he ry
  exact SeqAt.in_tuple_reads r2 r1 (SeqAt.canLay_of_shaped se) (SeqAt.canLay_of_shaped sd) (room_in_shaped sd hu) ⟨.bl _, H, I, rfl, q⟩
instance : EvR K (rInDT K) where
  run := fun S x y => match datD S 64 x, datD S 64 y with
    | some d, some (.tuple ds) => if SeqAt.shaped d = true ∧ SeqAt.shaped (.tuple ds) = true then retS (.bl (ds.any fun z => PyData.eqv z d)) S else none
    | _, _ => none
  good := fun {S x y q} h wx wy => by
    split at h
    · split at h
      · exact ret_good h rfl
      · cases h
    · cases h
  ok := fun {S x y q ρ H Q E} h wx wy R p => by
    split at h
    · rename_i d ds h1 h2
      split at h
      · rename_i c
        exact ⟨d, ds, datD_ok R h1, datD_ok R h2, c.1, c.2, ret_post (E := E) h R p⟩
      · cases h
    · cases h
end RunX
set_option maxHeartbeats 4000000
/-! x == () and d == {} whatever x and d hold. -/
namespace RunX
open PySem PySem.Spec PyProof.Rows L2 He PO
variable [Drw] [Cbv]
/-- t == () -/
def rEqE (K : PySem.W.Frag) : R2 := fun x y H Q => ∃ p q xs, x = .ref p ∧ y = .ref q ∧ SqT K H p xs ∧ SqT K H q [] ∧ Q (.bl (decide (xs.length = 0))) H
theorem op_eqE {X : Cx} (hu : X.A.units < cLine) : OpR X (compareOp .Eq) (rEqE X.K) := by
  intro pins s σ H x y v u Q I rx ry h
  obtain ⟨p, q, xs, rfl, rfl, hp, hq, go⟩ := h
  obtain rfl : v = Value.ref p := rx
  obtain rfl : u = Value.ref q := ry
  obtain ⟨its, rv, t1, _⟩ := I.tuple hp
  obtain ⟨its2, rv2, t2, _⟩ := I.tuple hq
  cases rv2
  refine SeqAt.RcAt.tuples (e := fun _ => true) t1 t2 hu (fun j h1 h2 => absurd h2 (by simp)) X.prog X.w _ _ ?_
  refine fin_bl I go ?_
  have l := rv.length
  cases its with
  | nil => simp at l; simp [l]
  | cons a r => simp at l; simp [l]
/-- d == {} -/
def rEqDE : R2 := fun x y H Q => ∃ a b ks, x = .ref a ∧ y = .ref b ∧ H a = some (.dK ks) ∧ H b = some (.dK []) ∧ Q (.bl (decide (ks.length = 0))) H
theorem op_eqDE {X : Cx} (hu : X.A.units < cLine) : OpR X (compareOp .Eq) rEqDE := by
  intro pins s σ H x y v u Q I rx ry h
  obtain ⟨a, b, ks, rfl, rfl, ea, eb, go⟩ := h
  obtain rfl : v = Value.ref a := rx
  obtain rfl : u = Value.ref b := ry
  obtain ⟨_, ya, va, ra, da⟩ := (show ObjOk X.prog X.w H s.heap a (.dK ks) from I.hok a _ ea)
  obtain ⟨_, yb, vb, rb, db⟩ := (show ObjOk X.prog X.w H s.heap b (.dK []) from I.hok b _ eb)
  cases rb
  have l := ra.length
  refine PySem.W.keq_eq (knd := mixKind X.prog X.w) (r := true) ya yb da db hu (fun e => ?_) (fin_bl I go (by cases ks <;> simp [← l]))
  cases va with
  | nil => exact .nil
  | cons p r => simp at e
variable {K : PySem.W.Frag} {E : XK}
def tupLenD (S : List DO) : DV → Option Nat
  | .ref n => (match S[n]? with
    | some (.tup xs) => some xs.length
    | _ => none)
  | _ => none
theorem tupLenD_ok {ρ : List Addr} {S : List DO} {H : Hp} {x : DV} {n : Nat} (R : Rep K ρ S H) (h : tupLenD S x = some n) : ∃ p xs, dV K ρ x = .ref p ∧ SqT K H p xs ∧ xs.length = n := by
  unfold tupLenD at h
  split at h
  · split at h
    · rename_i e
      cases h
      exact ⟨_, _, rfl, SqT.of (R.get e).1, List.length_map _⟩
    · cases h
  · cases h
instance : EvR K (rEqE K) where
  run := fun S x y => match tupLenD S x, tupLenD S y with
    | some n, some 0 => retS (.bl (decide (n = 0))) S
    | _, _ => none
  good := fun {S x y q} h wx wy => by
    split at h
    · exact ret_good h rfl
    · cases h
  ok := fun {S x y q ρ H Q E} h wx wy R p => by
    split at h
    · rename_i n h1 h2
      obtain ⟨a, xs, e1, t1, l1⟩ := tupLenD_ok R h1
      obtain ⟨b, ys, e2, t2, l2⟩ := tupLenD_ok R h2
      have ey : ys = [] := List.length_eq_zero_iff.mp l2
      subst ey
      exact ⟨a, b, xs, e1, e2, t1, t2, by rw [l1]; exact ret_post (E := E) h R p⟩
    · cases h
instance : EvR K rEqDE where
  run := fun S x y => match x, y with
    | .ref n, .ref m => (match S[n]?, S[m]? with
      | some (.dK ks), some (.dK []) => retS (.bl (decide (ks.length = 0))) S
      | _, _ => none)
    | _, _ => none
  good := fun {S x y q} h wx wy => by
    split at h
    · split at h
      · exact ret_good h rfl
      · cases h
    · cases h
  ok := fun {S x y q ρ H Q E} h wx wy R p => by
    split at h
    · split at h
      · rename_i ks e1 e2
        refine ⟨_, _, _, rfl, rfl, (R.get e1).1, (R.get e2).1, ?_⟩
        rw [List.length_map]
        exact ret_post (E := E) h R p
      · cases h
    · cases h
end RunX
set_option maxHeartbeats 4000000
/-! zip of two sources, each a list, a tuple or a text of signs below 128. -/
namespace ZG
open PySem PySem.Spec PyProof.Rows L2 RZ
inductive Src where
  | lst (a : Addr)
  | tup (a : Addr)
  | txt (x : Str)
def Src.val : Src → V
  | .lst a => .ref a
  | .tup a => .ref a
  | .txt x => .str x
/-- how many items -/
def Src.len (K : PySem.W.Frag) (H : Hp) : Src → Nat → Prop
  | .lst a, n => ∃ xs, SqL K H a xs ∧ xs.length = n
  | .tup a, n => ∃ xs, SqT K H a xs ∧ xs.length = n
  | .txt x, n => x.cps.all (· < 128) = true ∧ x.cps.size = n
/-- the i-th item -/
def Src.nth (K : PySem.W.Frag) (H : Hp) : Src → Nat → V → Prop
  | .lst a, i, v => ∀ xs, SqL K H a xs → xs[i]? = some v
  | .tup a, i, v => ∀ xs, SqT K H a xs → xs[i]? = some v
  | .txt x, i, v => ∃ c, x.cps[i]? = some c ∧ v = .str ⟨#[c]⟩
def Src.on (it : Addr) (i : Nat) (h : Heap) : Src → Prop
  | .lst a => h.IsListIter it a i
  | .tup a => h.IsTupleIter it a i
  | .txt x => ∃ t, h.IsStrIter it "str_ascii_iterator" x t i
def Src.fp (it : Addr) : Src → List Addr
  | .lst a => [it, a]
  | .tup a => [it, a]
  | .txt _ => [it]
theorem draws_tup {prog : Program} {w : World} {A : Around} (hh : A.handled = none) (it l : Addr) (hne : l ≠ it) (items : Array Value) :
    Draws prog w A it [it, l] items.size (fun i v => items[i]? = some v) (fun i h => h.IsTupleIter it l i ∧ h.IsTuple l items) where
  live := fun _ _ st => let ⟨o, ho, _⟩ := st.1; ⟨o, ho⟩
  frame := fun _ _ _ st hk => ⟨st.1.at fun o e => hk it (by simp) o e, let ⟨o, ho, r⟩ := st.2; ⟨o, hk l (by simp) o ho, r⟩⟩
  item := fun i s Q E hi st hQ => nextOf_tuple_item st.1 st.2 (x := items[i]) (by simp [hi]) fun h' hit' hs' => hQ _ h' s.toks (by simp [hi]) ⟨hit', let ⟨o, ho, r⟩ := st.2; ⟨o, hs'.extBut _ _ hne ho, r⟩⟩ hs'
  done := fun s Q E st hE => nextOf_tuple_end hh st.1 st.2 (by simp) hE
/-- what it takes to draw from a source -/
theorem draw {X : Cx} {pins : List (Addr × Obj)} {σ : L2.St} {H : Hp} {s : Shared} (I : L2.Inv X pins σ H s) (hh : X.A.in1.handled = none) {S : Src} {it : Addr} {i n : Nat} (on : S.on it i s.heap) (hl : S.len X.K H n) (na : ∀ a, S.fp it = [it, a] → a ≠ it) :
    ∃ (P : Nat → Value → Prop) (St : Nat → Heap → Prop), Draws X.prog X.w X.A.in1 it (S.fp it) n P St ∧ St i s.heap ∧ (∀ u, P i u → ∃ x, S.nth X.K H i x ∧ RelV x u) ∧ ∀ h', St (i + 1) h' → S.on it (i + 1) h' := by
  cases S with
  | lst a =>
    obtain ⟨xs, hs, rfl⟩ := hl
    obtain ⟨its, rv, p, _⟩ := I.list hs
    have D := Draws.list (prog := X.prog) (w := X.w) hh it a (na a rfl) its.toArray
    rw [show its.toArray.size = xs.length by simp [rv.length]] at D
    refine ⟨_, _, D, ⟨on, p.isList⟩, fun u hu => ?_, fun h' st => st.1⟩
    have hi : i < xs.length := by
      have := (Array.getElem?_eq_some_iff.mp hu).1
      simp at this
      rw [rv.length]
      exact this
    obtain ⟨v, hv, r⟩ := rv.get (List.getElem?_eq_getElem hi)
    have e : v = u := by
      rw [List.getElem?_toArray, hv] at hu
      exact Option.some.inj hu
    subst e
    exact ⟨_, fun ys hy => by rw [I.list_inj hy hs]; exact List.getElem?_eq_getElem hi, r⟩
  | tup a =>
    obtain ⟨xs, hs, rfl⟩ := hl
    obtain ⟨its, rv, p, _⟩ := I.tuple hs
    have D := draws_tup (prog := X.prog) (w := X.w) hh it a (na a rfl) its.toArray
    rw [show its.toArray.size = xs.length by simp [rv.length]] at D
    refine ⟨_, _, D, ⟨on, p⟩, fun u hu => ?_, fun h' st => st.1⟩
    have hi : i < xs.length := by
      have := (Array.getElem?_eq_some_iff.mp hu).1
      simp at this
      rw [rv.length]
      exact this
    obtain ⟨v, hv, r⟩ := rv.get (List.getElem?_eq_getElem hi)
    have e : v = u := by
      rw [List.getElem?_toArray, hv] at hu
      exact Option.some.inj hu
    subst e
    exact ⟨_, fun ys hy => by rw [I.tuple_inj hy hs]; exact List.getElem?_eq_getElem hi, r⟩
  | txt x =>
    obtain ⟨ha, rfl⟩ := hl
    obtain ⟨t, on⟩ := on
    exact ⟨_, _, Draws.strAscii (prog := X.prog) (w := X.w) hh it x t, on, fun u ⟨c, k, hc, e⟩ => ⟨.str ⟨#[c]⟩, ⟨c, hc, rfl⟩, k, e⟩, fun h' st => ⟨t, st⟩⟩
/-- the items of both, in new pairs -/
def ItzG (K : PySem.W.Frag) (a b : Src) : It :=
  ⟨fun i H => ∃ n m, a.len K H n ∧ b.len K H m ∧ i < n ∧ i < m,
    fun i H v H' => ∃ T x y, v = .ref T ∧ H T = none ∧ H' = upd H T (.tup [x, y]) ∧ a.nth K H i x ∧ b.nth K H i y,
    fun i H => ∃ n m, a.len K H n ∧ b.len K H m ∧ i ≤ n ∧ i ≤ m ∧ (i = n ∨ i = m)⟩
theorem fp_obj {S : Src} {it : Addr} {i : Nat} {h : Heap} (on : S.on it i h) : ∃ o, h.get? it = some o ∧ ∀ v, o.data ≠ .cell v := by
  cases S with
  | lst a => obtain ⟨o, e, _, d⟩ := on; exact ⟨o, e, fun v q => by rw [d] at q; cases q⟩
  | tup a => obtain ⟨o, e, _, d⟩ := on; exact ⟨o, e, fun v q => by rw [d] at q; cases q⟩
  | txt x => obtain ⟨t, o, e, _, d⟩ := on; exact ⟨o, e, fun v q => by rw [d] at q; cases q⟩
theorem on_keep {S : Src} {it : Addr} {i : Nat} {h h' : Heap} (on : S.on it i h) (k : ∀ o, h.get? it = some o → h'.get? it = some o) : S.on it i h' := by
  cases S with
  | lst a => obtain ⟨o, e, r⟩ := on; exact ⟨o, k o e, r⟩
  | tup a => obtain ⟨o, e, r⟩ := on; exact ⟨o, k o e, r⟩
  | txt x => obtain ⟨t, o, e, r⟩ := on; exact ⟨t, o, k o e, r⟩
theorem turn_zipG {P : Program} {w : World} {K : PySem.W.Frag} {elts : List Expr} {kk : Nat} {tpos : Pos} {a b : Src} {z TI TO i1 i2 : Addr} (S : ZipSep2 z TI TO i1 i2 (a.fp i1) (b.fp i2)) (na : ∀ c, a.fp i1 = [i1, c] → c ≠ i1) (nb : ∀ c, b.fp i2 = [i2, c] → c ≠ i2) :
    Turn P w K (.Tuple elts kk tpos) (ItzG K a b) [z, TI, TO, i1, i2] z (fun i h => IsZip h z TI TO .none ∧ IsTupOf2 h TI (.ref i1) (.ref i2) ∧ (∃ x y, IsTupOf2 h TO x y) ∧ a.on i1 i h ∧ b.on i2 i h) where
  mem := by simp
  obj := fun i h st c hc => by
    obtain ⟨hz, hTI, ⟨x, y, hTO⟩, h1, h2⟩ := st
    have e' : c = z ∨ c = TI ∨ c = TO ∨ c = i1 ∨ c = i2 := by simpa using hc
    rcases e' with rfl | rfl | rfl | rfl | rfl
    · exact ⟨_, hz, fun v q => nomatch q⟩
    · exact ⟨_, hTI, fun v q => nomatch q⟩
    · exact ⟨_, hTO, fun v q => nomatch q⟩
    · exact fp_obj h1
    · exact fp_obj h2
  keep := fun i h h' st k => by
    obtain ⟨hz, hTI, ⟨x, y, hTO⟩, h1, h2⟩ := st
    exact ⟨k z (by simp) _ hz, k TI (by simp) _ hTI, ⟨x, y, k TO (by simp) _ hTO⟩, on_keep h1 (k i1 (by simp)), on_keep h2 (k i2 (by simp))⟩
  item := by
    intro X hP hw hK hc i pins s σ H E I hf st hg
    subst hP hw hK
    obtain ⟨hz, hTI, ⟨x0, y0, hTO⟩, h1, h2⟩ := st
    obtain ⟨n, m, ln, lm, hn, hm⟩ := hg
    obtain ⟨P1, St1, D1, s1, v1, k1⟩ := draw I (show X.A.in1.handled = none from I.ok.hd hc) h1 ln na
    obtain ⟨P2, St2, D2, s2, v2, k2⟩ := draw I (show X.A.in1.handled = none from I.ok.hd hc) h2 lm nb
    have lo : ∀ c ∈ [z, TI, TO, i1, i2], c < s.heap.objs.size := fun c hcm => by
      have e' : c = z ∨ c = TI ∨ c = TO ∨ c = i1 ∨ c = i2 := by simpa using hcm
      rcases e' with rfl | rfl | rfl | rfl | rfl
      · exact Heap.lt_size hz
      · exact Heap.lt_size hTI
      · exact Heap.lt_size hTO
      · obtain ⟨_, e1, _⟩ := fp_obj h1; exact Heap.lt_size e1
      · obtain ⟨_, e2, _⟩ := fp_obj h2; exact Heap.lt_size e2
    refine wpAny_pyNext_zipD2_item S D1 D2 hz hTI hTO s1 s2 hn hm fun u u2 h' tk p1 p2 z' TO' t1 t2 hT hsz hk => ?_
    refine ⟨_, rfl, wpAny_letOwnedTupleGo_zip (s := { s with heap := h', toks := tk }) z' fun h'' z'' sb => ?_⟩
    obtain ⟨x, nx, ru⟩ := v1 u p1
    obtain ⟨y, ny, ru2⟩ := v2 u2 p2
    have hzl := lo z (by simp)
    have hT2 : h''.get? s.heap.objs.size = some { cls := .type "tuple", data := .seq #[u, u2] } := (sb.2 _ (Nat.ne_of_gt hzl)).trans hT
    have new : ObjOk X.prog X.w (upd H s.heap.objs.size (.tup [x, y])) h'' s.heap.objs.size (.tup [x, y]) :=
      ⟨by show 2 ≤ sizeLine; decide, [u, u2], .cons ru (.cons ru2 .nil), ⟨_, hT2, rfl, _, rfl⟩⟩
    have I1 : L2.Inv X pins σ (upd H s.heap.objs.size (.tup [x, y])) { s with heap := h'', toks := tk } :=
      I.turnedNew (t' := tk) (ch := [z, TI, TO, i1, i2]) (fun c o hb q => by
        have nb' : c ≠ z ∧ c ≠ TO ∧ c ≠ i1 ∧ c ≠ i2 := ⟨fun e => hb (by simp [e]), fun e => hb (by simp [e]), fun e => hb (by simp [e]), fun e => hb (by simp [e])⟩
        exact (sb.2 c nb'.1).trans (hk c o nb'.1 nb'.2.1 nb'.2.2.1 nb'.2.2.2 q)) hf (Nat.le_refl _) new
    refine ⟨.ref s.heap.objs.size, _, I1, rfl, ⟨_, x, y, rfl, I.hok.fresh (Nat.le_refl _), rfl, nx, ny⟩, ⟨z'', (sb.2 _ S.TIz).trans (hk _ _ S.TIz S.TITO S.TIi1 S.TIi2 hTI), ⟨u, u2, (sb.2 _ S.TOz).trans TO'⟩, ?_, ?_⟩, fun c hcm => ?_⟩
    · exact on_keep (k1 h' t1) fun o q => (sb.2 _ S.zi1.symm).trans q
    · exact on_keep (k2 h' t2) fun o q => (sb.2 _ S.zi2.symm).trans q
    · rw [upd_ne (Nat.ne_of_lt (lo c hcm))]
      exact (hf c hcm).1
  done := by
    intro X hP hw hK hc i pins s σ H E I hf st hg
    subst hP hw hK
    obtain ⟨hz, hTI, ⟨x0, y0, hTO⟩, h1, h2⟩ := st
    obtain ⟨n, m, ln, lm, hn, hm, he⟩ := hg
    obtain ⟨P1, St1, D1, s1, _, _⟩ := draw I (show X.A.in1.handled = none from I.ok.hd hc) h1 ln na
    obtain ⟨P2, St2, D2, s2, _, _⟩ := draw I (show X.A.in1.handled = none from I.ok.hd hc) h2 lm nb
    exact wpAny_pyNext_zipD2_end S D1 D2 hz hTI hTO s1 s2 hn hm he fun h' tk hk => ⟨rfl, I.turnedL (t' := tk) (ch := [z, TI, TO, i1, i2]) (fun c o hb q =>
      hk c o (fun e => hb (by simp [e])) (fun e => hb (by simp [e])) (fun e => hb (by simp [e])) (fun e => hb (by simp [e])) q) hf⟩
  self := fun A i s Q E st h => wpAny_pyIter_zip st.1 h
/-- iter(source) -/
def Src.mk (S : Src) (t : Tok) : Obj := match S with
  | .lst a => { cls := .type "list_iterator", data := .fields #[.ref a, .int 0 0] }
  | .tup a => { cls := .type "tuple_iterator", data := .fields #[.ref a, .int 0 0] }
  | .txt x => { cls := .type "str_ascii_iterator", data := .fields #[.str x t, .int 0 0] }
def Src.raw (S : Src) (t : Tok) : Value := match S with
  | .lst a => .ref a
  | .tup a => .ref a
  | .txt x => .str x t
def Src.here (S : Src) (h : Heap) : Prop := match S with
  | .lst a => ∃ xs, h.IsList a xs
  | .tup a => ∃ xs, h.IsTuple a xs
  | .txt x => x.cps.all (· < 128) = true
theorem iter_src {prog : Program} {w : World} {A : Around} {E : Value → Shared → Prop} {s : Shared} {S : Src} {t : Tok} {Q : Value → Shared → Prop} (h : S.here s.heap) (hQ : Q (.ref s.heap.objs.size) { s with heap := s.heap.push (S.mk t) }) : wpAny (model prog w) A (pyIter (S.raw t)) Q E s := by
  cases S with
  | lst a => obtain ⟨xs, h⟩ := h; exact wpAny_pyIter_list h hQ
  | tup a => obtain ⟨xs, h⟩ := h; exact wpAny_pyIter_tuple h hQ
  | txt x => exact wpAny_pyIter_ascii h hQ
theorem here_push {S : Src} {h : Heap} (k : S.here h) (o : Obj) : S.here (h.push o) := by
  cases S with
  | lst a => obtain ⟨xs, k⟩ := k; exact ⟨xs, k.push _⟩
  | tup a => obtain ⟨xs, k⟩ := k; exact ⟨xs, Heap.IsTuple.push k _⟩
  | txt x => exact k
abbrev z1 (h : Heap) (a : Src) (t : Tok) : Heap := h.push (a.mk t)
abbrev z2 (h : Heap) (a b : Src) (t u : Tok) : Heap := (z1 h a t).push (b.mk u)
abbrev z3 (h : Heap) (a b : Src) (t u : Tok) : Heap := (z2 h a b t u).push { cls := .type "tuple", data := .seq #[.ref h.objs.size, .ref (z1 h a t).objs.size] }
abbrev z4 (h : Heap) (a b : Src) (t u : Tok) : Heap := (z3 h a b t u).push { cls := .type "tuple", data := .seq #[.none, .none] }
abbrev z5 (h : Heap) (a b : Src) (t u : Tok) : Heap := (z4 h a b t u).push { cls := .type "zip", data := .fields #[.none, .bool false, .bool false, .ref (z2 h a b t u).objs.size, .ref (z3 h a b t u).objs.size] }
theorem meets_zipG (a b : Src) (t u : Tok) : Meets (Builtin.«zip.__new__» ⟨[.type "zip", a.raw t, b.raw u], []⟩) (fun _ R s => a.here s.heap ∧ b.here s.heap ∧ R (.ok (.ret (.ref (z4 s.heap a b t u).objs.size))) { s with heap := z5 s.heap a b t u }) :=
  .of_wp fun prog w A R s h => by
    obtain ⟨hp, g, d, tk, os⟩ := s
    obtain ⟨ha, hb, h⟩ := h
    have hsub := sub_zip
    have hA : a.here (Shared.heap ⟨hp, g, d, tk, os⟩) := ha
    have hB : b.here (Shared.heap ⟨hp.push (a.mk t), g, d, tk, os⟩) := here_push hb _
    wp_walk using iter_src (t := t) hA, iter_src (t := u) hB
    exact ⟨_, rfl, h⟩
theorem mk_free {S : Src} {t : Tok} : (S.mk t).isFreed = false := by
  cases S <;> rfl
theorem mk_on {S : Src} {t : Tok} {it : Addr} {h : Heap} (e : h.get? it = some (S.mk t)) : S.on it 0 h := by
  cases S with
  | lst a => exact ⟨_, e, rfl, rfl⟩
  | tup a => exact ⟨_, e, rfl, rfl⟩
  | txt x => exact ⟨t, _, e, rfl, rfl⟩
section
variable {prog : Program} {w : World} {A : Around} {E : Value → Shared → Prop} {s : Shared}
theorem call_zipG {a b : Src} {t u : Tok} {Q : Value → Shared → Prop} (ha : a.here s.heap) (hb : b.here s.heap)
    (h : ∀ h', IsZip h' (s.heap.objs.size + 4) (s.heap.objs.size + 2) (s.heap.objs.size + 3) .none → IsTupOf2 h' (s.heap.objs.size + 2) (.ref s.heap.objs.size) (.ref (s.heap.objs.size + 1)) →
      IsTupOf2 h' (s.heap.objs.size + 3) .none .none → a.on s.heap.objs.size 0 h' → b.on (s.heap.objs.size + 1) 0 h' → (∀ c o, s.heap.get? c = some o → h'.get? c = some o) → Q (.ref (s.heap.objs.size + 4)) { s with heap := h' }) :
    wpAny (model prog w) A (call (.type "zip") [a.raw t, b.raw u]) Q E s := by
  refine callType_new F.called_zip (by decide) (F.typeCall_zip_2 _ _) (F.newCall_zip_2 _ _) (fun obj => F.args_object_init_3 obj _ _) F.entry_zip_new (meets_zipG a b t u) ⟨ha, hb, ?_⟩
  have s1 : (z1 s.heap a t).objs.size = s.heap.objs.size + 1 := Heap.size_push ..
  have s2 : (z2 s.heap a b t u).objs.size = s.heap.objs.size + 2 := by rw [Heap.size_push, s1]
  have s3 : (z3 s.heap a b t u).objs.size = s.heap.objs.size + 3 := by rw [Heap.size_push, s2]
  have s4 : (z4 s.heap a b t u).objs.size = s.heap.objs.size + 4 := by rw [Heap.size_push, s3]
  have up : ∀ c o, s.heap.get? c = some o → (z5 s.heap a b t u).get? c = some o := fun c o e => Heap.get?_push_of_some _ (Heap.get?_push_of_some _ (Heap.get?_push_of_some _ (Heap.get?_push_of_some _ (Heap.get?_push_of_some _ e))))
  have g5 : (z5 s.heap a b t u).get? (z4 s.heap a b t u).objs.size = some _ := Heap.get?_push_size _ rfl
  have g4 : (z5 s.heap a b t u).get? (z3 s.heap a b t u).objs.size = some _ := Heap.get?_push_of_some _ (Heap.get?_push_size _ rfl)
  have g3 : (z5 s.heap a b t u).get? (z2 s.heap a b t u).objs.size = some _ := Heap.get?_push_of_some _ (Heap.get?_push_of_some _ (Heap.get?_push_size _ rfl))
  have g2 : (z5 s.heap a b t u).get? (z1 s.heap a t).objs.size = some _ := Heap.get?_push_of_some _ (Heap.get?_push_of_some _ (Heap.get?_push_of_some _ (Heap.get?_push_size _ mk_free)))
  have g1 : (z5 s.heap a b t u).get? s.heap.objs.size = some _ := Heap.get?_push_of_some _ (Heap.get?_push_of_some _ (Heap.get?_push_of_some _ (Heap.get?_push_of_some _ (Heap.get?_push_size _ mk_free))))
  show _ ∧ _
  rw [s2, s3, s4] at g5
  rw [s3] at g4
  rw [s1, s2] at g3
  rw [s1] at g2
  rw [s4]
  exact ⟨⟨_, g5, rfl⟩, h _ g5 g3 g4 (mk_on g1) (mk_on g2) up⟩
end
/-- for x, y in zip(a, b) -/
def iZipG (K : PySem.W.Frag) (ta : TA) : TI := fun σ H R => ta σ H fun vs H1 => ∃ a b : Src, vs = [a.val, b.val] ∧ (∃ n, a.len K H1 n) ∧ (∃ n, b.len K H1 n) ∧ R (ItzG K a b) H1
theorem src_raw {X : Cx} {pins : List (Addr × Obj)} {σ : L2.St} {H : Hp} {s : Shared} (I : L2.Inv X pins σ H s) {S : Src} {u : Value} (r : RelV S.val u) (l : ∃ n, S.len X.K H n) : ∃ t, u = S.raw t ∧ S.here s.heap ∧ ∀ it c, S.fp it = [it, c] → c < s.heap.objs.size := by
  obtain ⟨n, l⟩ := l
  cases S with
  | lst a =>
    obtain ⟨xs, hs, _⟩ := l
    obtain ⟨its, _, p, _⟩ := I.list hs
    exact ⟨0, r, ⟨_, p.isList⟩, fun it c e => by cases e; exact p.lt⟩
  | tup a =>
    obtain ⟨xs, hs, _⟩ := l
    obtain ⟨its, _, p, _⟩ := I.tuple hs
    obtain ⟨o, ho, _⟩ := id p
    exact ⟨0, r, ⟨its.toArray, p⟩, fun it c e => by cases e; exact Heap.lt_size ho⟩
  | txt x =>
    obtain ⟨t, e⟩ := r
    exact ⟨t, e, l.1, fun it c e => nomatch e⟩
theorem pi_zipG {X : Cx} {e e2 : Expr} {ta : TA} {p pos tpos : Pos} {elts : List Expr} {kk : Nat} (hg : Gl X "zip") (hm : X.mg "zip" = none) (ha : PA X [e, e2] ta)
    (hs : starEach [e, e2] X.env = (false, eval e X.env) :: starEach [e2] X.env := by rfl) (hpl : (backTo pos (starEach [e2] X.env)).any (·.1) = false := by rfl) :
    PI X (.Tuple elts kk tpos) (.Call (.Name "zip" p) [e, e2] [] pos) (iZipG X.K ta) := by
  refine ⟨fun pins s σ H R I h => ?_⟩
  refine Call_ (ld_blt I hg hm PyProof.Rows.boot_zip (PyProof.Rows.callWith_type1 (thn (ha.run pos pins s σ H _ I h) fun us s1 ⟨vs, H1, I1, r1, q1⟩ => ?_) hs hpl))
  obtain ⟨a, b, ex, la, lb, q⟩ := q1
  subst ex
  cases r1 with
  | cons r rr =>
    cases rr with
    | cons r' rr =>
      cases rr
      obtain ⟨t, rfl, ka, lta⟩ := src_raw I1 r la
      obtain ⟨t', rfl, kb, ltb⟩ := src_raw I1 r' lb
      refine call_zipG ka kb fun h' hz hTI hTO h1 h2 hk => wpAny_pyIter_zip hz ?_
      have I2 : L2.Inv X pins σ H1 { s1 with heap := h' } := I1.kept (t' := s1.toks) hk
      have fa : ∀ {S : Src} {it c : Addr}, c ∈ S.fp it → c = it ∨ S.fp it = [it, c] := fun {S it c} hc => by
        cases S with
        | lst a => rcases List.mem_cons.mp hc with q | q; exact .inl q; rw [List.mem_singleton.mp q]; exact .inr rfl
        | tup a => rcases List.mem_cons.mp hc with q | q; exact .inl q; rw [List.mem_singleton.mp q]; exact .inr rfl
        | txt x => exact .inl (List.mem_singleton.mp hc)
      have me : ∀ {S : Src} {it : Addr}, it ∈ S.fp it := fun {S it} => by cases S <;> exact List.mem_cons_self
      have outA : ∀ c, c ∈ a.fp s1.heap.objs.size → c ≤ s1.heap.objs.size := fun c hc => (fa hc).elim (fun q => by rw [q]; exact Nat.le_refl _) fun q => Nat.le_of_lt (lta _ _ q)
      have outB : ∀ c, c ∈ b.fp (s1.heap.objs.size + 1) → c ≤ s1.heap.objs.size + 1 ∧ c ≠ s1.heap.objs.size := fun c hc => (fa hc).elim (fun q => by rw [q]; exact ⟨Nat.le_refl _, Nat.succ_ne_self _⟩) fun q => ⟨Nat.le_succ_of_le (Nat.le_of_lt (ltb _ _ q)), Nat.ne_of_lt (ltb _ _ q)⟩
      have S : ZipSep2 (s1.heap.objs.size + 4) (s1.heap.objs.size + 2) (s1.heap.objs.size + 3) s1.heap.objs.size (s1.heap.objs.size + 1) (a.fp s1.heap.objs.size) (b.fp (s1.heap.objs.size + 1)) := by
        generalize s1.heap.objs.size = n at outA outB
        exact {
          TIz := show (n + 2 : Nat) ≠ n + 4 by omega
          TOz := show (n + 3 : Nat) ≠ n + 4 by omega
          TITO := show (n + 2 : Nat) ≠ n + 3 by omega
          TIi1 := show (n + 2 : Nat) ≠ n by omega
          mem1 := me
          zf1 := fun q => absurd (show (n + 4 : Nat) ≤ n from outA _ q) (by omega)
          Tf1 := fun q => absurd (show (n + 3 : Nat) ≤ n from outA _ q) (by omega)
          TIi2 := show (n + 2 : Nat) ≠ n + 1 by omega
          mem2 := me
          zf2 := fun q => absurd (show (n + 4 : Nat) ≤ n + 1 from (outB _ q).1) (by omega)
          Tf2 := fun q => absurd (show (n + 3 : Nat) ≤ n + 1 from (outB _ q).1) (by omega)
          sep1_2 := fun q => (outB _ q).2 rfl
          sep2_1 := fun q => absurd (show (n + 1 : Nat) ≤ n from outA _ q) (by omega) }
      refine ⟨s1.heap.objs.size + 4, [s1.heap.objs.size + 4, s1.heap.objs.size + 2, s1.heap.objs.size + 3, s1.heap.objs.size, s1.heap.objs.size + 1], _, _, H1, rfl, I2, turn_zipG S (fun c e => Nat.ne_of_lt (lta _ _ e)) (fun c e => Nat.ne_of_lt (Nat.lt_succ_of_lt (ltb _ _ e))), ⟨hz, hTI, ⟨_, _, hTO⟩, h1, h2⟩, fun c hcm => ?_, q⟩
      have e' : c = s1.heap.objs.size + 4 ∨ c = s1.heap.objs.size + 2 ∨ c = s1.heap.objs.size + 3 ∨ c = s1.heap.objs.size ∨ c = s1.heap.objs.size + 1 := by simpa using hcm
      have hle : s1.heap.objs.size ≤ c := by
        rcases e' with z | z | z | z | z
        · rw [z]; exact Nat.le_add_right _ 4
        · rw [z]; exact Nat.le_add_right _ 2
        · rw [z]; exact Nat.le_add_right _ 3
        · rw [z]; exact Nat.le_refl _
        · rw [z]; exact Nat.le_add_right _ 1
      exact I1.fpOk hle (I1.hok.fresh hle)
end ZG
set_option maxHeartbeats 4000000
/-! for x, y in zip(a, b) -/
namespace RunX
open PySem PySem.Spec PyProof.Rows L2 He PO ZG
variable [Drw] [Cbv]
variable {K : PySem.W.Frag} {E : XK}
def srcV (ρ : List Addr) : SrcD → Src
  | .lst n => .lst (ρ.getD n 0)
  | .tup n => .tup (ρ.getD n 0)
  | .txt z => .txt z
def srcWf (n : Nat) : SrcD → Bool
  | .lst m => decide (m < n)
  | .tup m => decide (m < n)
  | .txt _ => true
theorem srcV_at {ρ ρ' : List Addr} {H H' : Hp} {s : SrcD} (F : Fr ρ H ρ' H') (w : srcWf ρ.length s = true) : srcV ρ' s = srcV ρ s := by
  cases s with
  | lst n => simp only [srcV, F.at (of_decide_eq_true w)]
  | tup n => simp only [srcV, F.at (of_decide_eq_true w)]
  | txt z => rfl
theorem src_len {ρ : List Addr} {S : List DO} {H : Hp} {s : SrcD} {n : Nat} (R : Rep K ρ S H) (h : s.len S = some n) : (srcV ρ s).len K H n := by
  cases s with
  | lst m =>
    have h' : (match S[m]? with
      | some (.lst xs) => some xs.length
      | _ => none) = some n := h
    split at h'
    · rename_i xs e
      cases h'
      exact ⟨_, SqL.of (R.get e).1, List.length_map _⟩
    · cases h'
  | tup m =>
    have h' : (match S[m]? with
      | some (.tup xs) => some xs.length
      | _ => none) = some n := h
    split at h'
    · rename_i xs e
      cases h'
      exact ⟨_, SqT.of (R.get e).1, List.length_map _⟩
    · cases h'
  | txt z =>
    have h' : (if z.cps.all (· < 128) = true then some z.cps.size else none) = some n := h
    split at h'
    · rename_i c
      cases h'
      exact ⟨c, rfl⟩
    · cases h'
theorem src_nth {ρ : List Addr} {S : List DO} {H : Hp} {s : SrcD} {i : Nat} {x : DV} {v : V} (R : Rep K ρ S H) (h : s.at i S = some (some x)) (y : (srcV ρ s).nth K H i v) : v = dV K ρ x ∧ wf S.length x = true := by
  cases s with
  | lst m =>
    have h' : (match S[m]? with
      | some (.lst xs) => some xs[i]?
      | _ => none) = some (some x) := h
    split at h'
    · rename_i xs e
      have hx := Option.some.inj h'
      obtain ⟨g, w⟩ := R.get e
      have z := y _ (SqL.of g)
      rw [List.getElem?_map, hx] at z
      exact ⟨(Option.some.inj z).symm, List.all_eq_true.mp w x (List.mem_of_getElem? hx)⟩
    · cases h'
  | tup m =>
    have h' : (match S[m]? with
      | some (.tup xs) => some xs[i]?
      | _ => none) = some (some x) := h
    split at h'
    · rename_i xs e
      have hx := Option.some.inj h'
      obtain ⟨g, w⟩ := R.get e
      have z := y _ (SqT.of g)
      rw [List.getElem?_map, hx] at z
      exact ⟨(Option.some.inj z).symm, List.all_eq_true.mp w x (List.mem_of_getElem? hx)⟩
    · cases h'
  | txt z =>
    obtain ⟨c, hc, e⟩ := Option.map_eq_some_iff.mp (Option.some.inj (show some ((z.cps[i]?).map fun c => DV.str ⟨#[c]⟩) = some (some x) from h))
    obtain ⟨c', hc', ev⟩ := y
    rw [hc] at hc'
    cases hc'
    subst e
    exact ⟨ev, rfl⟩
theorem at_zip {a b : SrcD} {i : Nat} {S : List DO} {q} (h : (ItD.zip a b).at i S = some q) : ∃ n m, a.len S = some n ∧ b.len S = some m ∧ ((i < n ∧ i < m ∧ ∃ x y, a.at i S = some (some x) ∧ b.at i S = some (some y) ∧ q = some (.ref S.length, S ++ [.tup [x, y]])) ∨ (i ≤ n ∧ i ≤ m ∧ (i = n ∨ i = m) ∧ q = none)) := by
  have h' : (match a.len S, b.len S with
    | some n, some m => if i < n ∧ i < m then (match a.at i S, b.at i S with
      | some (some x), some (some y) => some (some (DV.ref S.length, S ++ [DO.tup [x, y]]))
      | _, _ => none) else if i ≤ n ∧ i ≤ m ∧ (i = n ∨ i = m) then some none else none
    | _, _ => none) = some q := h
  split at h'
  · rename_i n m e1 e2
    split at h'
    · rename_i c
      split at h'
      · rename_i x y ex ey
        exact ⟨n, m, e1, e2, .inl ⟨c.1, c.2, x, y, ex, ey, (Option.some.inj h').symm⟩⟩
      · cases h'
    · split at h'
      · rename_i c
        exact ⟨n, m, e1, e2, .inr ⟨c.1, c.2.1, c.2.2, (Option.some.inj h').symm⟩⟩
      · cases h'
  · cases h'
theorem zip_ok {ρ : List Addr} {H0 : Hp} {a b : SrcD} (wa : srcWf ρ.length a = true) (wb : srcWf ρ.length b = true) : ItOk K ρ H0 (.zip a b) (ItzG K (srcV ρ a) (srcV ρ b)) where
  stop := fun {ρ' S H i} F R h => by
    obtain ⟨n, m, e1, e2, z⟩ := at_zip h
    have l1 := src_len R e1
    have l2 := src_len R e2
    rw [srcV_at F wa] at l1
    rw [srcV_at F wb] at l2
    rcases z with ⟨_, _, x, y, _, _, q⟩ | ⟨k1, k2, k3, _⟩
    · cases q
    · exact ⟨n, m, l1, l2, k1, k2, k3⟩
  go := fun {ρ' S H i x} F R h => by
    obtain ⟨n, m, e1, e2, z⟩ := at_zip h
    have l1 := src_len R e1
    have l2 := src_len R e2
    rw [srcV_at F wa] at l1
    rw [srcV_at F wb] at l2
    rcases z with ⟨k1, k2, _⟩ | ⟨_, _, _, q⟩
    · exact ⟨n, m, l1, l2, k1, k2⟩
    · cases q
  yld := fun {ρ' S S' H H' i x v} F R h y => by
    obtain ⟨n, m, e1, e2, z⟩ := at_zip h
    rcases z with ⟨k1, k2, p, q, ep, eq, es⟩ | ⟨_, _, _, q⟩
    · cases es
      obtain ⟨T, u, u2, ev, hT, eH, n1, n2⟩ := y
      rw [← srcV_at F wa] at n1
      rw [← srcV_at F wb] at n2
      obtain ⟨r1, w1⟩ := src_nth R ep n1
      obtain ⟨r2, w2⟩ := src_nth R eq n2
      obtain ⟨R1, F1⟩ := R.new (o := .tup [p, q]) hT (by show (wf _ _ && (wf _ _ && true)) = true; rw [w1, w2]; rfl)
      have em : dO K ρ' (.tup [p, q]) = .tup [u, u2] := by rw [r1, r2]; rfl
      rw [em, ← eH] at R1 F1
      refine ⟨_, R1, F1, ?_⟩
      rw [ev]
      show V.ref T = V.ref _
      rw [← R.len]
      simp [List.getD_eq_getElem?_getD]
    · cases q
def srcD (S : List DO) : DV → Option SrcD
  | .ref n => (match S[n]? with
    | some (.lst _) => some (.lst n)
    | some (.tup _) => some (.tup n)
    | _ => none)
  | .str z => if z.cps.all (· < 128) = true then some (.txt z) else none
  | _ => none
theorem srcD_ok {ρ : List Addr} {S : List DO} {H : Hp} {v : DV} {s : SrcD} (R : Rep K ρ S H) (h : srcD S v = some s) : dV K ρ v = (srcV ρ s).val ∧ (∃ n, (srcV ρ s).len K H n) ∧ srcWf ρ.length s = true := by
  unfold srcD at h
  split at h
  · split at h
    · rename_i xs e
      cases h
      exact ⟨rfl, ⟨_, _, SqL.of (R.get e).1, rfl⟩, decide_eq_true (Fr.lt R e)⟩
    · rename_i xs e
      cases h
      exact ⟨rfl, ⟨_, _, SqT.of (R.get e).1, rfl⟩, decide_eq_true (Fr.lt R e)⟩
    · cases h
  · split at h
    · rename_i c
      cases h
      exact ⟨rfl, ⟨_, c, rfl⟩, rfl⟩
    · cases h
  · cases h
instance (ta : TA) [a : EvA K E ta] : EvI K E (iZipG K ta) where
  run := fun σ S => match a.run σ S with
    | some (.ret [x, y] S1) => (match srcD S1 x, srcD S1 y with
      | some p, some q => some (.inl (.zip p q, S1))
      | _, _ => none)
    | some (.exc C d S1) => some (.inr (.exc C d S1))
    | _ => none
  good := fun {σ S it S1} h w => by
    split at h
    · rename_i x y S2 h1
      split at h
      · cases h
        exact of_decide_eq_true (ba (a.good h1 w)).1
      · cases h
    · cases h
    · cases h
  ok := fun {σ S q ρ H Qj} h w R p => by
    split at h
    · rename_i x y S1 h1
      split at h
      · rename_i s1 s2 hx hy
        cases h
        refine a.ok h1 w R fun ρ1 H1 R1 F1 => ?_
        obtain ⟨e1, l1, w1⟩ := srcD_ok R1 hx
        obtain ⟨e2, l2, w2⟩ := srcD_ok R1 hy
        exact ⟨_, _, by rw [List.map_cons, List.map_cons, e1, e2]; rfl, l1, l2, p ρ1 H1 _ R1 F1 (zip_ok w1 w2)⟩
      · cases h
    · rename_i C d S1 h1
      cases h
      exact a.ok h1 w R p
    · cases h
end RunX
set_option maxHeartbeats 4000000
/-! sorted(xs), xs a list of tuples of ints and texts, all of one length, an int ahead, ranked by ints. -/
namespace SM
open PySem PySem.Spec PyProof.Rows L2
/-- k < m for tuples of one length; none where an int meets a text -/
def lexK : List Key → List Key → Option Bool
  | [], [] => some false
  | x :: xs, y :: ys => if x = y then lexK xs ys else match x, y with
    | .inl i, .inl j => some (decide (i < j))
    | .inr a, .inr b => some (decide (a.cps.toList < b.cps.toList))
    | _, _ => none
  | _, _ => none
section
variable {prog : Program} {w : World} {A : Around} {E : Value → Shared → Prop} {s : Shared} {Q : Bool → Shared → Prop}
theorem lex_keys {b : Bool} : ∀ (ks ms : List Key) (xs ys : List Value) (i : Nat) {r : Bool}, Vals (ks.map kV) xs → Vals (ms.map kV) ys → lexK ks ms = some r → (i = 0 → (∃ n q, ks = .inl n :: q) ∧ ∃ n q, ms = .inl n :: q) → Q r s → PySem.W.KatLex prog w A b false Q (xs.zip ys) i s
  | [], [], _, _, i, r, .nil, .nil, hr, _, h => by
    cases hr
    exact PySem.W.kat_nil h
  | [], _ :: _, _, _, _, _, _, _, hr, _, _ => by cases hr
  | _ :: _, [], _, _, _, _, _, _, hr, _, _ => by cases hr
  | x :: ks, y :: ms, _, _, i, r, .cons (b := u) (l₂ := us) rx hx, .cons (b := v) (l₂ := vs) ry hy, hr, h0, h => by
    show PySem.W.KatLex prog w A b false Q ((u, v) :: us.zip vs) i s
    unfold lexK at hr
    split at hr
    · rename_i e
      subst e
      refine PySem.W.kat_cons ?_
      cases x with
      | inl n =>
        obtain ⟨t, rfl⟩ := rx
        obtain ⟨t', rfl⟩ := ry
        refine wpAny_eqBool_int ?_
        rw [beq_self_eq_true]
        exact PySem.W.kat_yes (lex_keys ks ms us vs (i + 1) hx hy hr (fun z => nomatch z) h)
      | inr z =>
        obtain ⟨t, rfl⟩ := rx
        obtain ⟨t', rfl⟩ := ry
        refine wpAny_eqBool_str ?_
        rw [decide_eq_true rfl]
        exact PySem.W.kat_yes (lex_keys ks ms us vs (i + 1) hx hy hr (fun z => nomatch z) h)
    · rename_i ne
      refine PySem.W.kat_cons ?_
      split at hr
      · rename_i n m
        cases hr
        obtain ⟨t, rfl⟩ := rx
        obtain ⟨t', rfl⟩ := ry
        refine wpAny_eqBool_int ?_
        have ne' : n ≠ m := fun e => ne (by rw [e])
        rw [show (n == m) = false from beq_eq_false_iff_ne.mpr ne']
        exact PySem.W.kat_no (TS.oneLt_ints _ h)
      · rename_i z z'
        cases hr
        obtain ⟨t, rfl⟩ := rx
        obtain ⟨t', rfl⟩ := ry
        refine wpAny_eqBool_str ?_
        have ne' : z ≠ z' := fun e => ne (by rw [e])
        rw [decide_eq_false ne']
        have hi : (i == 0) = false := beq_eq_false_iff_ne.mpr fun e => by
          obtain ⟨⟨n, q, e1⟩, _⟩ := h0 e
          cases e1
        refine PySem.W.kat_no ?_
        rw [hi, Bool.and_false]
        exact PySem.W.kat_one _ _ (PyProof.Rows.lt_str (Q := PySem.W.BoolBack Q) h)
      · cases hr
/-- the value shows the tuple of the keys -/
def TupK (h : Heap) (v : Value) (ks : List Key) : Prop := ∃ a o xs n, v = .ref a ∧ h.get? a = some o ∧ o.cls = .type "tuple" ∧ o.data = .seq xs n ∧ Vals (ks.map kV) xs.toList
theorem TupK.keep {h h' : Heap} {v : Value} {ks : List Key} (t : TupK h v ks) (k : ∀ b o, h.get? b = some o → o.cls = .type "tuple" → h'.get? b = some o) : TupK h' v ks :=
  let ⟨a, o, xs, n, e, ho, hc, hd, r⟩ := t
  ⟨a, o, xs, n, e, k a o ho hc, hc, hd, r⟩
structure Rk (h : Heap) (vs : List Value) (f : Value → List Key) (r : Value → Int) : Prop where
  tup : ∀ v ∈ vs, TupK h v (f v) ∧ ∃ n q, f v = .inl n :: q
  lt : ∀ u ∈ vs, ∀ v ∈ vs, (f u).length = (f v).length ∧ lexK (f u) (f v) = some (decide (r u < r v))
theorem Rk.keep {h h' : Heap} {vs : List Value} {f : Value → List Key} {r : Value → Int} (x : Rk h vs f r) (k : ∀ b o, h.get? b = some o → o.cls = .type "tuple" → h'.get? b = some o) : Rk h' vs f r :=
  ⟨fun v hv => ⟨(x.tup v hv).1.keep k, (x.tup v hv).2⟩, x.lt⟩
theorem firsts {h : Heap} {f : Value → List Key} : ∀ vs : List Value, (∀ v ∈ vs, TupK h v (f v) ∧ ∃ n q, f v = .inl n :: q) → ∃ fs, PySem.W.KatTups h vs fs ∧ fs.length = vs.length ∧ ∀ z, z ∈ fs → ∃ n t, z = Value.int n t
  | [], _ => ⟨[], PySem.W.KatTups.nil, rfl, fun z hz => by simp at hz⟩
  | v :: vs, x => by
    obtain ⟨fs, k, hl, hi⟩ := firsts vs fun u hu => x u (List.mem_cons_of_mem _ hu)
    obtain ⟨⟨a, o, xs, n, rfl, ho, hc, hd, rv⟩, m, q, e⟩ := x v List.mem_cons_self
    rw [e] at rv
    cases hx : xs.toList with
    | nil => rw [hx] at rv; cases rv
    | cons y ys =>
      rw [hx] at rv
      cases rv with
      | cons ry _ =>
        obtain ⟨t, rfl⟩ := ry
        have e0 : xs[0]? = some (.int m t) := by
          have z := congrArg (fun l : List Value => l[0]?) hx
          simpa using z
        refine ⟨.int m t :: fs, PySem.W.KatTups.cons ho hc hd e0 k, by simp [hl], fun z hz => ?_⟩
        rcases List.mem_cons.mp hz with rfl | hz
        · exact ⟨m, t, rfl⟩
        · exact hi z hz
theorem kind_mix {vs : List Value} {f : Value → List Key} {r : Value → Int} (h2 : 2 ≤ vs.length) (x : Rk s.heap vs f r) (Q : SortKind → Shared → Prop) (h : ∀ κ, TS.Cmp prog w A s κ (pairsOf vs) r → Q κ s) : wpAny (model prog w) A (keyKind' vs.toArray) Q E s := by
  obtain ⟨fs, k, hl, hi⟩ := firsts vs x.tup
  refine PySem.W.kat_kind (T := Value.type "int") k (by omega) (fun z hz => ?_) rfl (h _ ?_)
  · obtain ⟨n, t, rfl⟩ := hi z hz
    exact PySem.W.Looks.of_pure rfl
  · intro p q hp hq Q' E' hQ
    rw [pairsOf_toList] at hp hq
    have mp := (mem_zip_self hp).2
    have mq := (mem_zip_self hq).2
    obtain ⟨hlen, hlex⟩ := x.lt _ mp _ mq
    obtain ⟨⟨a, o, xs, n, e1, ho, _, hd, rv⟩, i1⟩ := x.tup _ mp
    obtain ⟨⟨a', o', ys, n', e2, ho', _, hd', rv'⟩, i2⟩ := x.tup _ mq
    have key := lex_keys (prog := prog) (w := w) (A := A) (s := s) (Q := Q') (b := true) _ _ _ _ 0 rv rv' hlex (fun _ => ⟨i1, i2⟩) hQ
    have sz : decide (xs.size < ys.size) = false := by
      have l1 := rv.length
      have l2 := rv'.length
      rw [List.length_map] at l1 l2
      have e1 : xs.toList.length = xs.size := Array.length_toList
      have e2 : ys.toList.length = ys.size := Array.length_toList
      rw [e1] at l1
      rw [e2] at l2
      have z : (f p.1).length = (f q.1).length := hlen
      rw [l1, l2] at z
      exact decide_eq_false (by rw [z]; exact Nat.lt_irrefl _)
    rw [e1, e2]
    refine PySem.W.kat_lt ho hd ho' hd' ?_
    rw [sz]
    exact key
/-- list.sort of them -/
theorem sort_mix {a : Addr} {vs : List Value} {n : Nat} {f : Value → List Key} {r : Value → Int} {P : PySem.Fin → Shared → Prop} (ho : s.heap.get? a = some (seqObj "list" vs.toArray n)) (h64 : vs.length < 64) (x : Rk s.heap vs f r)
    (h : ∀ out : Array Value, out.toList.Perm vs → out.toList.Pairwise (fun u v => r u ≤ r v) → P (.done (.ret .none)) { s with heap := sortedHeap s.heap a vs out }) : wpAny (model prog w) A (Builtin.«list.sort» ⟨[.ref a], []⟩) P E s := by
  have keep : ∀ b o, s.heap.get? b = some o → o.cls = .type "tuple" → (TS.midHeap s.heap a vs).get? b = some o := fun b o e hc => TS.midHeap_old (fun z => by
    rw [z, ho] at e
    have c' : Value.type "list" = Value.type "tuple" := by rw [← Option.some.inj e] at hc; exact hc
    injection c' with c''
    exact absurd c'' (by decide)) e
  refine SK.plain_sort (r := r) ho h64 (fun h2 Q hQ => kind_mix (s := { s with heap := TS.midHeap s.heap a vs }) h2 (x.keep keep) Q hQ) fun ps out h1 h2 h3 => ?_
  obtain ⟨p, o⟩ := TS.out_rank h1 h2 h3
  exact h out p o
/-- sorted(xs) -/
theorem sorted_mix {l : Addr} {vs : List Value} {f : Value → List Key} {r : Value → Int} {Q : Value → Shared → Prop} (hl : s.heap.IsList l vs.toArray) (h64 : vs.length < 64) (x : Rk s.heap vs f r)
    (h : ∀ out : Array Value, out.toList.Perm vs → out.toList.Pairwise (fun u v => r u ≤ r v) → Q (.ref (s.heap.objs.size + 1)) { s with heap := sortedAll s.heap vs out }) : wpAny (model prog w) A (call (.builtin "sorted") [.ref l]) Q E s := by
  have sl := sizeLine_eq
  refine Calls.call_function_entry kind_sorted plain_sorted entry_sorted (args_sorted1 _) ?_
  unfold Builtin.«sorted»
  refine wpAny_bind (m := checkCount "sorted" 1 1 _) (wpAny_pure (wpAny_bind (collect_list hl ?_ (by rw [sl]; omega))))
  refine wpAny_bind (wpAny_newList ?_ (by rw [sl]; omega))
  generalize eH : (s.heap.push (seqObj "list" #[] 0)).update s.heap.objs.size (Obj.mapSeq (· ++ vs.toArray)) = H1
  have z1 : H1.objs.size = s.heap.objs.size + 1 := by rw [← eH, Heap.size_update, size_push']
  have g1 : (H1.push (seqObj "list" vs.toArray 0)).get? (s.heap.objs.size + 1) = some (seqObj "list" vs.toArray 0) := by rw [← z1]; exact Heap.get?_push_size _ rfl
  have keep : ∀ b o, s.heap.get? b = some o → o.cls = .type "tuple" → (H1.push (seqObj "list" vs.toArray 0)).get? b = some o := fun b o e _ => by
    have lt : b < s.heap.objs.size := Heap.lt_size e
    rw [Heap.get?_push_ne _ _ _ (by rw [z1]; exact Nat.ne_of_lt (Nat.lt_succ_of_lt lt)), ← eH, Heap.get?_update_ne _ _ _ _ (Nat.ne_of_lt lt), Heap.get?_push_ne _ _ _ (Nat.ne_of_lt lt)]
    exact e
  show wpAny _ _ _ _ _ { s with heap := H1.push (seqObj "list" vs.toArray 0) }
  rw [z1]
  refine wpAny_bind (wpAny_holding (wpAny_call_entry slot_list_sort ⟨_, g1, rfl⟩ entry_list_sort (sort_mix g1 h64 (x.keep keep) fun out a1 a2 => ⟨_, rfl, wpAny_pure ⟨_, rfl, ?_⟩⟩) (args_list_sort _)))
  have z := h out a1 a2
  unfold sortedAll at z
  rw [eH] at z
  exact z
end
/-- sorted(xs): rk ranks the keys' tuples -/
def rSortM (K : PySem.W.Frag) : List V → Hp → VK → Prop := fun vs H Q => ∃ (a : Addr) (L : List (Addr × List Key)) (rk : List Key → Int), vs = [V.ref a] ∧ SqL K H a (L.map fun p => .ref p.1) ∧ L.length < 64 ∧ (∀ p ∈ L, SqT K H p.1 (p.2.map kV) ∧ ∃ n q, p.2 = .inl n :: q) ∧
  (∀ p ∈ L, ∀ q ∈ L, p.2.length = q.2.length ∧ lexK p.2 q.2 = some (decide (rk p.2 < rk q.2))) ∧ ∀ (M : List (Addr × List Key)) (p : Addr), M.Perm L → M.Pairwise (fun p q => rk p.2 ≤ rk q.2) → H p = none → Q (.ref p) (upd H p (.lst (M.map fun p => .ref p.1)))
theorem kV_inj : ∀ {ks ms : List Key}, ks.map kV = ms.map kV → ks = ms
  | [], [], _ => rfl
  | [], _ :: _, h => by cases h
  | _ :: _, [], h => by cases h
  | x :: ks, y :: ms, h => by
    rw [List.map_cons, List.map_cons] at h
    obtain ⟨h1, h2⟩ := List.cons.inj h
    rw [kV_inj h2]
    have e : x = y := by
      cases x <;> cases y <;> first | (cases h1; rfl) | cases h1
    rw [e]
def keysAt (L : List (Addr × List Key)) (v : Value) : List Key := match v with
  | .ref a => ((L.find? fun p => decide (p.1 = a)).map (·.2)).getD []
  | _ => []
theorem keysAt_eq {L : List (Addr × List Key)} (one : ∀ p ∈ L, ∀ q ∈ L, p.1 = q.1 → p.2 = q.2) {p : Addr × List Key} (h : p ∈ L) : keysAt L (.ref p.1) = p.2 := by
  show ((L.find? fun q => decide (q.1 = p.1)).map (·.2)).getD [] = p.2
  cases e : L.find? fun q => decide (q.1 = p.1) with
  | none => exact absurd (List.find?_eq_none.mp e p h) (by simp)
  | some q =>
    have h1 : q.1 = p.1 := by simpa using List.find?_some e
    exact one q (List.mem_of_find?_eq_some e) p h h1
theorem refs_vals : ∀ {L : List (Addr × List Key)} {us : List Value}, Vals (L.map fun p => V.ref p.1) us → us = L.map fun p => Value.ref p.1
  | [], _, .nil => rfl
  | p :: L, _, .cons r rr => by
    cases r
    rw [refs_vals rr]
    rfl
theorem vals_refs : ∀ (L : List (Addr × List Key)), Vals (L.map fun p => V.ref p.1) (L.map fun p => Value.ref p.1)
  | [] => .nil
  | p :: L => .cons rfl (vals_refs L)
theorem cr_sortM {X : Cx} : CallR X (.builtin "sorted") (rSortM X.K) := by
  intro pins s σ H vs us Q I r h
  obtain ⟨a, L, rk, rfl, hs, h64, ht, hr, q⟩ := h
  obtain ⟨its, rv, hl, hz⟩ := I.list hs
  rw [Vals.ref1 r]
  have ei := refs_vals rv
  subst ei
  have one : ∀ p ∈ L, ∀ q ∈ L, p.1 = q.1 → p.2 = q.2 := fun p hp q hq e => by
    have t1 := (ht p hp).1
    have t2 := (ht q hq).1
    rw [e] at t1
    exact kV_inj (I.tuple_inj t1 t2)
  have x : Rk s.heap (L.map fun p => Value.ref p.1) (keysAt L) fun v => rk (keysAt L v) := by
    refine ⟨fun v hv => ?_, fun u hu v hv => ?_⟩
    · obtain ⟨p, hp, rfl⟩ := List.mem_map.mp hv
      rw [keysAt_eq one hp]
      obtain ⟨its, rv, ⟨o, ho, hc, n, hd⟩, _⟩ := I.tuple (ht p hp).1
      exact ⟨⟨p.1, o, its.toArray, n, rfl, ho, hc, hd, by simpa using rv⟩, (ht p hp).2⟩
    · obtain ⟨p, hp, rfl⟩ := List.mem_map.mp hu
      obtain ⟨p', hp', rfl⟩ := List.mem_map.mp hv
      rw [keysAt_eq one hp, keysAt_eq one hp']
      exact hr p hp p' hp'
  refine sorted_mix hl.isList (by rw [List.length_map]; exact h64) x fun out h1 h2 => ?_
  obtain ⟨M, pm, em⟩ := perm_lift (fun p : Addr × List Key => Value.ref p.1) h1 L rfl
  obtain ⟨ep, he'⟩ := PyProof.Rows.sortedAll_at s.heap (L.map fun p => Value.ref p.1) out
  have hM : M.Pairwise fun p q => rk p.2 ≤ rk q.2 := by
    rw [← em, List.pairwise_map] at h2
    refine List.Pairwise.imp_of_mem (fun {p p'} hp hp' z => ?_) h2
    have z' : rk (keysAt L (.ref p.1)) ≤ rk (keysAt L (.ref p'.1)) := z
    rwa [keysAt_eq one (pm.mem_iff.mp hp), keysAt_eq one (pm.mem_iff.mp hp')] at z'
  have hlen : (M.map fun p => V.ref p.1).length ≤ sizeLine := by
    rw [List.length_map, pm.length_eq]
    have z := hz
    rwa [List.length_map] at z
  have hv : Vals (M.map fun p => V.ref p.1) out.toList := by
    rw [← em]
    exact vals_refs M
  exact ⟨.ref _, upd H (s.heap.objs.size + 1) (.lst (M.map fun p => V.ref p.1)), I.laid (t' := s.toks) (fun _ _ => PyProof.Rows.sortedAll_old) (Nat.le_succ _) ⟨hlen, out.toList, ep, hv, he'⟩, rfl, q M _ pm hM (I.hok.fresh (Nat.le_succ _))⟩
end SM
set_option maxHeartbeats 4000000
/-! sorted(xs) of tuples -/
namespace RunX
open PySem PySem.Spec PyProof.Rows L2 He PO SM
variable [Drw] [Cbv]
variable {K : PySem.W.Frag} {E : XK}
section
variable {α : Type} (f : α → Int)
def insF (x : α) : List α → List α
  | [] => [x]
  | y :: r => if f x ≤ f y then x :: y :: r else y :: insF x r
def sortF : List α → List α
  | [] => []
  | x :: r => insF f x (sortF r)
variable {f}
theorem insF_perm {x : α} : ∀ {l : List α}, (insF f x l).Perm (x :: l)
  | [] => .refl _
  | y :: r => by
    unfold insF
    split
    · exact .refl _
    · exact ((insF_perm (l := r)).cons y).trans (.swap x y r)
theorem sortF_perm : ∀ {l : List α}, (sortF f l).Perm l
  | [] => .refl _
  | x :: r => insF_perm.trans ((sortF_perm (l := r)).cons x)
theorem insF_sorted {x : α} : ∀ {l : List α}, l.Pairwise (fun a b => f a ≤ f b) → (insF f x l).Pairwise (fun a b => f a ≤ f b)
  | [], _ => List.pairwise_singleton _ _
  | y :: r, h => by
    obtain ⟨h1, h2⟩ := List.pairwise_cons.mp h
    unfold insF
    split
    · rename_i c
      exact List.pairwise_cons.mpr ⟨fun z hz => by
        rcases List.mem_cons.mp hz with q | q
        · rw [q]; exact c
        · exact Int.le_trans c (h1 z q), h⟩
    · rename_i c
      exact List.pairwise_cons.mpr ⟨fun z hz => by
        rcases List.mem_cons.mp (insF_perm.mem_iff.mp hz) with q | q
        · rw [q]; omega
        · exact h1 z q, insF_sorted h2⟩
theorem sortF_sorted : ∀ {l : List α}, (sortF f l).Pairwise (fun a b => f a ≤ f b)
  | [] => .nil
  | x :: r => insF_sorted sortF_sorted
theorem nodup_inj {l : List α} (h : (l.map f).Nodup) {a b : α} (ha : a ∈ l) (hb : b ∈ l) (e : f a = f b) : a = b := by
  induction l with
  | nil => cases ha
  | cons x r ih =>
    obtain ⟨h1, h2⟩ := List.nodup_cons.mp (show (f x :: r.map f).Nodup from h)
    rcases List.mem_cons.mp ha with p | p
    · rcases List.mem_cons.mp hb with q | q
      · rw [p, q]
      · subst p
        exact absurd (List.mem_map.mpr ⟨b, q, e.symm⟩) h1
    · rcases List.mem_cons.mp hb with q | q
      · subst q
        exact absurd (List.mem_map.mpr ⟨a, p, e⟩) h1
      · exact ih h2 p q
theorem sorted_oneF : ∀ {l m : List α}, l.Perm m → l.Pairwise (fun a b => f a ≤ f b) → m.Pairwise (fun a b => f a ≤ f b) → (l.map f).Nodup → l = m
  | [], m, p, _, _, _ => (List.nil_perm.mp p).symm
  | a :: l, [], p, _, _, _ => by have := p.length_eq; simp at this
  | a :: l, b :: m, p, h, g, n => by
    obtain ⟨h1, h2⟩ := List.pairwise_cons.mp h
    obtain ⟨g1, g2⟩ := List.pairwise_cons.mp g
    have mb : b ∈ a :: l := p.mem_iff.mpr List.mem_cons_self
    have e : a = b := by
      rcases List.mem_cons.mp (p.mem_iff.mp List.mem_cons_self) with q | q
      · exact q
      · rcases List.mem_cons.mp mb with z | z
        · exact z.symm
        · exact nodup_inj n List.mem_cons_self mb (Int.le_antisymm (h1 b z) (g1 a q))
    subst e
    rw [sorted_oneF (List.perm_cons a |>.mp p) h2 g2 (List.nodup_cons.mp (show (f a :: l.map f).Nodup from n)).2]
end
def keyedD (S : List DO) : List DV → Option (List (Nat × List Key))
  | [] => some []
  | .ref n :: r => match S[n]?, keyedD S r with
    | some (.tup xs), some L => (keysD xs).map fun k => (n, k) :: L
    | _, _ => none
  | _ => none
theorem keyedD_ok {ρ : List Addr} {S : List DO} {H : Hp} (R : Rep K ρ S H) : ∀ {xs : List DV} {L : List (Nat × List Key)}, keyedD S xs = some L → xs = L.map (fun p => .ref p.1) ∧ ∀ p ∈ L, SqT K H (ρ.getD p.1 0) (p.2.map kV)
  | [], _, h => by
    cases h
    exact ⟨rfl, fun p hp => by cases hp⟩
  | .ref n :: r, L, h => by
    have h' : (match S[n]?, keyedD S r with
      | some (.tup xs), some L => (keysD xs).map fun k => (n, k) :: L
      | _, _ => none) = some L := h
    split at h'
    · rename_i xs L' e1 e2
      obtain ⟨k, hk, rfl⟩ := Option.map_eq_some_iff.mp h'
      obtain ⟨i1, i2⟩ := keyedD_ok R e2
      refine ⟨by rw [i1]; rfl, fun p hp => ?_⟩
      rcases List.mem_cons.mp hp with q | q
      · rw [q]
        have g := SqT.of (K := K) (R.get e1).1
        rw [keysD_ok hk] at g
        exact g
      · exact i2 p q
    · cases h'
def rankD (L : List (Nat × List Key)) (k : List Key) : Int := ((L.filter fun p => decide (lexK p.2 k = some true)).length : Nat)
def intHead : List Key → Bool
  | .inl _ :: _ => true
  | _ => false
theorem intHead_ok {k : List Key} (h : intHead k = true) : ∃ n q, k = .inl n :: q := by
  match k, h with
  | .inl n :: q, _ => exact ⟨n, q, rfl⟩
def rankOk (L : List (Nat × List Key)) : Bool :=
  decide (L.length < 64) && L.all (fun p => intHead p.2) && L.all (fun p => L.all fun q => decide (p.2.length = q.2.length) && decide (lexK p.2 q.2 = some (decide (rankD L p.2 < rankD L q.2)))) && decide ((L.map fun p => rankD L p.2).Nodup)
instance : EvB K (rSortM K) where
  run := fun ds S => match ds with
    | [x] => (match (lstD S x).bind (keyedD S) with
      | some L => if rankOk L = true ∧ wfO S.length (.lst ((sortF (fun p : Nat × List Key => rankD L p.2) L).map fun p => DV.ref p.1)) = true then alloc S (.lst ((sortF (fun p : Nat × List Key => rankD L p.2) L).map fun p => .ref p.1)) else none
      | none => none)
    | _ => none
  good := fun {ds S q} h w => by
    split at h
    · split at h
      · split at h
        · exact alloc_good h
        · cases h
      · cases h
    · cases h
  ok := fun {ds S q ρ H Q E} h w R p => by
    split at h
    · split at h
      · rename_i L hb
        split at h
        · rename_i c
          obtain ⟨xs, h1, h2⟩ := Option.bind_eq_some_iff.mp hb
          obtain ⟨n, rfl, e, g, _⟩ := lstD_ok R h1
          obtain ⟨ex, ht⟩ := keyedD_ok R h2
          obtain ⟨c1, cw⟩ := c
          obtain ⟨c1, c4⟩ := ba c1
          obtain ⟨c1, c3⟩ := ba c1
          obtain ⟨c1, c2⟩ := ba c1
          have em : xs.map (dV K ρ) = (L.map fun p => (ρ.getD p.1 0, p.2)).map fun p => V.ref p.1 := by
            rw [ex, List.map_map, List.map_map]
            rfl
          rw [em] at g
          refine ⟨_, L.map fun p => (ρ.getD p.1 0, p.2), rankD L, rfl, SqL.of g, by rw [List.length_map]; exact of_decide_eq_true c1, fun q hq => ?_, fun q hq q' hq' => ?_, fun M a pm so ha => ?_⟩
          · obtain ⟨z, hz, rfl⟩ := List.mem_map.mp hq
            refine ⟨ht z hz, ?_⟩
            have i := List.all_eq_true.mp c2 z hz
            exact intHead_ok i
          · obtain ⟨z, hz, rfl⟩ := List.mem_map.mp hq
            obtain ⟨z', hz', rfl⟩ := List.mem_map.mp hq'
            obtain ⟨d1, d2⟩ := ba (List.all_eq_true.mp (List.all_eq_true.mp c3 z hz) z' hz')
            exact ⟨of_decide_eq_true d1, of_decide_eq_true d2⟩
          · have es : M = (sortF (fun p : Nat × List Key => rankD L p.2) L).map fun p => (ρ.getD p.1 0, p.2) := by
              have pm2 : M.Perm ((sortF (fun p : Nat × List Key => rankD L p.2) L).map fun p => (ρ.getD p.1 0, p.2)) := pm.trans (sortF_perm.map _).symm
              refine sorted_oneF (f := fun p : Addr × List Key => rankD L p.2) pm2 so ?_ ?_
              · rw [List.pairwise_map]
                exact sortF_sorted
              · have z := (pm.map (fun p : Addr × List Key => rankD L p.2)).nodup_iff.mpr
                apply z
                rw [List.map_map]
                exact of_decide_eq_true c4
            rw [es]
            have z := alloc_post (E := E) h cw R p ha
            have eo : dO K ρ (.lst ((sortF (fun p : Nat × List Key => rankD L p.2) L).map fun p => DV.ref p.1)) = .lst (((sortF (fun p : Nat × List Key => rankD L p.2) L).map fun p => (ρ.getD p.1 0, p.2)).map fun p => V.ref p.1) := by
              simp only [dO, List.map_map]
              rfl
            rw [eo] at z
            exact z
        · cases h
      · cases h
    · cases h
end RunX
set_option maxHeartbeats 4000000
/-! len(set(t)), t a tuple of at most four different tuples of ints and texts. -/
namespace SX
open PySem PySem.Spec PyProof.Rows L2
abbrev mh (P : Program) (w : World) (k : List Key) : Int := tupleKeyHash (mixKind P w) k
abbrev IsM (P : Program) (w : World) (h : Heap) (k : List Key) (a : Addr) : Prop := IsTupleKey (mixKind P w) h k a
section
variable {P : Program} {w : World} {A : Around} {E : Value → Shared → Prop} {s : Shared}
theorem item_key {k : Key} {v : Value} (h : (mixKind P w).is k v = true) : (∃ i t, v = .int i t) ∨ ∃ x t, v = .str x t := by
  cases k with
  | inl i => obtain ⟨t, e⟩ := Value.isInt_shape h; exact .inl ⟨i, t, e⟩
  | inr x =>
    cases v <;> first | exact .inr ⟨_, _, rfl⟩ | cases h
theorem items_key {k : List Key} {vs : List Value} (h : ItemsAre (mixKind P w) k vs) : ∀ v ∈ vs, (∃ i t, v = Value.int i t) ∨ ∃ x t, v = Value.str x t := by
  induction h with
  | nil =>
    intro v hv
    cases hv
  | cons h1 _ ih =>
    intro v hv
    rcases List.mem_cons.mp hv with e | q
    · rw [e]; exact item_key h1
    · exact ih v q
theorem noClass {v : Value} (n : Nat) (h : (∃ i t, v = Value.int i t) ∨ ∃ x t, v = Value.str x t) : ofAClassStatement n v = pure false := by
  rcases h with ⟨i, t, rfl⟩ | ⟨x, t, rfl⟩ <;> cases n <;> rfl
theorem byVal {v : Value} (n : Nat) (h : (∃ i t, v = Value.int i t) ∨ ∃ x t, v = Value.str x t) : ∃ b, hashByValue n v = pure b := by
  rcases h with ⟨i, t, rfl⟩ | ⟨x, t, rfl⟩
  · exact ⟨true, by cases n <;> rfl⟩
  · exact ⟨false, by cases n <;> rfl⟩
theorem noClassT {k : List Key} {b : Addr} {Q : Bool → Shared → Prop} (hk : IsM P w s.heap k b) (q : Q false s) : wpAny (model P w) A (ofAClassStatement 8 (.ref b)) Q E s := by
  have hT := hk.typeIs
  obtain ⟨o, items, n, ho, _, hd, hi⟩ := hk
  unfold ofAClassStatement
  refine wpAny_bind (wpAny_typeOf hT ?_)
  dsimp only
  simp only [show (("tuple" : String) == "tuple") = true by decide, if_true, Bool.not_true, Bool.false_eq_true, if_false]
  show wpAny _ _ (seqItems? (.ref b) >>= _) _ _ s
  refine wpAny_bind (wpAny_seqItems ho hd (wpAny_bind ?_))
  show wpAny _ _ (forIn items _ _) _ _ s
  rw [← Array.forIn_toList]
  refine wpAny_forIn_list _ (fun rest r s' => r.1 = none ∧ s' = s ∧ ∀ v ∈ rest, (∃ i t, v = Value.int i t) ∨ ∃ x t, v = Value.str x t) _ ?_ ?_ _ _ ⟨rfl, rfl, items_key hi⟩
  · rintro v rest r s' ⟨hr, rfl, all⟩
    rw [noClass _ (all v List.mem_cons_self)]
    refine wpAny_bind (wpAny_pure ?_)
    simp only [Bool.false_eq_true, if_false]
    exact wpAny_pure ⟨rfl, rfl, fun u hu => all u (List.mem_cons_of_mem _ hu)⟩
  · rintro ⟨r1, r2⟩ s' ⟨hr, rfl, _⟩
    simp only at hr
    subst hr
    exact wpAny_pure q
theorem byValT {k : List Key} {b : Addr} {Q : Bool → Shared → Prop} (hk : IsM P w s.heap k b) (q : ∀ c, Q c s) : wpAny (model P w) A (hashByValue 8 (.ref b)) Q E s := by
  have hT := hk.typeIs
  obtain ⟨o, items, n, ho, _, hd, hi⟩ := hk
  unfold hashByValue
  refine wpAny_bind (wpAny_specialOf hT F.slot_tuple_hash.lookup ?_)
  show wpAny _ _ (seqItems? (.ref b) >>= _) _ _ s
  refine wpAny_bind (wpAny_seqItems ho hd (wpAny_bind ?_))
  show wpAny _ _ (forIn items _ _) _ _ s
  rw [← Array.forIn_toList]
  refine wpAny_forIn_list _ (fun rest r s' => r.1 = none ∧ s' = s ∧ ∀ v ∈ rest, (∃ i t, v = Value.int i t) ∨ ∃ x t, v = Value.str x t) _ ?_ ?_ _ _ ⟨rfl, rfl, items_key hi⟩
  · rintro v rest r s' ⟨hr, rfl, all⟩
    obtain ⟨c, ec⟩ := byVal 7 (all v List.mem_cons_self)
    rw [ec]
    refine wpAny_bind (wpAny_pure ?_)
    cases c with
    | true =>
      simp only [Bool.not_true, Bool.false_eq_true, if_false]
      exact wpAny_pure ⟨rfl, rfl, fun u hu => all u (List.mem_cons_of_mem _ hu)⟩
    | false =>
      simp only [Bool.not_false, if_true]
      first
        | exact wpAny_pure (q false)
        | exact wpAny_pure (wpAny_pure (q false))
        | exact wpAny_bind (wpAny_pure (wpAny_pure (q false)))
  · rintro ⟨r1, r2⟩ s' ⟨hr, rfl, _⟩
    simp only at hr
    subst hr
    exact wpAny_pure (q true)
theorem seenT {k : List Key} {b : Addr} {Q : Bool → Shared → Prop} (hk : IsM P w s.heap k b) {ys : List Value} (hy : ∀ y ∈ ys, ∃ k' c, y = Value.ref c ∧ IsM P w s.heap k' c) (q : Q false s) : wpAny (model P w) A (searchCouldBeSeen (.ref b) ys) Q E s := by
  unfold searchCouldBeSeen
  refine wpAny_bind (wpAny_forIn_list _ (fun rest r s' => r.1 = none ∧ s' = s ∧ ∀ y ∈ rest, ∃ k' c, y = Value.ref c ∧ IsM P w s.heap k' c) _ ?_ ?_ _ _ ⟨rfl, rfl, hy⟩)
  · rintro v rest r s' ⟨hr, rfl, all⟩
    obtain ⟨k', c, rfl, hc⟩ := all v List.mem_cons_self
    have tail : ∀ y ∈ rest, ∃ k' c, y = Value.ref c ∧ IsM P w s'.heap k' c := fun u hu => all u (List.mem_cons_of_mem _ hu)
    dsimp only
    by_cases hv : (b == c || (carriedByValue (.ref b) && carriedByValue (.ref c))) = true
    · exact wp_if_pos hv (wpAny_pure ⟨rfl, rfl, tail⟩)
    · refine wp_if_neg hv (wpAny_bind (wpAny_eqIsQuiet_tuple hk ?_))
      simp only [Bool.not_true, Bool.false_eq_true, if_false]
      refine wpAny_bind (wpAny_eqIsQuiet_tuple hc ?_)
      simp only [Bool.not_true, Bool.false_eq_true, if_false]
      refine wpAny_bind (noClassT hk ?_)
      simp only [Bool.false_eq_true, if_false]
      refine wpAny_bind (noClassT hc ?_)
      simp only [Bool.false_eq_true, if_false]
      exact wpAny_pure ⟨rfl, rfl, tail⟩
  · rintro ⟨r1, r2⟩ s' ⟨hr, rfl, _⟩
    simp only at hr
    subst hr
    exact wpAny_pure q
/-! ### the set that grows -/
def rows (P : Program) (w : World) (L : List (Addr × List Key)) : List (Int × Value) := L.map fun p => (mh P w p.2, Value.ref p.1)
structure Got (P : Program) (w : World) (h : Heap) (a : Addr) (L : List (Addr × List Key)) (es : Array (Int × Value)) (ep : Nat) (t : SetTable) : Prop where
  ob : ∃ o, h.get? a = some o ∧ o.ExactSet ∧ o.data = .set es ep t
  rw_ : es.toList = rows P w L
  tab : TabOk t (L.map fun p => mh P w p.2)
  tup : ∀ p ∈ L, IsM P w h p.2 p.1
  m7 : t.mask = 7
  few : L.length ≤ 4
variable {a : Addr} {L : List (Addr × List Key)} {es : Array (Int × Value)} {ep : Nat} {t : SetTable}
theorem Got.size (G : Got P w s.heap a L es ep t) : es.size = L.length := by
  have h := congrArg List.length G.rw_
  unfold rows at h
  rwa [Array.length_toList, List.length_map] at h
theorem Got.fits (G : Got P w s.heap a L es ep t) : t.fits es.size = true := by
  have h1 := G.tab.sz
  rw [List.length_map] at h1
  have h2 := G.size
  have h3 := G.few
  have h4 := G.m7
  unfold SetTable.fits SetTable.fill
  rw [G.tab.dm, Bool.and_eq_true, beq_iff_eq, decide_eq_true_eq]
  show t.place.size = es.size ∧ t.place.size + 0 ≤ t.mask
  omega
theorem Got.entry (G : Got P w s.heap a L es ep t) {i : Nat} {p : Addr × List Key} (h : L[i]? = some p) : es[i]? = some (mh P w p.2, Value.ref p.1) := by
  rw [← Array.getElem?_toList, G.rw_]
  unfold rows
  rw [List.getElem?_map, h]
  rfl
theorem Got.gw (G : Got P w s.heap a L es ep t) : ¬ t.gaveWay = true := by
  unfold SetTable.gaveWay
  rw [mask_odd G.tab.mok]
  decide
/-- the probe's k-th stand -/
abbrev std (t : SetTable) (hh : Int) (c : Nat) : SetTable.Probe := nth t.mask (runAt t.mask (SetTable.bits hh % (t.mask + 1)) (SetTable.bits hh)) c
/-- nothing like it is there: the search ends at the first empty slot -/
theorem seek (G : Got P w s.heap a L es ep t) {x : Addr} {k : List Key} (hx : IsM P w s.heap k x) (new : ∀ p ∈ L, p.2 ≠ k) (hu : A.units < cLine) {n : Nat} (hn : n < 10 * SetTable.turns t.mask)
    (fr : way t.mask (mh P w k) n ∉ t.place.toList) (bs : ∀ c, c < n → way t.mask (mh P w k) c ∈ t.place.toList) {Q : SetFound → Shared → Prop} (go : Q (.free (way t.mask (mh P w k) n) false) s) :
    ∀ (f c : Nat) (st : Option SetTable.Probe), st.getD (t.probeStart (mh P w k)) = std t (mh P w k) c → c ≤ n → n - c < f → wpAny (model P w) A (setSearchFrom a (.ref x) (mh P w k) true f st) Q E s
  | 0, c, st, _, _, hf => absurd hf (Nat.not_lt_zero _)
  | f + 1, c, st, hst, hc, hf => by
    obtain ⟨o, ho, hex, hd⟩ := G.ob
    rw [setSearchFrom_succ]
    refine wpAny_bind (wpAny_setState_of ho hd G.fits ?_)
    dsimp only
    refine wp_if_neg G.gw ?_
    have dn : ∀ (m : Nat) (p : SetTable.Probe), p.dummy = none → (nth t.mask p m).dummy = none := by
      intro m
      induction m with
      | zero => exact fun p h => h
      | succ m ih =>
        intro p h
        refine ih (adv t.mask p) ?_
        unfold adv
        split <;> exact h
    have sh : ∀ q, nth t.mask (std t (mh P w k) c) q = std t (mh P w k) (c + q) := fun q => (nth_add t.mask c _ q).symm
    have ej : ∀ q, (nth t.mask (std t (mh P w k) c) q).j = way t.mask (mh P w k) (c + q) := fun q => congrArg SetTable.Probe.j (sh q)
    have ec : c + (n - c) = n := by omega
    have spec := go_spec t G.tab.ris G.tab.dm (fun i => (es[i]?.map (·.1)).getD 0) (mh P w k) (10 * SetTable.turns t.mask) (n - c) _ (dn c _ rfl) (by omega) (fun q hq => by rw [ej]; exact bs (c + q) (by omega)) (by rw [ej, ec]; exact fr)
    rcases spec with ⟨q, i, hq, hi, hh, _, hpr⟩ | ⟨_, hpr⟩
    · have hp' : t.probe (fun i => (es[i]?.map (·.1)).getD 0) (mh P w k) (st.getD (t.probeStart (mh P w k))) = some (.candidate (way t.mask (mh P w k) (c + q)) i (std t (mh P w k) (c + (q + 1)))) := by
        rw [hst, ← ej, ← sh]
        exact hpr
      rw [hp']
      dsimp only
      rw [ej] at hi
      have hil : i < L.length := by
        have h1 : i < t.place.toList.length := (List.getElem?_eq_some_iff.mp hi).1
        have h2 := G.tab.sz
        rw [List.length_map] at h2
        rw [Array.length_toList] at h1
        omega
      have mem : L[i] ∈ L := List.getElem_mem hil
      have hp := List.getElem?_eq_getElem hil
      generalize L[i] = p at mem hp
      have ne := new p mem
      have rest : wpAny (model P w) A (searchRest a (.ref x) (mh P w k) true f es t (way t.mask (mh P w k) (c + q)) i (std t (mh P w k) (c + (q + 1)))) Q E s := by
        unfold searchRest
        rw [G.entry hp]
        dsimp only
        refine wpAny_bind (wpAny_holding (wpAny_eqBool_tuple hu (G.tup p mem) hx (wpAny_bind (wpAny_setState_of ho hd G.fits ?_))))
        dsimp only
        refine wp_if_neg (by simp [ne]) ?_
        rw [sameMem]
        dsimp only
        simp only [if_true, slot_live G.tab.ris hi, G.entry hp]
        refine wpAny_bind (wpAny_isSame_ref_self (wpAny_bind (wpAny_pure ?_)))
        simp only [if_true]
        exact wp_if_neg (by simp [ne]) (seek G hx new hu hn fr bs go f (c + (q + 1)) _ rfl (by omega) (by omega))
      by_cases led : t.led = true
      · exact wp_if_neg (by simp [led]) rest
      · refine wp_if_pos (by simp [led]) (wpAny_bind (seenT hx (fun y hy => ?_) (wp_if_neg (by decide) rest)))
        obtain ⟨e, he, ee⟩ := List.mem_map.mp hy
        have he1 : e ∈ es ∧ e.1 = mh P w k := by simpa using he
        have he2 : e ∈ es.toList := by simpa using he1.1
        rw [G.rw_] at he2
        obtain ⟨p2, hp2, e2⟩ := List.mem_map.mp he2
        exact ⟨p2.2, p2.1, by rw [← ee, ← e2], G.tup p2 hp2⟩
    · have hp' : t.probe (fun i => (es[i]?.map (·.1)).getD 0) (mh P w k) (st.getD (t.probeStart (mh P w k))) = some (.empty (way t.mask (mh P w k) n) none) := by
        have e2 : way t.mask (mh P w k) n = (nth t.mask (std t (mh P w k) c) (n - c)).j := by rw [ej, ec]
        rw [hst, e2]
        exact hpr
      rw [hp']
      exact wpAny_pure go
theorem isM_same {h h' : Heap} {k : List Key} {b : Addr} (x : IsM P w h k b) {o : Obj} {es : Array (Int × Value)} {ep : Nat} {t : SetTable} (ho : h.get? a = some o) (hd : o.data = .set es ep t) (sb : Heap.SameBut a h h') : IsM P w h' k b := by
  obtain ⟨o2, items, n, g, hc, hd2, hi⟩ := x
  have ne : b ≠ a := fun z => by
    rw [z, ho] at g
    cases g
    rw [hd] at hd2
    cases hd2
  exact ⟨o2, items, n, (sb.2 b ne).trans g, hc, hd2, hi⟩
/-- one more -/
theorem add (G : Got P w s.heap a L es ep t) {x : Addr} {k : List Key} (hx : IsM P w s.heap k x) (new : ∀ p ∈ L, p.2 ≠ k) (hu : A.units < cLine) (few : L.length + 1 ≤ 4) {Q : Bool → Shared → Prop}
    (go : ∀ h' L' es' ep' t', Heap.SameBut a s.heap h' → Got P w h' a L' es' ep' t' → L'.Perm ((x, k) :: L) → Q true { s with heap := h' }) : wpAny (model P w) A (setAddHashed a (.ref x) (mh P w k)) Q E s := by
  obtain ⟨o, ho, hex, hd⟩ := G.ob
  have m7 := G.m7
  unfold setAddHashed
  refine wpAny_holding ?_
  rw [show (100000 : Nat) = 99999 + 1 from rfl, setAddHashedIn_succ]
  refine wpAny_bind (wpAny_setState_of ho hd G.fits ?_)
  dsimp only
  refine wp_if_neg (by simp [byScan, Value.scannable]) ?_
  obtain ⟨n, hn, fr, bs⟩ := G.tab.first (by rw [List.length_map, m7]; omega) (mh P w k)
  have big : n - 0 < 100000 := by
    have : 10 * SetTable.turns t.mask ≤ 1420 := by
      unfold SetTable.turns
      omega
    omega
  refine wpAny_bind ?_
  unfold setSearch
  refine seek G hx new hu hn fr bs ?_ 100000 0 none rfl (Nat.zero_le _) big
  dsimp only
  refine wpAny_bind (wpAny_setState_of ho hd G.fits ?_)
  dsimp only
  obtain ⟨q1, q2, q3, q4, q5, q6, q7, q8, q9⟩ := G.tab.put fr bs
  generalize t.put (way t.mask (mh P w k) n) = pt at q1 q3 q4 q5 q6 q7 q8 q9 ⊢
  obtain ⟨t1, p⟩ := pt
  dsimp only at q1 q3 q4 q5 q6 q7 q8 q9 ⊢
  subst q1
  have both : ∀ (c : Bool), wpAny (model P w) A (do
      storeSet a (SetTable.insertAt es (SetTable.below t.place (way t.mask (mh P w k) n)) (mh P w k, Value.ref x)) (if c = true then t1 else { t1 with plain := false })
      if (!false && (if c = true then t1 else { t1 with plain := false }).tooFull) = true then setRelay a (SetTable.grown (es.size + 1))
      return true) Q E s := fun c => by
    generalize et : (if c = true then t1 else { t1 with plain := false }) = t2
    have e1 : t2.place = t1.place ∧ t2.dummies = t1.dummies ∧ t2.mask = t1.mask := by
      rw [← et]
      cases c <;> exact ⟨rfl, rfl, rfl⟩
    obtain ⟨e1, e2, e3⟩ := e1
    have q3' : TabOk t2 ((L.map fun p => mh P w p.2).take (SetTable.below t.place (way t.mask (mh P w k) n)) ++ mh P w k :: (L.map fun p => mh P w p.2).drop (SetTable.below t.place (way t.mask (mh P w k) n))) := ⟨by rw [e1]; exact q3.ris, by rw [e2]; exact q3.dm, by rw [e1]; exact q3.sz, by rw [e3]; exact q3.mok, by rw [e1, e3]; exact q3.bd, by rw [e1, e3]; exact q3.reach⟩
    have q9' : t2.fill = (L.map fun p => mh P w p.2).length + 1 := by
      rw [← q9]
      show t2.place.size + t2.dummies.size = t1.place.size + t1.dummies.size
      rw [e1, e2]
    rw [← e3] at q4
    clear q3 q9 q5 q6 q7 q8 e1 e2 e3 et
    generalize SetTable.below t.place (way t.mask (mh P w k) n) = p at q2 q3' ⊢
    have pm := put_perm L p (x, k)
    have lenL : (L.take p ++ (x, k) :: L.drop p).length = L.length + 1 := pm.length_eq
    have er : (SetTable.insertAt es p (mh P w k, Value.ref x)).toList = rows P w (L.take p ++ (x, k) :: L.drop p) := by
      rw [SetTable.toList_insertAt, G.rw_]
      unfold rows
      rw [List.map_append, List.map_cons, List.map_take, List.map_drop]
    have eh : (L.take p ++ (x, k) :: L.drop p).map (fun p => mh P w p.2) = (L.map fun p => mh P w p.2).take p ++ mh P w k :: (L.map fun p => mh P w p.2).drop p := by rw [List.map_append, List.map_cons, List.map_take, List.map_drop]
    rw [← eh] at q3'
    have es1 : (SetTable.insertAt es p (mh P w k, Value.ref x)).size = L.length + 1 := by
      have h := congrArg List.length er
      unfold rows at h
      rwa [Array.length_toList, List.length_map, lenL] at h
    generalize SetTable.insertAt es p (mh P w k, Value.ref x) = ens at er es1 ⊢
    generalize L.take p ++ (x, k) :: L.drop p = L1 at pm lenL q3' er
    refine wpAny_bind (wpAny_storeSet_of ho hd ?_ (by rw [es1, sizeLine_eq]; omega))
    have sb : Heap.SameBut a s.heap (s.heap.update a (Obj.putSet ens t2)) := Heap.SameBut.update ..
    have ho1 := store_at (es' := ens) (t' := t2) ho hd
    generalize s.heap.update a (Obj.putSet ens t2) = h1 at sb ho1 ⊢
    have nf : t2.tooFull = false := by
      unfold SetTable.tooFull
      rw [decide_eq_false_iff_not, q9', List.length_map, q4, m7]
      omega
    have fin := go h1 L1 ens (ep + 1) t2 sb ⟨⟨_, ho1, ⟨hex.1, hex.2.1, hex.2.2⟩, rfl⟩, er, q3', fun p hp => by
      rcases List.mem_cons.mp (pm.mem_iff.mp hp) with e | hp
      · rw [e]; exact isM_same hx ho hd sb
      · exact isM_same (G.tup p hp) ho hd sb, by rw [q4]; exact m7, by rw [lenL]; exact few⟩ pm
    first
      | (refine wp_if_neg (by simp [nf]) ?_; exact wpAny_pure fin)
      | (refine wpAny_bind ?_; refine wp_if_neg (by simp [nf]) ?_; exact wpAny_pure (wpAny_pure fin))
  by_cases pl : t1.plain = true
  · first
      | (refine wpAny_bind ?_; refine wp_if_pos pl ?_; exact byValT hx both)
      | exact wp_if_pos pl (wpAny_bind (byValT hx both))
  · first
      | (refine wpAny_bind ?_; refine wp_if_neg pl ?_; exact wpAny_pure (both true))
      | exact wp_if_neg pl (wpAny_bind (wpAny_pure (both true)))
      | exact wp_if_neg pl (both true)
end
end SX
set_option maxHeartbeats 4000000
namespace SX
open PySem PySem.Spec PyProof.Rows L2
section
variable {P : Program} {w : World} {A : Around} {E : Value → Shared → Prop}
theorem isM_keep {h h' : Heap} {k : List Key} {b : Addr} (x : IsM P w h k b) (kp : ∀ c o, h.get? c = some o → h'.get? c = some o) : IsM P w h' k b :=
  let ⟨o, items, n, g, r⟩ := x
  ⟨o, items, n, kp b o g, r⟩
theorem Got.keep {h h' : Heap} {a : Addr} {L : List (Addr × List Key)} {es : Array (Int × Value)} {ep : Nat} {t : SetTable} (G : Got P w h a L es ep t) (ka : ∀ o, h.get? a = some o → h'.get? a = some o) (kt : ∀ p ∈ L, IsM P w h' p.2 p.1) : Got P w h' a L es ep t :=
  let ⟨o, ho, r⟩ := G.ob
  { G with ob := ⟨o, ka o ho, r⟩, tup := kt }
theorem fresh {h : Heap} {a : Addr} (ho : h.get? a = some { cls := .type "set", dict := none, data := .set #[] 0 (.fresh 0 0 (!w.params.followText "set-order")) }) : Got P w h a [] #[] 0 (.fresh 0 0 (!w.params.followText "set-order")) := by
  have R := setTR_fresh (P := P) (w := w) ho
  exact ⟨R.ob, rfl, R.tab, fun p hp => by (cases hp), rfl, Nat.zero_le _⟩
/-- the items go in, one by one -/
theorem fill {I S : Addr} {fp wr : List Addr} {n : Nat} {Pv : Nat → Value → Prop} {St : Nat → Heap → Prop} {R : Result → Shared → Prop} (W : Walks P w A.in1 I fp wr n Pv St) (nS : S ∉ fp) (ks : List (Addr × List Key)) (hn : n = ks.length) (few : ks.length ≤ 4) (nd : (ks.map (·.2)).Nodup)
    (hv : ∀ i v, Pv i v → ∃ p, ks[i]? = some p ∧ v = .ref p.1) (h0 : Heap) (hk : ∀ p ∈ ks, IsM P w h0 p.2 p.1) (hS : h0.get? S = none) (hw : ∀ b ∈ wr, h0.get? b = none) (hu : A.in1.units < cLine) :
    ∀ (k i : Nat) (s : Shared), n - i = k → i ≤ n → St i s.heap → (∀ b o, h0.get? b = some o → s.heap.get? b = some o) → (∃ L es ep t, Got P w s.heap S L es ep t ∧ L.Perm (ks.take i)) →
      (∀ h' tk L es ep t, Got P w h' S L es ep t → L.length = ks.length → (∀ b o, h0.get? b = some o → h'.get? b = some o) → R (.ok (.ret .none)) { s with heap := h', toks := tk }) → codeAny (model P w) A (.builtin "set.update.loop" ⟨[.ref S, .ref I], []⟩) R s := by
  have nw : S ∉ wr := fun h => nS (W.sub _ h)
  have old : ∀ {b : Addr} {o : Obj}, h0.get? b = some o → b ∉ wr := fun e hb => by rw [hw _ hb] at e; cases e
  intro k
  induction k with
  | zero =>
    intro i s ek hi st kp ⟨L, es, ep, t, G, pm⟩ go
    have e : i = n := by omega
    subst e
    refine codeAny_builtin F.entry_set_update_loop ?_
    rw [Around.under_plainId F.plain_set_update_loop _]
    show wpAny _ A.in1 (pyNext (.ref I) >>= _) _ _ s
    refine wpAny_bind (W.done s _ _ st fun h' tk mv => ?_)
    have kp' : ∀ b o, h0.get? b = some o → h'.get? b = some o := fun b o e => mv b o (old e) (kp b o e)
    show wpAny _ A.in1 (ret Value.none) _ _ _
    refine wpAny_pure (go h' tk L es ep t (G.keep (fun o e => mv S o nw e) fun p hp => isM_keep (hk p (List.mem_of_mem_take (pm.mem_iff.mp hp))) kp') ?_ kp')
    rw [pm.length_eq, List.length_take]
    omega
  | succ k ih =>
    intro i s ek hi st kp ⟨L, es, ep, t, G, pm⟩ go
    have lt : i < n := by omega
    refine codeAny_builtin F.entry_set_update_loop ?_
    rw [Around.under_plainId F.plain_set_update_loop _]
    show wpAny _ A.in1 (pyNext (.ref I) >>= _) _ _ s
    refine wpAny_bind (W.item i s _ _ lt st fun v h1 tk pv st1 mv => ?_)
    obtain ⟨p, hp, rfl⟩ := hv i v pv
    have kp1 : ∀ b o, h0.get? b = some o → h1.get? b = some o := fun b o e => mv b o (old e) (kp b o e)
    have sub : ∀ q ∈ L, q ∈ ks := fun q hq => List.mem_of_mem_take (pm.mem_iff.mp hq)
    have G1 : Got P w h1 S L es ep t := G.keep (fun o e => mv S o nw e) fun q hq => isM_keep (hk q (sub q hq)) kp1
    have hx : IsM P w h1 p.2 p.1 := isM_keep (hk p (List.mem_of_getElem? hp)) kp1
    have ln : L.length = i := by rw [pm.length_eq, List.length_take]; omega
    have new : ∀ q ∈ L, q.2 ≠ p.2 := fun q hq e => by
      obtain ⟨j, hj⟩ := List.mem_iff_getElem?.mp (pm.mem_iff.mp hq)
      rw [List.getElem?_take] at hj
      split at hj
      · rename_i hji
        have inj := List.pairwise_iff_getElem.mp nd
        obtain ⟨l1, e1⟩ := List.getElem?_eq_some_iff.mp hj
        obtain ⟨l2, e2⟩ := List.getElem?_eq_some_iff.mp hp
        refine inj j i (by rw [List.length_map]; exact l1) (by rw [List.length_map]; exact l2) hji ?_
        rw [List.getElem_map, List.getElem_map, e1, e2]
        exact e
      · cases hj
    show wpAny _ A.in1 (holding [Value.ref p.1] (setAdd S (.ref p.1)) >>= _) _ _ { s with heap := h1, toks := tk }
    refine wpAny_bind (wpAny_holding ?_)
    unfold setAdd
    refine wpAny_holding (wpAny_bind (wpAny_pyHash_tuple hu hx (add (s := { s with heap := h1, toks := tk + (p.2.length + 1) }) G1 hx new hu (by omega) fun h2 L' es' ep' t' sb G2 pm2 => ?_)))
    have kp2 : ∀ b o, h0.get? b = some o → h2.get? b = some o := fun b o e => (sb.2 b (fun z => by rw [z, hS] at e; cases e)).trans (kp1 b o e)
    have st2 : St (i + 1) h2 := W.frame _ h1 _ st1 fun b hb o e => by
      rw [sb.2 b (fun h : b = S => nS (by rw [← h]; exact hb))]
      exact e
    have pm3 : L'.Perm (ks.take (i + 1)) := by
      rw [List.take_succ, hp]
      exact (pm2.trans (pm.cons _)).trans (List.perm_append_singleton p (ks.take i)).symm
    exact wpAny_pure ⟨plainId_quiet F.plain_set_update_loop _, ih (i + 1) _ (by omega) lt st2 kp2 ⟨L', es', ep', t', G2, pm3⟩ fun h3 tk3 L3 es3 ep3 t3 G3 l3 k3 => go h3 tk3 L3 es3 ep3 t3 G3 l3 k3⟩
end
section
variable {P : Program} {w : World} {A : Around} {E : Value → Shared → Prop} {s : Shared}
/-- set(t), t a tuple of different tuples -/
theorem call_set {l : Addr} {items : Array Value} (ks : List (Addr × List Key)) {Q : Value → Shared → Prop} (hh : A.handled = none) (hl : s.heap.IsTuple l items) (hit : items.toList = ks.map fun p => Value.ref p.1) (hk : ∀ p ∈ ks, IsM P w s.heap p.2 p.1) (few : ks.length ≤ 4) (nd : (ks.map (·.2)).Nodup) (hu : A.units + 3 < cLine)
    (go : ∀ (h' : Heap) (tk : Nat) L es ep t, Got P w h' s.heap.objs.size L es ep t → L.length = ks.length → (∀ b o, s.heap.get? b = some o → h'.get? b = some o) → Q (.ref s.heap.objs.size) { s with heap := h', toks := tk }) : wpAny (model P w) A (call (.type "set") [.ref l]) Q E s := by
  have hn : items.size = ks.length := by
    have q := congrArg List.length hit
    rwa [Array.length_toList, List.length_map] at q
  obtain ⟨c, tl, hmro⟩ := F.called_set.mro
  have hmade := F.called_set.made
  have hsub := F.called_set.sub
  refine wpAny_call (codeAny_of_tree ?_)
  show wpAny _ _ (callAny (.type "set") _) _ _ _
  refine wpAny_pure ⟨Code.quiet_builtin _ (by decide +kernel), codeAny_builtin F.entry_type_call ?_⟩
  rw [Around.under_plain (weight_type_call_type "set" [.ref l] []) rfl]
  have h1 := F.called_set.notType
  have h2 := F.called_set.canCreate
  have hct := F.typeCall_set_1 (.ref l)
  repeat (any_goals (first | assumption | wp_step))
  generalize eN : ({ cls := .type "set", dict := none, data := .set #[] 0 (.fresh 0 0 (!w.params.followText "set-order")) } : Obj) = ob
  have fob : ob.isFreed = false := by rw [← eN]; rfl
  refine codeAny_mono (code_set_led1 (.ref l) (E := E) (Q₁ := fun obj s₁ => obj = .ref s.heap.objs.size ∧ s₁ = { s with heap := s.heap.push ob }) (by rw [← eN]; exact ⟨rfl, rfl⟩)) fun r s₁ hr => ?_
  cases r with
  | error e => exact hr
  | ok fl =>
    cases fl with
    | ret obj =>
      obtain ⟨rfl, rfl⟩ := hr
      have gS : (s.heap.push ob).get? s.heap.objs.size = some ob := Heap.get?_push_size _ fob
      have hT : Shared.TypeIs { s with heap := s.heap.push ob } (.ref s.heap.objs.size) "set" := ⟨_, gS, by rw [← eN]⟩
      have hli := F.called_set.init.lookup
      have hbi := F.called_set.init.bind (.ref s.heap.objs.size)
      repeat (any_goals (first | assumption | wp_step))
      refine codeAny_mono (codeAny_call_builtin (R := wants (fun r s₂ => r = .none ∧ ∃ h' tk L es ep t, s₂ = { s with heap := h', toks := tk } ∧ Got P w h' s.heap.objs.size L es ep t ∧ L.length = ks.length ∧ (∀ b o, s.heap.get? b = some o → h'.get? b = some o)) E) F.called_set.init.plain F.entry_set_init
        (check_set_init_1 hT ?_)) fun r₂ s₂ hr₂ => ?_
      · obtain ⟨ol, hol, hcl, nl, hdl⟩ := id hl
        have hl1 : (s.heap.push ob).IsTuple l items := Heap.IsTuple.push hl _
        have hTl : Shared.TypeIs { s with heap := s.heap.push ob } (.ref l) "tuple" := hl1.typeIs
        have hsls := F.sub_tuple_set
        have hslf := F.sub_tuple_frozenset
        have hne : (Value.type "tuple" == Value.type "dict") = false := by decide
        obtain ⟨ocls, odict, odata, oslots⟩ := ol
        simp only at hcl hdl
        subst hcl hdl
        have hol' : (s.heap.push ob).get? l = some { cls := .type "tuple", dict := odict, data := .seq items nl, slots := oslots } := Heap.get?_push_of_some _ hol
        subst eN
        unfold Builtin.«set.__init__» noKeywords Builtin.Frozenset.updateFrom
        generalize hPI : pyIter = PI
        wp_walk
        subst hPI
        generalize eN : ({ cls := .type "set", dict := none, data := .set #[] 0 (.fresh 0 0 (!w.params.followText "set-order")) } : Obj) = ob at gS hl1 ⊢
        refine wpAny_pyIter_tuple hl1 ?_
        refine wpAny_bind (wpAny_runValue ?_)
        have ltl : l < s.heap.objs.size := Heap.lt_size hol
        have sz1 : (s.heap.push ob).objs.size = s.heap.objs.size + 1 := Heap.size_push ..
        have hh3 : A.in1.in1.in1.handled = none := by simp [hh]
        have neI : l ≠ (s.heap.push ob).objs.size := by
          rw [sz1]
          exact Nat.ne_of_lt (Nat.lt_succ_of_lt ltl)
        have nS : s.heap.objs.size ∉ [(s.heap.push ob).objs.size, l] := by
          rw [sz1]
          simp only [List.mem_cons, List.not_mem_nil, or_false, not_or]
          exact ⟨Nat.ne_of_lt (Nat.lt_succ_self _), Nat.ne_of_gt ltl⟩
        have hval : ∀ (i : Nat) (v : Value), items[i]? = some v → ∃ p, ks[i]? = some p ∧ v = .ref p.1 := fun i v hv => by
          have q : items.toList[i]? = some v := by
            rw [Array.getElem?_toList]
            exact hv
          rw [hit, List.getElem?_map] at q
          obtain ⟨p, hp, e⟩ := Option.map_eq_some_iff.mp q
          exact ⟨p, hp, e.symm⟩
        have none_of : ∀ b, s.heap.objs.size ≤ b → s.heap.get? b = none := fun b hb => by
          cases q : s.heap.get? b with
          | none => rfl
          | some o => exact absurd (Nat.lt_of_lt_of_le (Heap.lt_size q) hb) (Nat.lt_irrefl _)
        refine fill (Walks.tuple hh3 _ l neI items) nS ks hn few nd hval s.heap hk (none_of _ (Nat.le_refl _)) (fun b hb => none_of b (by rw [List.mem_singleton.mp hb, sz1]; exact Nat.le_succ _)) hu (items.size - 0) 0 _ (by omega) (Nat.zero_le _)
          ⟨⟨_, Heap.get?_push_size _ rfl, rfl, rfl⟩, Heap.IsTuple.push hl1 _⟩ (fun b o e => Heap.get?_push_of_some _ (Heap.get?_push_of_some _ e)) ⟨[], #[], 0, _, fresh (by rw [eN]; exact Heap.get?_push_of_some _ gS), .refl _⟩ fun h' tk L es ep t G ln kp => ?_
        show wpAny _ _ _ _ _ _
        refine wpAny_pure ?_
        show wpAny _ _ (ret Value.none) _ _ _
        exact wpAny_pure ⟨rfl, h', tk, L, es, ep, t, rfl, G, ln, kp⟩
      · cases r₂ with
        | error e => exact hr₂
        | ok fl₂ =>
          cases fl₂ with
          | ret r =>
            obtain ⟨rfl, h', tk, L, es, ep, t, rfl, G, ln, kp⟩ := hr₂
            repeat (any_goals (first | assumption | wp_step))
            exact go _ _ _ _ _ _ G ln kp
          | _ => exact hr₂.elim
    | _ => exact hr.elim
end
end SX
set_option maxHeartbeats 4000000
/-! len(set(t)) -/
namespace SX
open PySem PySem.Spec PyProof.Rows L2
theorem items_of {P : Program} {w : World} : ∀ {k : List Key} {us : List Value}, Vals (k.map kV) us → ItemsAre (mixKind P w) k us
  | [], _, .nil => .nil
  | _ :: _, _, .cons r t => .cons (kV_is r) (items_of t)
theorem isM_of {X : Cx} {pins : List (Addr × Obj)} {σ : L2.St} {H : Hp} {s : Shared} {b : Addr} {k : List Key} (I : L2.Inv X pins σ H s) (h : SqT X.K H b (k.map kV)) : IsM X.prog X.w s.heap k b := by
  obtain ⟨its, rv, ⟨o, ho, hc, n, hd⟩, _⟩ := I.tuple h
  exact ⟨o, its.toArray, n, ho, hc, hd, items_of (by simpa using rv)⟩
def tLenSetM (K : PySem.W.Frag) (ta : TE) : TE := fun σ H Q => ta σ H fun x H1 => ∃ (l : Addr) (L : List (Addr × List Key)), x = V.ref l ∧ SqT K H1 l (L.map fun p => .ref p.1) ∧ L.length ≤ 4 ∧ (∀ p ∈ L, SqT K H1 p.1 (p.2.map kV)) ∧ (L.map (·.2)).Nodup ∧ Q (.int (L.length : Nat)) H1
theorem pe_lenSetM {X : Cx} {a : Expr} {ta : TE} {p p2 q pos : Pos} (hu : X.A.units + 3 < cLine) (hg : Gl X "len") (hm : X.mg "len" = none) (hg2 : Gl X "set") (hm2 : X.mg "set" = none) (ha : PE X a ta) (hc : X.calm = true := by rfl)
    (na : starEach [a] X.env = (false, eval a X.env) :: starEach [] X.env := by rfl) : PE X (.Call (.Name "len" p) [.Call (.Name "set" p2) [a] [] q] [] pos) (tLenSetM X.K ta) := by
  refine ⟨fun pins s σ H Q I h => Call_ (ld_blt I hg hm boot_len ?_)⟩
  refine PyProof.Rows.callWith_builtin1 (PyProof.Rows.args_cons ?_ rfl) rfl rfl
  refine Call_ (ld_blt I hg2 hm2 boot_set ?_)
  refine PyProof.Rows.callWith_type1 (PyProof.Rows.args_cons (thn (ha.run pins s σ H _ I h) fun v s1 ⟨x, H1, I1, r1, q1⟩ => PyProof.Rows.args_nil ?_) na) na rfl
  obtain ⟨l, L, rfl, hq, few, ht, nd, go⟩ := q1
  cases r1
  obtain ⟨its, rv, pl, _⟩ := I1.tuple hq
  refine call_set L (I1.ok.hd hc) (show s1.heap.IsTuple l its.toArray from pl) (by simpa using SM.refs_vals rv) (fun p hp => isM_of I1 (ht p hp)) few nd hu fun h' tk L' es ep t G ln kp => PyProof.Rows.args_nil ?_
  obtain ⟨o, ho, hex, hd⟩ := G.ob
  have I2 : L2.Inv X pins σ H1 { s1 with heap := h', toks := tk } := I1.kept kp
  have es1 : es.size = L.length := (Got.size (s := { s1 with heap := h', toks := tk }) G).trans ln
  exact call_len_set ho hex hd (Got.fits (s := { s1 with heap := h', toks := tk }) G) (by rw [es1]; omega) ⟨.int (L.length : Nat), H1, I2.tok _, ⟨_, by rw [es1]⟩, go⟩
end SX
namespace RunX
open PySem PySem.Spec PyProof.Rows L2 He PO SM SX
variable [Drw] [Cbv]
variable {K : PySem.W.Frag} {E : XK}
instance (te : TE) [e : EvE K E te] : EvE K E (tLenSetM K te) where
  run := fun σ S => bindE (e.run σ S) fun x S1 => match x with
    | .ref n => (match S1[n]? with
      | some (.tup xs) => (match keyedD S1 xs with
        | some L => if L.length ≤ 4 ∧ (L.map (·.2)).Nodup then retS (.int (L.length : Nat)) S1 else none
        | none => none)
      | _ => none)
    | _ => none
  good := fun {σ S r} h w => bind_good (te := te) h w fun {x S1 r} l wx h => by
    split at h
    · split at h
      · split at h
        · split at h
          · exact ret_good h rfl
          · cases h
        · cases h
      · cases h
    · cases h
  ok := fun {σ S r ρ H Q} h w R p => bind_ok (te := te) h w R p fun {x S1 ρ1 H1} l wx h R1 F1 eσ p => by
    split at h
    · split at h
      · rename_i xs e1
        split at h
        · rename_i L hL
          split at h
          · rename_i c
            obtain ⟨ex, ht⟩ := keyedD_ok R1 hL
            have g := SqT.of (K := K) (R1.get e1).1
            have em : xs.map (dV K ρ1) = (L.map fun p => (ρ1.getD p.1 0, p.2)).map fun p => V.ref p.1 := by
              rw [ex, List.map_map, List.map_map]
              rfl
            rw [em] at g
            refine ⟨_, L.map fun p => (ρ1.getD p.1 0, p.2), rfl, g, by rw [List.length_map]; exact c.1, fun q hq => ?_, ?_, ?_⟩
            · obtain ⟨z, hz, rfl⟩ := List.mem_map.mp hq
              exact ht z hz
            · rw [List.map_map]
              exact c.2
            · rw [List.length_map]
              exact ret_post (E := E) h R1 p
          · cases h
        · cases h
      · cases h
    · cases h
end RunX
set_option maxHeartbeats 4000000
namespace RunX
open PySem PySem.Spec PyProof.Rows L2 He
variable [Drw] [Cbv]
variable {K : PySem.W.Frag} {E : XK}
/-! texts: x < y, x + y; the length of a dict -/
def rLtS : R2 := fun x y H Q => ∃ i j, x = .str i ∧ y = .str j ∧ Q (.bl (decide (i.cps.toList < j.cps.toList))) H
theorem op_ltS {X : Cx} : OpR X (compareOp .Lt) rLtS := op_lt_str
def rAddS : R2 := fun x y H Q => ∃ i j, x = .str i ∧ y = .str j ∧ i.length + j.length ≤ sizeLine ∧ Q (.str (i ++ j)) H
theorem op_addS {X : Cx} : OpR X (binaryOp .Add) rAddS := op_add_str
def rLenD : List V → Hp → VK → Prop := fun xs H Q => ∃ a kvs, xs = [V.ref a] ∧ H a = some (.dK kvs) ∧ Q (.int kvs.length) H
theorem call_lenDD {X : Cx} : CallR X (.builtin "len") rLenD := call_lenD
def ltN : List Nat → List Nat → Bool
  | _, [] => false
  | [], _ :: _ => true
  | a :: r, b :: s => if a < b then true else if b < a then false else ltN r s
theorem ltN_eq : ∀ (a b : List Nat), ltN a b = decide (a < b)
  | [], [] => by simp [ltN]
  | _ :: _, [] => by simp [ltN]
  | [], _ :: _ => by simp [ltN]
  | a :: r, b :: s => by
    unfold ltN
    rw [ltN_eq r s]
    by_cases h : a < b
    · simp [h, List.cons_lt_cons_iff]
    · by_cases h2 : b < a
      · have : a ≠ b := by omega
        simp [h, h2, this, List.cons_lt_cons_iff]
      · have e : a = b := by omega
        subst e
        simp [List.cons_lt_cons_iff]
instance : EvR K rLtS where
  run := fun S x y => match x, y with
    | .str i, .str j => retS (.bl (ltN i.cps.toList j.cps.toList)) S
    | _, _ => none
  good := fun {S x y q} h wx wy => by
    split at h
    · exact ret_good h rfl
    · cases h
  ok := fun {S x y q ρ H Q E} h wx wy R p => by
    split at h
    · rw [ltN_eq] at h
      exact ⟨_, _, rfl, rfl, ret_post (E := E) h R p⟩
    · cases h
instance : EvR K rAddS where
  run := fun S x y => match x, y with
    | .str i, .str j => if i.length + j.length ≤ 100000 then retS (.str (i ++ j)) S else none
    | _, _ => none
  good := fun {S x y q} h wx wy => by
    split at h
    · split at h
      · exact ret_good h rfl
      · cases h
    · cases h
  ok := fun {S x y q ρ H Q E} h wx wy R p => by
    split at h
    · split at h
      · rename_i c
        exact ⟨_, _, rfl, rfl, Nat.le_trans c (by decide), ret_post (E := E) h R p⟩
      · cases h
    · cases h
instance : EvB K rLenD where
  run := fun ds S => match ds with
    | [.ref n] => (match S[n]? with
      | some (.dK kvs) => retS (.int kvs.length) S
      | _ => none)
    | _ => none
  good := fun {ds S q} h w => by
    split at h
    · split at h
      · exact ret_good h rfl
      · cases h
    · cases h
  ok := fun {ds S q ρ H Q E} h w R p => by
    split at h
    · split at h
      · rename_i kvs e
        exact ⟨_, _, rfl, (R.get e).1, by rw [List.length_map]; exact ret_post (E := E) h R p⟩
      · cases h
    · cases h
end RunX
set_option maxHeartbeats 4000000
/-! raise C(e), C an own exception class whose __init__ keeps its argument. -/
namespace RunX
open PySem PySem.Spec PyProof.Rows L2 He PO
variable [Drw] [Cbv]
def tRaiseV (C : Addr) (f : Str) (ta : TA) : L2.St → Hp → XK → Prop := fun σ H E => ta σ H fun vs H1 => ∃ v, vs = [v] ∧ ∀ d, H1 d = none → E (.ref C) (some d) (upd H1 d (.xd [(f, v)]))
theorem pmk_excI {X : Cx} {C fI : Addr} {x f B newId initId : String} {bm bmB : List Value} {a : Expr} {ta : TA} {p pos : Pos} {k : Nat} (T : PySem.XT.ClsT X.K x f B newId initId bm bmB C fI) (NT : PySem.XT.NameT f) (gC : X.mg x = some (.ref C)) (rs : Raises X (.ref C)) (hr : Room k X.A) (ha : PA X [a] ta) (hg : Gl X x := by rfl)
    (hdb : ((PySem.Str.ofString x : Str) == ("__debug__" : Str)) = false := by decide)
    (he : starEach (a :: []) X.env = (false, eval a X.env) :: starEach [] X.env := by rfl) (hpl : (backTo pos (starEach [] X.env)).any (·.1) = false := by rfl) :
    PMk X (.Call (.Name x p) [a] [] pos) (tRaiseV C f ta) := by
  intro pins s σ H Q I h
  refine wpAny_Call_Name_kw (ld_glob I hg gC ?_ hdb)
  refine PySem.W.callWith_K (h₀ := X.base) I.ok.mod.kin T.kC (thn (ha.run pos pins s σ H _ I h) fun us s1 hh => ?_) he hpl
  obtain ⟨vs, H1, I1, r1, v, ev, q1⟩ := hh
  subst ev
  refine ⟨I1.kIn, ?_⟩
  cases r1 with
  | cons rv rn =>
    rename_i v' us'
    cases rn
    show wpAny _ _ (call (.ref C) [v']) _ _ _
    have hlim := I1.nolimit
    obtain ⟨hp, g, dr, tk, os⟩ := s1
    refine wpAny_call (PySem.XT.t_made T NT I1.kIn hlim (by have := hr.dp; omega) fun h' tk' e d t1 M => ?_)
    obtain ⟨G', g1, g2⟩ := restrict h' fun b => decide (b ≠ e)
    have gk : ∀ b, b ≠ e → G'.get? b = h'.get? b := fun b hb => g1 b (decide_eq_true hb)
    have ge : G'.get? e = none := g2 e (by simp)
    have old : ∀ b o, hp.get? b = some o → G'.get? b = some o := fun b o q => (gk b (Nat.ne_of_lt (Nat.lt_of_lt_of_le (Heap.lt_size q) M.new))).trans (M.keep b o q)
    have ob : ObjOk X.prog X.w (upd H1 d (.xd [((f : Str), v)])) G' d (.xd [((f : Str), v)]) :=
      ⟨_, M.ns.at (fun o q => (gk d M.dne).trans q), fun f => relO_one rv f⟩
    have J : L2.Inv X pins σ (upd H1 d (.xd [((f : Str), v)])) ⟨G', g, dr, tk', os⟩ := I1.laid (t' := tk') old M.dbig ob
    have ke : ∀ b o, G'.get? b = some o → h'.get? b = some o := fun b o q => by
      by_cases hb : b = e
      · rw [hb, ge] at q
        cases q
      · exact (gk b hb).symm.trans q
    have n2 : (upd H1 d (.xd [((f : Str), v)])) e = none := by
      rw [upd_ne (Ne.symm M.dne)]
      exact I1.hok.fresh M.new
    exact ⟨e, _, _, ⟨G', g, dr, tk', os⟩, _, .ref C, some d, rfl, J, ke, ge, M.obj, ⟨rfl, rfl⟩, rfl, rfl, n2, rfl, I1.bare, rs, q1 d (I1.hok.fresh M.dbig)⟩
variable {K : PySem.W.Frag} {E : XK}
/-- raise C(e) -/
def tRaiseI (C : Addr) (f : Str) (ta : TA) (E : XK) : TS := fun _ σ H => tRaiseV C f ta σ H E
instance (C : Str) (f : Str) (ta : TA) [a : EvA K E ta] : EvS K E (tRaiseI (ga K C) f ta E) where
  run := fun σ S => match a.run σ S with
    | some (.ret [v] S1) => some (.exc C (some S1.length) (S1 ++ [.xd [(f, v)]]))
    | some (.exc D d S1) => some (.exc D d S1)
    | _ => none
  good := fun {σ S o} h w => by
    split at h
    · rename_i v S1 h1
      cases h
      have l := of_decide_eq_true (ba (a.good h1 w)).1
      exact decide_eq_true (by rw [List.length_append]; omega)
    · rename_i D d S1 h1
      cases h
      exact a.good h1 w
    · cases h
  ok := fun {σ S o ρ H D} h w R p => by
    split at h
    · rename_i v S1 h1
      cases h
      obtain ⟨l, wv⟩ := ba (a.good h1 w)
      obtain ⟨wv, _⟩ := ba (show (wf _ v && true) = true from wv)
      refine a.ok h1 w R fun ρ1 H1 R1 F1 => ⟨_, rfl, fun d hd => ?_⟩
      obtain ⟨R2, F2⟩ := R1.new (o := .xd [(f, v)]) hd (by show (wf _ v && true) = true; rw [wv]; rfl)
      have z := p _ _ R2 (F1.trans R1 F2)
      have e : (some S1.length).map (fun n => (ρ1 ++ [d]).getD n 0) = some d := by
        rw [← R1.len]
        simp [List.getD_eq_getElem?_getD]
      rw [e] at z
      exact z
    · rename_i D d S1 h1
      cases h
      exact a.ok h1 w R p
    · cases h
end RunX
set_option maxHeartbeats 4000000
/-! max(xs), xs a list of one item of any kind. -/
namespace MX1
open PySem PySem.Spec PyProof.Rows L2
section
variable {prog : Program} {w : World} {A : Around} {E : Value → Shared → Prop} {s : Shared}
theorem turns {R : Result → Shared → Prop} {I S : Addr} {fp wr : List Addr} {Pv : Nat → Value → Prop} {St : Nat → Heap → Prop} (W : Walks prog w A.in1 I fp wr 1 Pv St) (nS : S ∉ fp) {c : Nat} (st : St 0 s.heap) (hS : s.heap.get? S = some { cls := .type "list", dict := none, data := .seq #[] c, slots := #[] })
    (go : ∀ v h' tk, Pv 0 v → (∀ b o, b ∉ wr → b ≠ S → s.heap.get? b = some o → h'.get? b = some o) → R (.ok (.ret v)) { s with heap := h', toks := tk }) : codeAny (model prog w) A (.builtin "max.loop" ⟨[.ref I, .none, .ref S], []⟩) R s := by
  have nw : S ∉ wr := fun h => nS (W.sub _ h)
  have en : (toString "max" ++ toString ".loop" : String) = "max.loop" := by decide
  refine codeAny_builtin F.entry_max_loop ?_
  rw [Around.under_plainId F.plain_max_loop _]
  show wpAny _ A.in1 (seqItems? (.ref S) >>= _) _ _ s
  refine wpAny_bind (wpAny_seqItems hS rfl ?_)
  show wpAny _ A.in1 (tryCatch (pyNext (.ref I)) _ >>= _) _ _ s
  refine wpAny_bind (wpAny_tryCatch (W.item 0 s _ _ Nat.one_pos st fun v h1 tk pv st1 k1 => ?_))
  have hS1 := k1 S _ nw hS
  show wpAny _ A.in1 (updateSeq S (fun _ => #[v, v]) >>= _) _ _ _
  refine wpAny_bind (wpAny_updateSeq hS1 rfl ?_)
  rw [en]
  refine wpAny_pure ⟨plainId_quiet F.plain_max_loop _, codeAny_builtin F.entry_max_loop ?_⟩
  have st2 : St 1 (h1.update S (Obj.mapSeq fun _ => #[v, v])) := W.frame _ _ _ st1 fun b hb o e => (Heap.get?_update_other _ _ (fun h : S = b => nS (by rw [h]; exact hb))).trans e
  have hS2 : (h1.update S (Obj.mapSeq fun _ => #[v, v])).get? S = some _ := Heap.get?_update_self _ hS1 rfl
  rw [Around.under_plainId F.plain_max_loop _]
  show wpAny _ A.in1 (seqItems? (.ref S) >>= _) _ _ _
  refine wpAny_bind (wpAny_seqItems (s := { s with heap := h1.update S (Obj.mapSeq fun _ => #[v, v]), toks := tk }) hS2 rfl ?_)
  show wpAny _ A.in1 (tryCatch (pyNext (.ref I)) _ >>= _) _ _ _
  refine wpAny_bind (wpAny_tryCatch (W.done { s with heap := h1.update S (Obj.mapSeq fun _ => #[v, v]), toks := tk } _ _ st2 fun h3 tk3 k3 => ?_))
  have hS3 := k3 S _ nw hS2
  show wpAny _ A.in1 (updateSeq S (fun _ => #[]) >>= _) _ _ _
  refine wpAny_bind (wpAny_updateSeq hS3 rfl (wpAny_bind (wpAny_letGo (wpAny_pure ?_))))
  exact go v _ tk3 pv fun b o hw hb e => (Heap.get?_update_other _ _ (Ne.symm hb)).trans (k3 b o hw ((Heap.get?_update_other _ _ (Ne.symm hb)).trans (k1 b o hw e)))
theorem max_one {l : Addr} {v : Value} {Q : Value → Shared → Prop} (hh : A.handled = none) (hl : s.heap.IsList l #[v]) (go : ∀ h' tk, (∀ b o, s.heap.get? b = some o → h'.get? b = some o) → Q v { s with heap := h', toks := tk }) : wpAny (model prog w) A (call (.builtin "max") [.ref l]) Q E s := by
  have en : (toString "max" ++ toString ".loop" : String) = "max.loop" := by decide
  refine call_function_tree F.kind_max F.plain_max F.entry_max (F.args_max1 _) ?_
  show wpAny _ A.in1 (Builtin.Builtins.bindParams "max" ["key", "default"] 0 ⟨[], []⟩ >>= _) _ _ s
  refine wpAny_bind (wpAny_of_eq (show Builtin.Builtins.bindParams "max" ["key", "default"] 0 ⟨[], []⟩ = pure [none, none] from rfl) ?_)
  refine wpAny_bind (wpAny_pure (wpAny_bind (wpAny_pyIter_list hl ?_)))
  have lt : l < s.heap.objs.size := let ⟨_, e, _⟩ := hl; Heap.lt_size e
  have W := Walks.list (prog := prog) (w := w) (A := A.in1) (show A.in1.handled = none from hh) s.heap.objs.size l (Nat.ne_of_lt lt) #[v]
  generalize eI : s.heap.push { cls := .type "list_iterator", data := .fields #[.ref l, .int 0 0] } = h1
  have sz : h1.objs.size = s.heap.objs.size + 1 := by rw [← eI]; exact Heap.size_push ..
  have k1 : ∀ b o, s.heap.get? b = some o → h1.get? b = some o := fun b o e => by rw [← eI]; exact Heap.get?_push_of_some _ e
  have st : h1.IsListIter s.heap.objs.size l 0 ∧ h1.IsList l #[v] := by
    rw [← eI]
    exact ⟨⟨_, Heap.get?_push_size _ rfl, rfl, rfl⟩, hl.push _⟩
  refine wpAny_bind (wpAny_newObj_type ?_)
  rw [en]
  have nS : h1.objs.size ∉ [s.heap.objs.size, l] := by
    rw [sz]
    simp only [List.mem_cons, List.not_mem_nil, or_false, not_or]
    exact ⟨Nat.ne_of_gt (Nat.lt_succ_self _), Nat.ne_of_gt (Nat.lt_succ_of_lt lt)⟩
  refine wpAny_pure ⟨plainId_quiet F.plain_max_loop _, turns W nS (W.frame _ _ _ st fun b _ o e => Heap.get?_push_of_some _ e) (Heap.get?_push_size _ rfl) fun u h' tk hu hk => ?_⟩
  have eu : v = u := by simpa using hu
  subst eu
  refine go h' tk fun b o e => ?_
  have hlt : b < s.heap.objs.size := Heap.lt_size e
  exact hk b o (by simp; exact Nat.ne_of_lt hlt) (by rw [sz]; exact Nat.ne_of_lt (Nat.lt_succ_of_lt hlt)) (Heap.get?_push_of_some _ (k1 b o e))
end
def rMax1 (K : PySem.W.Frag) : List V → Hp → VK → Prop := fun vs H Q => ∃ a x, vs = [V.ref a] ∧ SqL K H a [x] ∧ Q x H
theorem cr_max1 {X : Cx} (hc : X.calm = true) : CallR X (.builtin "max") (rMax1 X.K) := by
  intro pins s σ H vs us Q I r h
  obtain ⟨a, x, rfl, hs, q⟩ := h
  obtain ⟨its, rv, hl, _⟩ := I.list hs
  rw [Vals.ref1 r]
  cases rv with
  | cons rx rr =>
    cases rr
    exact max_one (I.ok.hd hc) hl.isList fun h' tk kp => ⟨x, H, I.kept kp, rx, q⟩
end MX1
namespace RunX
open PySem PySem.Spec PyProof.Rows L2 He PO MX1
variable [Drw] [Cbv]
variable {K : PySem.W.Frag} {E : XK}
instance : EvB K (rMax1 K) where
  run := fun ds S => match ds with
    | [x] => (match lstD S x with
      | some [y] => if wf S.length y = true then retS y S else none
      | _ => none)
    | _ => none
  good := fun {ds S q} h w => by
    split at h
    · split at h
      · split at h
        · rename_i c
          exact ret_good h c
        · cases h
      · cases h
    · cases h
  ok := fun {ds S q ρ H Q E} h w R p => by
    split at h
    · split at h
      · rename_i y hl
        split at h
        · obtain ⟨n, rfl, e, g, _⟩ := lstD_ok R hl
          exact ⟨_, dV K ρ y, rfl, SqL.of g, ret_post (E := E) h R p⟩
        · cases h
      · cases h
    · cases h
end RunX
set_option maxHeartbeats 4000000
/-! several except clauses, some of them with a name -/
namespace TM
open PySem PySem.Spec PyProof.Rows L2
/-- one clause: the class that it names, the slot of its name (if it has one), its suite's reading -/
structure Arm where
  c : Value
  i : Option Nat
  ts : Addr → Value → Option Addr → TS
/-- behind a suite with a name the name is gone -/
def asD (i : Nat) (D : Ends) : Ends := { nx := fun τ G => D.nx (τ.set i none) G, rt := D.rt, bk := fun τ G => D.bk (τ.set i none) G, ct := fun τ G => D.ct (τ.set i none) G }
def wArm (A : Arm) (a : Addr) (cls : Value) (d : Option Addr) (D : Ends) (σ : L2.St) (H : Hp) : Prop := match A.i with
  | none => A.ts a cls d D σ H
  | some i => A.ts a cls d (asD i D) (σ.set i (some (.ref a))) H
def wManyA (K : PySem.W.Frag) (Wout : WX) (D : Ends) : List Arm → WX
  | [] => Wout
  | A :: r => fun cls d σ H => ∃ b, PySem.W.exmOne K cls A.c = some b ∧ (b = true → ∀ a, H a = none → wArm A a cls d D σ H) ∧ (b = false → wManyA K Wout D r cls d σ H)
/-- the clause's suite has the reading ts -/
abbrev SuiteOk (X : Cx) (suite : List Stmt) (ts : Addr → Value → Option Addr → TS) : Prop :=
  ∀ (a : Addr) (oe : Obj) (cls : Value) (d : Option Addr) (pn : List (Addr × Obj)), Zc cls d oe → (∃ vs, oe.data = .fields vs) → PSs (X.suite a ((a, oe) :: pn)) suite (ts a cls d)
inductive HdsA (X : Cx) : List ExceptHandler → List Arm → Prop
  | nil : HdsA X [] []
  | cons {x : Str} {c : Value} {ts : Addr → Value → Option Addr → TS} {b₀ : Stmt} {suite : List Stmt} {np q : Pos} {hds : List ExceptHandler} {l : List Arm} (hc : Names X x c)
      (hsu : SuiteOk X (b₀ :: suite) ts) (r : HdsA X hds l) : HdsA X (.ExceptHandler (some (.Name x np)) none (b₀ :: suite) q :: hds) (⟨c, none, ts⟩ :: l)
  | as_ {x n : Str} {i : Nat} {c : Value} {ts : Addr → Value → Option Addr → TS} {b₀ : Stmt} {suite : List Stmt} {np q : Pos} {hds : List ExceptHandler} {l : List Arm} (hi : X.N[i]? = some n) (hln : X.env.kindOf n = some .local) (hc : Names X x c)
      (hsu : SuiteOk X (b₀ :: suite) ts) (r : HdsA X hds l) : HdsA X (.ExceptHandler (some (.Name x np)) (some n) (b₀ :: suite) q :: hds) (⟨c, some i, ts⟩ :: l)
section
variable {X : Cx} {pins : List (Addr × Obj)} {D : Ends}
/-- the body's end is the statement's -/
theorem sp_tr (ok : X.Ok) {pn : List (Addr × Obj)} {xe : Value → Shared → Prop} {f : Flow} {t : Shared} (h : SP (X.tr (X.pn ++ pins) xe) [] D f t) : SP X pins D f t := by
  cases f with
  | ret u => obtain ⟨v, τ, G, J, r, q⟩ := h; exact ⟨v, τ, G, J.ofTry ok, r, q⟩
  | next => obtain ⟨τ, G, J, q⟩ := h; exact ⟨τ, G, J.ofTry ok, q⟩
  | brk => obtain ⟨τ, G, J, q⟩ := h; exact ⟨τ, G, J.ofTry ok, q⟩
  | cont => obtain ⟨τ, G, J, q⟩ := h; exact ⟨τ, G, J.ofTry ok, q⟩
/-- a suite's end is the statement's -/
theorem sp_suite (ok : X.Ok) {a : Addr} {oe : Obj} {f : Flow} {t : Shared} (h : SP (X.suite a ((a, oe) :: (X.pn ++ pins))) [] D f t) : SP X pins D f t := by
  cases f with
  | ret u => obtain ⟨v, τ, G, J, r, q⟩ := h; exact ⟨v, τ, G, J.unsuite ok, r, q⟩
  | next => obtain ⟨τ, G, J, q⟩ := h; exact ⟨τ, G, J.unsuite ok, q⟩
  | brk => obtain ⟨τ, G, J, q⟩ := h; exact ⟨τ, G, J.unsuite ok, q⟩
  | cont => obtain ⟨τ, G, J, q⟩ := h; exact ⟨τ, G, J.unsuite ok, q⟩
/-- .. the name is unbound -/
theorem sp_gone (ok : X.Ok) {a : Addr} {oe : Obj} {n : Str} {i : Nat} {q : Pos} {f : Flow} {t : Shared} (hN : X.N.Nodup) (hi : X.N[i]? = some n) (hln : X.env.kindOf n = some .local) (h : SP (X.suite a ((a, oe) :: (X.pn ++ pins))) [] (asD i D) f t) :
    wpAny (model X.prog X.w) X.A (do bindName X.env n .none; unbindBehindTheSuite X.env n q) (fun _ t' => SP X pins D f t') X.xe t := by
  cases f with
  | ret u => obtain ⟨v, τ, G, J, r, q⟩ := h; exact gone_ok (J.unsuite ok) hN hi hln fun t' J' => ⟨v, _, _, J', r, q⟩
  | next => obtain ⟨τ, G, J, q⟩ := h; exact gone_ok (J.unsuite ok) hN hi hln fun t' J' => ⟨_, _, J', q⟩
  | brk => obtain ⟨τ, G, J, q⟩ := h; exact gone_ok (J.unsuite ok) hN hi hln fun t' J' => ⟨_, _, J', q⟩
  | cont => obtain ⟨τ, G, J, q⟩ := h; exact gone_ok (J.unsuite ok) hN hi hln fun t' J' => ⟨_, _, J', q⟩
/-- the class's name is looked up within the test -/
theorem named {x : Str} {c : Value} {np : Pos} {a : Addr} {oe : Obj} {σ : L2.St} {H : Hp} {t : Shared} {Q E : Value → Shared → Prop} (S : Inv (X.suite a ((a, oe) :: (X.pn ++ pins))) [] σ H t) (hc : Names X x c) (q : Q c t) :
    wpAny (model X.prog X.w) (X.A.mark (some (.ref a))) (eval (.Name x np) X.env) Q E t := by
  rcases hc with ⟨hg, hd, hm | ⟨hm, hv, hn⟩⟩
  · exact ld_glob S hg hm q hd
  · exact ld_blt S hg hm hv q hn hd
theorem ps_try_arms {body : List Stmt} {h₀ : ExceptHandler} {hds : List ExceptHandler} {l : List Arm} {pos : Pos} {tb : WX → TS} {Wout : WX} (hs : X.stack = X.env :: X.outer) (hf : X.env.frame = some X.env.locals) (hN : X.N.Nodup) (tk : Takes X Wout)
    (hb : ∀ (W : WX) (pn : List (Addr × Obj)) (xe : Value → Shared → Prop), Takes (X.tr pn xe) W → PassesOwn (model X.prog X.w) X.A X.env xe → PSs (X.tr pn xe) body (tb W))
    (hh : HdsA X (h₀ :: hds) l) : PS X (.Try body (h₀ :: hds) [] [] pos) (fun D σ H => tb (wManyA X.K Wout D l) D σ H) := by
  refine ⟨fun pins s σ H D I h => wpAny_Try_except ?_⟩
  have ok := I.ok
  have frm : X.A.frames = some (X.env :: X.outer) := hs ▸ ok.frames
  refine wpAny_mono ((hb _ _ (fun e t => wpAny (model X.prog X.w) X.A (noteFrame e X.env) (fun _ t1 => wpAny (model X.prog X.w) X.A (setFlight e none) (fun _ t2 =>
    wpAny (model X.prog X.w) X.A (handleBy e X.env (h₀ :: hds)) (SP X pins D) X.xe t2) X.xe t1) X.xe t) (fun u t caught => ?_) PassesOwn.looking).run [] s σ H D (I.toTry _) h) (fun f t hsp => ?_) fun _ _ z => z
  case refine_2 =>
    have z := sp_tr (pn := []) ok hsp
    cases f with
    | next => exact wpAny_execs_nil z
    | ret u => exact z
    | brk => exact z
    | cont => exact z
  obtain ⟨a, B, sI, pinsI, σ1, H1, cls, d, rfl, JI, nb, up, sky, na, os, ag, wish⟩ := caught
  have J : Inv X pins σ1 H1 sI := JI.ofTry ok
  rw [hs] at sky
  show wpAny _ X.A (noteFrame (.ref a) X.env) _ _ _
  refine Sky.land Zc.steady frm hf sky fun g fly more => ?_
  have upg := up.trans more
  obtain ⟨oe, vs, at_, z, dat⟩ := fly.there
  have out : a ∉ frs (X.env :: X.outer) := fun m => by
    obtain ⟨_, o, e, no⟩ := fly.2.2.1.mem m
    rw [at_] at e
    cases e
    exact no _ dat
  have nL : a ≠ X.env.locals := fun e => out (List.mem_filterMap.mpr ⟨_, List.mem_cons_self, by rw [hf, e]⟩)
  have nF : a ∉ X.fs := fun m => by
    obtain ⟨e, he, q⟩ := List.mem_filterMap.mp m
    exact out (List.mem_filterMap.mpr ⟨e, List.mem_cons_of_mem _ he, q⟩)
  have Jg : Inv X pins σ1 H1 { t with heap := g } := J.landed nb fly.1 upg os ag
  have Sg := Jg.suite at_ dat na nL nF
  have looks : PySem.W.Looks (model X.prog X.w) g (typeOf (.ref a)) cls := fun A Q E s k q => wpAny_typeOf_ref (k _ _ at_) (by rw [z.1]; exact q)
  have step : ∀ {hs' : List ExceptHandler} {l' : List Arm}, HdsA X hs' l' → wManyA X.K Wout D l' cls d σ1 H1 → wpAny (model X.prog X.w) X.A (handleBy (.ref a) X.env hs') (SP X pins D) X.xe { t with heap := g } := by
    intro hs' l' hk
    induction hk with
    | nil =>
      intro w
      refine wpAny_handleBy_nil ?_
      obtain ⟨_, _, _, oe', vs', T, oT, ts', e1, _, e2, e3, _⟩ := id fly
      unfold PySem.passOn
      refine wpAny_bind (wpAny_field e1 e2 e3 ?_)
      rw [if_neg (show ¬ ((Value.ref T == Value.none) = true) from by simp)]
      have fin : wpAny (model X.prog X.w) X.A (setFlight (.ref a) X.env.frame) (fun _ t4 => wpAny (model X.prog X.w) X.A (throw (.ref a) : Sem Flow) (SP X pins D) X.xe t4) X.xe { t with heap := g } := by
        rw [hf]
        exact HandSPX.setFlight_upZ fly fun g4 sky4 up4 => wpAny_throw (tk _ _ ⟨a, B, sI, pins, σ1, H1, cls, d, rfl, J, nb, upg.trans up4, .inr (.inr (by rw [hs]; exact sky4)), na, os, ag, w⟩)
      first
        | exact wpAny_bind (wpAny_pure (wpAny_bind fin))
        | exact wpAny_bind fin
    | cons hc hsu r ih =>
      rintro ⟨b, hb1, yes, no⟩
      refine wpAny_handleBy_cons (codeAny_handlers_test ?_) nofun
      refine named Sg hc ((PySem.W.exm_one (M := model X.prog X.w) Jg.kIn looks hb1).here ?_)
      cases b with
      | false => exact ih (no rfl)
      | true =>
        refine codeAny_handlers_suite (HandSPX.lands_againZ fly fun g4 fly4 up4 => ?_)
        have J4 : Inv X pins σ1 H1 { t with heap := g4 } := J.landed nb fly4.1 (upg.trans up4) os ag
        obtain ⟨oe4, vs4, at4, z4, dat4⟩ := fly4.there
        exact wpAny_mono ((hsu a oe4 cls d (X.pn ++ pins) z4 ⟨_, dat4⟩).run [] _ _ H1 _ (J4.suite at4 dat4 na nL nF) (yes rfl a na)) (fun f t6 h6 => sp_suite ok h6 |> fun y => by cases f <;> exact y) fun _ _ z => z.elim
    | as_ hi hln hc hsu r ih =>
      rintro ⟨b, hb1, yes, no⟩
      refine wpAny_handleBy_cons (codeAny_handlers_test ?_) nofun
      refine named Sg hc ((PySem.W.exm_one (M := model X.prog X.w) Jg.kIn looks hb1).here ?_)
      cases b with
      | false => exact ih (no rfl)
      | true =>
        refine codeAny_handlers_suite_as (HandSPX.lands_againZ fly fun g4 fly4 up4 => ?_)
        have J4 : Inv X pins σ1 H1 { t with heap := g4 } := J.landed nb fly4.1 (upg.trans up4) os ag
        obtain ⟨oe4, vs4, at4, z4, dat4⟩ := fly4.there
        refine store_ok (X := X.suite a ((a, oe4) :: (X.pn ++ pins))) (v := .ref a) (J4.suite at4 dat4 na nL nF) hN hi (.inl hln) rfl (fun t5 S5 => ?_) (.inr hln)
        exact wpAny_mono ((hsu a oe4 cls d (X.pn ++ pins) z4 ⟨_, dat4⟩).run [] t5 _ H1 _ S5 (yes rfl a na)) (fun f t6 h6 => by
          cases f <;> exact sp_gone ok hN hi hln h6) fun _ _ z => z.elim
  exact step hh wish
end
end TM
set_option maxHeartbeats 4000000
namespace L2
open PySem PySem.Spec PyProof.Rows
/-- a def that is called where nothing is being shown (repr) -/
structure FnG (P : Program) (w : World) (K : PySem.W.Frag) (mg : Str → Option Value) (base : Heap) (CX : CXT) (k : Nat) (f : Addr) (fd : FuncData) (ps : List Str) (sp : Sp) : Prop where
  len : ∀ vs H Q E, sp vs H Q E → vs.length = ps.length
  run : ∀ (A : Around) (outer : List Env) (s : Shared) (H : Hp) (args : Args) (us : List Value) (vs : List V) (Q : VK) (E : XK), A.guards = some [] → Room k A → Env0 P w K mg base A outer s H → BindsTo s fd args (ps.zip us) → Vals vs us → sp vs H Q E →
    codeAny (model P w) A (.call (.ref f) args) (CR CX outer P w H s Q E) s
def HasG (P : Program) (w : World) (K : PySem.W.Frag) (mg : Str → Option Value) (base : Heap) (CX : CXT) (k : Nat) (x : Str) (ps : List Str) (sp : Sp) : Prop :=
  mg x = some (.ref (He.ga K x)) ∧ PySem.W.keepIn K (.ref (He.ga K x)) = true ∧ ∃ fd, FnG P w K mg base CX k (He.ga K x) fd ps sp ∧ Binds K fd ps []
theorem hasG_of {P : Program} {w : World} {K : PySem.W.Frag} {mg : Str → Option Value} {base : Heap} {CX : CXT} {k : Nat} {x : Str} {params : Arguments} {body : List Stmt} {scope : Scope} {fd : FuncData} {N ps : List Str} {sp : Sp}
    (g : mg x = some (.ref (He.ga K x))) (F : FunD K x x params body scope [] [] (He.ga K x) fd) (S : FnScope N ps scope)
    (hb : ∀ (kV doc pm : Value) (an : Option Addr) (cdv ct : Value) (us : List Value), us.length = ps.length → bindArgs (PySem.W.fnOf x x params body scope .none kV doc pm an cdv ct) ⟨us, []⟩ = pure (ps.zip us))
    (len : ∀ vs H Q E, sp vs H Q E → vs.length = ps.length)
    (hbody : ∀ (cdv : Value) (A : Around) (outer : List Env) (s : Shared) (H : Hp) (vs : List V) (Q : VK) (E : XK), A.guards = some [] → Room k (A.deeper (envOfC x scope s.heap.objs.size (He.ga K x) cdv)) → sp vs H Q E →
      ∃ t, PSs (cxOf CX P w K mg base N x scope (He.ga K x) cdv A outer s H E) body t ∧ t { nx := fun _ H' => Q .non H', rt := Q } (start N vs) H) : HasG P w K mg base CX (k + 1) x ps sp := by
  refine ⟨g, F.kp, fd, ⟨len, fun A outer s H args us vs Q E hg hr e0 hbd r h => ?_⟩, F.bindsN hb⟩
  obtain ⟨oc, od, dV, kV, doc, pm, an, cdv, ct, osl, rfl, lk, hcd, _, _⟩ := F.ex
  exact LamX.run_ofS lk hcd S hr e0 hbd r (len _ _ _ _ h) fun hr' => hbody _ A outer s H vs Q E hg hr' h
section
variable {X : Cx} {CX : CXT} {k : Nat} {f : Addr} {fd : FuncData} {ps : List Str} {sp : Sp} {E : XK} {x : Str} {p pos : Pos} {e : Expr} {es : List Expr} {t : TA}
theorem pe_callG (F : FnG X.prog X.w X.K X.mg X.base CX k f fd ps sp) (gd : X.A.guards = some []) (hr : Room k X.A) (hg : Gl X x) (hm : X.mg x = some (.ref f)) (hk : PySem.W.keepIn X.K (.ref f) = true) (hb : Binds X.K fd ps []) (hx : Passes CX X E)
    (ha : PA X (e :: es) t) (hdb : (x == ("__debug__" : Str)) = false := by decide) (he : starEach (e :: es) X.env = (false, eval e X.env) :: starEach es X.env := by rfl) (hpl : (backTo pos (starEach es X.env)).any (·.1) = false := by rfl) :
    PE X (.Call (.Name x p) (e :: es) [] pos) (tCall sp [] E t) := by
  refine ⟨fun pins s σ H Q I h => ?_⟩
  refine wpAny_Call_Name_kw (ld_glob I hg hm ?_ hdb)
  refine PySem.W.callWith_K (h₀ := X.base) I.ok.mod.kin hk (thn (ha.run pos pins s σ H _ I h) fun us s1 ⟨vs, H1, J, r, q⟩ => ⟨J.kIn, ?_⟩) he hpl
  have q' : sp vs H1 Q E := by
    have z : sp (vs ++ []) H1 Q E := q
    rw [List.append_nil] at z
    exact z
  have ln : us.length = ps.length := by
    rw [← r.length]
    exact F.len _ _ _ _ q'
  have bd := hb s1 us J.kIn (by rw [List.append_nil]; exact ln)
  rw [List.append_nil] at bd
  refine wpAny_call (codeAny_mono (F.run X.A X.stack s1 H1 ⟨us, []⟩ us vs Q E gd hr J.env0 bd r q') fun r s' hq => ?_)
  match r, hq with
  | .error e, hq => exact hx pins σ H1 s1 e s' J hq
  | .ok (.ret u), hq => exact J.after hq
  | .ok .next, hq => exact hq.elim
  | .ok .brk, hq => exact hq.elim
  | .ok .cont, hq => exact hq.elim
end
end L2
set_option maxHeartbeats 4000000
namespace L2
open PySem PySem.Spec PyProof.Rows
/-- from the head's heap: the law is called, nothing is being shown, one table of codes (of the def itself) -/
theorem law_callG {P : Program} {w : World} {K : PySem.W.Frag} {mg mb : Str → Option Value} {CX : CXT} {k : Nat} {fa a cd Pt : Addr} {fd : FuncData} {x : Str} {sp : Sp} {s : Shared} {us : List Value} {ns : List Int}
    (KX : K.In s.heap) (gl : s.heap.Ns mainGlobals mg) (bl : s.heap.Ns builtinsNs mb) (bo : ∀ x : Str, x ≠ "__name__" → mb x = bootBuiltins x) (lim : s.heap.NoLimit) (gens : s.gens = #[])
    (hT : s.heap.get? Pt = some { cls := .none, data := .fields #[] }) (nT : K.lookup Pt = none) (C : PySem.W.CodeHd s.heap cd Pt)
    (hbm : ∃ (bm : Addr) (ob : Obj), mg "__builtins__" = some (.ref bm) ∧ bm ≠ builtinsNs ∧ s.heap.get? bm = some ob ∧ ob.cls = .type "module" ∧ ob.dict = some builtinsNs ∧ ob.data = .plain)
    (ha : s.heap.get? a = some { cls := .type "list", data := .seq us.toArray }) (hi : IntsAre us ns) (hl : ns.length ≤ sizeLine) (hr : Room k callerA)
    (F : ∀ base : Heap, K.In base → base.Ns mainGlobals mg → LamX.TabB base mg cd Pt → FnG P w K mg base CX k fa fd [x] sp) (hbind : ∀ (s : Shared) (u : Value), BindsTo s fd ⟨[u], []⟩ [(x, u)])
    (hsp : ∀ H : Hp, H Pt = some (.tbl #[]) → SqL K H a (ns.map V.int) → sp [.ref a] H (fun v _ => v = .bl true) fun _ _ _ => False)
    (hCX : ∀ H e s', CX [] H s (fun _ _ _ => False) e s' → False) :
    codeAny (model P w) callerA (.call (.ref fa) ⟨[.ref a], []⟩) (fun r s' => r = .ok (.ret (.bool true)) ∧ OldK s.heap s'.heap ∧ s'.os = s.os ∧ AllBare s'.gens) s := by
  have rv := vals_ints hi
  have lenV := hi.length
  have naP : a ≠ Pt := fun z => by
    rw [z, hT] at ha
    have z' : Data.fields #[] = Data.seq us.toArray _ := congrArg Obj.data (Option.some.inj ha)
    cases z'
  have go : ∀ H : Hp, H Pt = some (.tbl #[]) → (∀ b, b ≠ Pt → H b ≠ none → b = a ∧ K.lookup a = none ∧ ∃ xs, H b = some (.frz { cls := .type "list", data := .seq us.toArray } (.lst xs))) → SqL K H a (ns.map V.int) → HOk P w H s.heap →
      codeAny (model P w) callerA (.call (.ref fa) ⟨[.ref a], []⟩) (fun r s' => r = .ok (.ret (.bool true)) ∧ OldK s.heap s'.heap ∧ s'.os = s.os ∧ AllBare s'.gens) s := by
    intro H hP hO hS hok
    have clear : ∀ {b : Addr} {o : Obj}, s.heap.get? b = some o → b ≠ Pt → (b = a → K.lookup a = none → False) → (hidT s.heap H).get? b = some o := fun {b o} e n1 n2 => by
      refine hidT_get e ?_
      cases q : H b with
      | none => rfl
      | some u =>
        obtain ⟨z1, z2, _⟩ := hO b n1 (by rw [q]; simp)
        exact (n2 z1 z2).elim
    have notP : ∀ {b : Addr} {o : Obj}, s.heap.get? b = some o → o.data ≠ .fields #[] → b ≠ Pt := fun {b o} e n z => by
      rw [z, hT] at e
      cases e
      exact n rfl
    have notA : ∀ {b : Addr} {o : Obj}, s.heap.get? b = some o → (∀ vs n, o.data ≠ .seq vs n) → b = a → K.lookup a = none → False := fun {b o} e n z _ => by
      rw [z, ha] at e
      cases e
      exact n _ _ rfl
    have nsB : ∀ {b : Addr} {m : Str → Option Value}, s.heap.Ns b m → (hidT s.heap H).Ns b m := fun {b m} ⟨o, es, ep, e, d, r⟩ =>
      ⟨o, es, ep, clear e (notP e (by rw [d]; exact fun z => nomatch z)) (notA e fun vs n => by rw [d]; exact fun z => nomatch z), d, r⟩
    have KB : K.In (hidT s.heap H) := fun b o e => clear (KX b o e) (fun z => by rw [z, nT] at e; cases e) (fun z1 z2 => by rw [z1, z2] at e; cases e)
    have M : L2.Mod K mg (hidT s.heap H) := ⟨KB, nsB gl, ⟨mb, nsB bl, bo⟩, let ⟨mc, h1, h2⟩ := lim; ⟨mc, nsB h1, h2⟩⟩
    have TB : LamX.TabB (hidT s.heap H) mg cd Pt := by
      refine ⟨?_, ?_, fun z => ?_⟩
      · obtain ⟨o, vs, file, tf, flags, tg, inF, text, tt, e1, r1, r2, r3, rest⟩ := C
        refine ⟨o, vs, file, tf, flags, tg, inF, text, tt, clear e1 (notP e1 fun z => ?_) (notA e1 fun vs' n => by rw [r2]; exact fun z => nomatch z), r1, r2, r3, rest⟩
        rw [r2] at z
        cases z
        simp at r3
      · obtain ⟨bm, ob, b1, b2, b3, b4, b5, b6⟩ := hbm
        have nG : bm ≠ mainGlobals := fun q => by
          obtain ⟨o, es, ep, e, d, _⟩ := gl
          rw [q, e] at b3
          cases b3
          rw [d] at b6
          cases b6
        have nP := notP b3 (by rw [b6]; exact fun z => nomatch z)
        exact ⟨bm, ob, b1, b2, nG, nP, clear b3 nP (notA b3 fun vs n => by rw [b6]; exact fun z => nomatch z), b4, b5, b6⟩
      · obtain ⟨o, es, ep, e, d, _⟩ := gl
        exact notP e (by rw [d]; exact fun z => nomatch z) z
    have e0 : Env0 P w K mg (hidT s.heap H) callerA [] s H := ⟨rfl, M, fun b o e => of_hidT e, Nat.le_of_eq (hidT_size _ _), trivial, fun b hb => absurd (show b ∈ ([] : List Addr) from hb) (by simp), hok, .of_eq gens⟩
    refine codeAny_mono ((F _ KB (nsB gl) TB).run callerA [] s H ⟨[.ref a], []⟩ [.ref a] [.ref a] _ _ rfl hr e0 (hbind s (.ref a)) (.cons rfl .nil) (hsp H hP hS)) fun r s' h => ?_
    match r, h with
    | .error e, h => exact (hCX H e s' h).elim
    | .ok .next, h => exact h.elim
    | .ok .brk, h => exact h.elim
    | .ok .cont, h => exact h.elim
    | .ok (.ret u), h =>
      obtain ⟨v, H', os, bare, un, hok', r', q⟩ := h
      have q' : v = .bl true := q
      subst q'
      obtain rfl : u = Value.bool true := r'
      have kept : ∀ b o, b ≠ Pt → s.heap.get? b = some o → s'.heap.get? b = some o := fun b o nb e => by
        cases q : H b with
        | none => exact un.keep b o e q (by intro z; exact absurd (show b ∈ ([] : List Addr) from z) (by simp)) (by simp)
        | some u =>
          obtain ⟨_, _, xs, z⟩ := hO b nb (by rw [q]; simp)
          obtain ⟨e1, _⟩ := hok b _ z
          obtain ⟨e2, _⟩ := hok' b _ (un.frzs b _ _ z)
          rw [e] at e1
          cases e1
          exact e2
      obtain ⟨more, grew⟩ := un.tbls Pt #[] hP
      have tab' : s'.heap.get? Pt = some { cls := .none, data := .fields (#[] ++ more) } := hok' Pt _ grew
      refine ⟨rfl, ⟨fun b o e => ?_, fun b o e => ?_⟩, os, bare⟩
      · by_cases hb : b = Pt
        · subst hb
          rw [hT] at e
          cases e
          exact .inr (.inl ⟨(C.tab hT).isCodeTable, rfl, #[], more, rfl, tab'⟩)
        · exact .inl (kept b o hb e)
      · by_cases hb : b = Pt
        · subst hb
          exact ⟨_, tab'⟩
        · exact ⟨o, kept b o hb e⟩
  cases hk : K.lookup a with
  | some o =>
    have e := KX a o hk
    rw [ha] at e
    cases e
    refine go (fun b => if b = Pt then some (.tbl #[]) else none) (if_pos rfl) (fun b n z => absurd (if_neg n) z) (.inr ⟨_, us.toArray, _, hk, rfl, rfl, rfl, by rw [List.size_toArray, lenV]; exact hl, by simpa using rv⟩) (fun b u z => ?_)
    by_cases hb : b = Pt
    · have z' := (if_pos hb).symm.trans z
      cases z'
      subst hb
      exact hT
    · have z' := (if_neg hb).symm.trans z
      cases z'
  | none =>
    refine go (fun b => if b = Pt then some (.tbl #[]) else if b = a then some (.frz { cls := .type "list", data := .seq us.toArray } (.lst (ns.map V.int))) else none) (if_pos rfl) (fun b n z => ?_) (.inl (.inr ⟨{ cls := .type "list", data := .seq us.toArray }, (if_neg naP).trans (if_pos rfl)⟩)) (fun b u z => ?_)
    · by_cases hb : b = a
      · exact ⟨hb, hk, _, (if_neg n).trans (if_pos hb)⟩
      · exact absurd ((if_neg n).trans (if_neg hb)) z
    · by_cases hb : b = Pt
      · have z' := (if_pos hb).symm.trans z
        cases z'
        subst hb
        exact hT
      · have z1 := (if_neg hb).symm.trans z
        by_cases hb2 : b = a
        · have z' := (if_pos hb2).symm.trans z1
          cases z'
          subst hb2
          exact ⟨ha, by rw [List.length_map]; exact hl, us, _, rv, ha⟩
        · have z' := (if_neg hb2).symm.trans z1
          cases z'
end L2
namespace LamX
open PySem PySem.Spec PyProof.Rows L2
/-- what is known of the law at the head's heap h, its table Pt still empty -/
def LawG (l : PySem.W.OpenLaw) (w : World) (K : PySem.W.Frag) (CX : CXT) (k n : Nat) (x : Str) (mg : Str → Option Value) (fa : Addr) (h : Heap) : Prop :=
  ∃ (fd : FuncData) (cd Pt : Addr) (sp : Sp), h.get? Pt = some { cls := .none, data := .fields #[] } ∧ K.lookup Pt = none ∧ PySem.W.CodeHd h cd Pt ∧ (∀ (s : Shared) (u : Value), BindsTo s fd ⟨[u], []⟩ [(x, u)]) ∧
    (∀ (H : Hp) (a : Addr) (ns : List Int), ns.length ≤ n → (∀ z ∈ ns, Builtin.Int.intBits z ≤ 1048576) → H Pt = some (.tbl #[]) → SqL K H a (ns.map V.int) → sp [.ref a] H (fun v _ => v = .bl true) fun _ _ _ => False) ∧
    ∀ base : Heap, K.In base → base.Ns mainGlobals mg → TabB base mg cd Pt → FnG l.prog w K mg base CX k fa fd [x] sp
theorem walk_ofOwnG {l : PySem.W.OpenLaw} {n k : Nat} {q : Program} {loose : List Str} {XP : (Str → Option Value) → Heap → Prop} {YP : World → Heap → Prop} {d : DefRec} {CX : World → CXT} {x : Str}
    (hn : l.most = some n) (hn2 : n ≤ sizeLine) (hdf : d.params.defaults = []) (hr : Room k callerA) (hrec : ((recsOf q).any fun e => e.name == d.name) = true)
    (F : ∀ (w : World) (mg : Str → Option Value) (fa : Addr) (h : Heap), YP w h → h.Ns mainGlobals mg → mg d.name = some (.ref fa) → ∃ K : PySem.W.Frag, K.In h ∧ (OwnTab K fa h → LawG l w K (CX w) k n x mg fa h))
    (hCX : ∀ (w : World) (H : Hp) (s : Shared) (e : Value) (s' : Shared), CX w [] H s (fun _ _ _ => False) e s' → False) :
    PySem.W.WalkO q loose XP YP l.row.toRowW d [] (fun f vs => PySem.call f vs) := by
  refine Att.attach_callB hn hdf fun w s₀ s₁ mg mb fa o pm cd doc a vs ns G Y ho hd hcd hmg hobj hints hlen hbits hg => ?_
  obtain ⟨K, KX, F2⟩ := F w mg fa _ Y G.T.g hmg
  have own : OwnTab K fa s₁.heap := fun c P o1 fd1 e dd vs1 sl k1 k2 k3 k4 k5 => by
    obtain ⟨dL, hm, hn1⟩ := List.any_eq_true.mp hrec
    have hn2 : dL.name = d.name := beq_iff_eq.mp hn1
    obtain ⟨a', o', fd', c', P', h1, h2, h3, h4, h5, h6⟩ := G.T.tab dL hm
    rw [hn2, hmg] at h1
    cases h1
    have g1 := KX _ _ k1
    rw [g1] at h2
    cases h2
    rw [k2] at h3
    cases h3
    rw [k3] at h4
    cases h4
    obtain ⟨⟨oc, vc, e1, _, e3, e4⟩, hP⟩ := h6
    have g2 := KX _ _ k4
    rw [g2] at e1
    cases e1
    cases e3
    rw [k5] at e4
    cases e4
    exact hP
  obtain ⟨fd, c1, P1, sp, hT, nT, C, hb, hsp, hF⟩ := F2 own
  exact law_callG KX G.T.g G.T.b G.T.builtins G.T.nolimit hg hT nT C G.T.bmain hobj hints (Nat.le_trans hlen hn2) hr hF hb (fun H hH hS => hsp H a ns hlen hbits hH hS) fun H e s' => hCX w H s₁ e s'
end LamX
set_option maxHeartbeats 4000000
namespace L2
open PySem PySem.Spec PyProof.Rows
/-- a def that raises nothing, called where an exception p is handled; p may be asked for its class -/
structure FnP (P : Program) (w : World) (K : PySem.W.Frag) (mg : Str → Option Value) (base : Heap) (CX : CXT) (k : Nat) (f : Addr) (fd : FuncData) (ps : List Str) (sp : Addr × Obj → Sp) : Prop where
  len : ∀ p vs H Q E, sp p vs H Q E → vs.length = ps.length
  run : ∀ (A : Around) (outer : List Env) (s : Shared) (H : Hp) (args : Args) (us : List Value) (vs : List V) (Q : VK) (E : XK) (p : Addr × Obj), L2H.RoomH k A → L2H.PinOk outer H s p → Env0 P w K mg base A outer s H → BindsTo s fd args (ps.zip us) → Vals vs us → sp p vs H Q E →
    codeAny (model P w) A (.call (.ref f) args) (CR CX outer P w H s Q E) s
theorem fnP_of {CX : CXT} {P : Program} {w : World} {K : PySem.W.Frag} {mg : Str → Option Value} {base : Heap} {k : Nat} {f : Addr} {name qual : Str} {params : Arguments} {body : List Stmt} {scope : Scope} {fd : FuncData} {N ps : List Str} {sp : Addr × Obj → Sp}
    (F : FunD K name qual params body scope [] [] f fd) (hq : name = qual) (S : FnScope N ps scope) (len : ∀ p vs H Q E, sp p vs H Q E → vs.length = ps.length)
    (hbody : ∀ (cdv : Value) (A : Around) (outer : List Env) (s : Shared) (H : Hp) (vs : List V) (Q : VK) (E : XK) (p : Addr × Obj), L2H.RoomH k (A.deeper (envOfC qual scope s.heap.objs.size f cdv)) → sp p vs H Q E →
      ∃ t, PSs (L2H.cxH CX P w K mg base N qual scope f cdv A outer s H E p) body t ∧ t { nx := fun _ H' => Q .non H', rt := Q } (L2.start N vs) H) : FnP P w K mg base CX (k + 1) f fd ps sp := by
  obtain ⟨oc, od, dV, kV, doc, pm, an, cdv, ct, osl, rfl, lk, hcd, _, _⟩ := F.ex
  refine ⟨len, fun A outer s H args us vs Q E p hr hpin e0 hb r hsp => ?_⟩
  have ln := len _ _ _ _ _ hsp
  have KX : K.In s.heap := e0.mod.kin.keeps fun b o e => (e0.bs b o e).1
  have lim : s.heap.NoLimit := e0.mod.nolimit.keeps fun b o e => (e0.bs b o e).1
  refine codeAny_call_function hr.depth (KX _ _ lk) rfl S.co S.gen rfl (PySem.W.codeRec_of KX hcd) (hb _ _ _ _ ?_)
  refine wpAny_newFunctionEnv_cells S.kind (fun y hy => ?_) fun env he s1 x => ?_
  · rcases S.par y.1 (List.of_mem_zip hy).1 with q | q
    · exact .inl q
    · exact .inr ⟨q, PySem.W.cellsFrom_some _ _ _ (.inl q)⟩
  subst he
  refine ⟨lim.keeps x.toInCall.keep, codeAny_func ?_⟩
  obtain ⟨t, ht, tq⟩ := hbody cdv A outer s H vs Q E p (hr.deeper _) hsp
  have J := L2H.inv_startH (CX := CX) (E := E) (cd := cdv) S hpin e0 ln r x
  refine wpAny_mono (ht.run [] s1 (L2.start N vs) H _ J tq) (fun fl s' hs => ?_) fun e s' hs => hs
  have fin : ∀ {σ' : St} {H' : Hp} {v : V} {u : Value}, Inv (L2H.cxH CX P w K mg base N qual scope f cdv A outer s H E p) [] σ' H' s' → RelV v u → Q v H' → CE outer P w H s Q u s' := fun {σ' H' v u} I rv q => ⟨v, H', I.os, I.bare, I.base, I.hok, rv, q⟩
  match fl, hs with
  | .ret u, ⟨v, σ', H', I, rv, q⟩ => exact fin I rv q
  | .next, ⟨σ', H', I, q⟩ => exact fin (v := V.non) (u := Value.none) I rfl q
  | .brk, ⟨_, _, _, q⟩ => exact q.elim
  | .cont, ⟨_, _, _, q⟩ => exact q.elim
section
variable {X : Cx} {CX : CXT} {k : Nat} {f : Addr} {fd : FuncData} {ps : List Str} {sp : Addr × Obj → Sp} {E : XK} {x : Str} {q pos : Pos} {e : Expr} {es : List Expr} {t : TA} {p : Addr × Obj}
theorem pe_callP (F : FnP X.prog X.w X.K X.mg X.base CX k f fd ps sp) (hr : L2H.RoomH k X.A) (hp : p ∈ X.pn) (hg : Gl X x) (hm : X.mg x = some (.ref f)) (hk : PySem.W.keepIn X.K (.ref f) = true) (hb : Binds X.K fd ps []) (hx : Passes CX X E)
    (ha : PA X (e :: es) t) (hdb : (x == ("__debug__" : Str)) = false := by decide) (he : starEach (e :: es) X.env = (false, eval e X.env) :: starEach es X.env := by rfl) (hpl : (backTo pos (starEach es X.env)).any (·.1) = false := by rfl) :
    PE X (.Call (.Name x q) (e :: es) [] pos) (tCall (sp p) [] E t) := by
  refine ⟨fun pins s σ H Q I h => ?_⟩
  refine wpAny_Call_Name_kw (ld_glob I hg hm ?_ hdb)
  refine PySem.W.callWith_K (h₀ := X.base) I.ok.mod.kin hk (thn (ha.run pos pins s σ H _ I h) fun us s1 ⟨vs, H1, J, r, q⟩ => ⟨J.kIn, ?_⟩) he hpl
  have q' : sp p vs H1 Q E := by
    have z : sp p (vs ++ []) H1 Q E := q
    rw [List.append_nil] at z
    exact z
  have ln : us.length = ps.length := by
    rw [← r.length]
    exact F.len _ _ _ _ _ q'
  have bd := hb s1 us J.kIn (by rw [List.append_nil]; exact ln)
  rw [List.append_nil] at bd
  have P1 := J.pin p (List.mem_append_left _ hp)
  have hpin : L2H.PinOk X.stack H1 s1 p := ⟨P1.1, P1.2.1, fun hm => (List.mem_cons.mp (J.stkSub p.1 hm)).elim P1.2.2.1 P1.2.2.2.1, P1.2.2.2.2⟩
  refine wpAny_call (codeAny_mono (F.run X.A X.stack s1 H1 ⟨us, []⟩ us vs Q E p hr hpin J.env0 bd r q') fun r s' hq => ?_)
  match r, hq with
  | .error e, hq => exact hx pins σ H1 s1 e s' J hq
  | .ok (.ret u), hq => exact J.after hq
  | .ok .next, hq => exact hq.elim
  | .ok .brk, hq => exact hq.elim
  | .ok .cont, hq => exact hq.elim
end
end L2
set_option maxHeartbeats 4000000
/-! Small things that each law's texts want. -/
namespace PB
open PySem PySem.Spec PyProof.Rows L2 He Hx Hy PO
theorem memb {α : Type} [DecidableEq α] {x : α} {l : List α} (h : (l.any fun y => decide (y = x)) = true) : x ∈ l := by
  obtain ⟨y, hy, e⟩ := List.any_eq_true.mp h
  have e2 := of_decide_eq_true e
  rw [← e2]
  exact hy
theorem excC_ok {K : PySem.W.Frag} {C : Addr} (h : excCB K C = true) : ExcC K C := by
  obtain ⟨h1, h⟩ := ba h
  obtain ⟨h2, h⟩ := ba h
  obtain ⟨h3, h⟩ := ba h
  obtain ⟨h4, h⟩ := ba h
  obtain ⟨h5, h⟩ := ba h
  obtain ⟨h6, h⟩ := ba h
  obtain ⟨h7, h8⟩ := ba h
  exact ⟨eqO_ok h1, eqO_ok h2, of_decide_eq_true h3, h4, eqO_ok h5, eqO_ok h6, of_decide_eq_true h7, of_decide_eq_true h8⟩
theorem clsB_ok {K : PySem.W.Frag} {C : Addr} {bm : List Value} {newId : String} (h : clsB K C bm newId = true) :
    ∃ nm q N bs sn sub ab col dd k0 k1 k2 k3 k5, K.lookup C = some (excClassObj nm q C N bs bm true sn sub ab col dd k0 k1 k2 k3 k5 newId) := by
  unfold clsB at h
  split at h
  · rename_i dd cd sl hk
    split at h
    · rename_i k0 k1 k2 k3 n k5 hs
      obtain ⟨h1, h⟩ := ba h
      obtain ⟨h2, h⟩ := ba h
      obtain ⟨h3, h4⟩ := ba h
      have e1 := of_decide_eq_true h1
      have e2 := of_decide_eq_true h2
      have e4 : cd.hasDel = false := by simpa using h4
      obtain ⟨nm, bs, mro, ns, qn, hd, sn, sub, ab, col, del⟩ := cd
      dsimp only at e2 h3 e4
      subst e1 e2 h3 e4
      have hsl : sl = #[k0, k1, k2, k3, some (.builtin n), k5] := by
        obtain ⟨l⟩ := sl
        simp only at hs
        rw [hs]
      subst hsl
      exact ⟨nm, qn, ns, bs, sn, sub, ab, col, dd, k0, k1, k2, k3, k5, hk⟩
    · cases h
  · cases h
theorem initB_ok {K : PySem.W.Frag} {x f : String} {bm : List Value} {newId : String} (h : initB K x f bm newId = true) :
    (∃ nm q N bs sn sub ab col dd k0 k1 k2 k3 k5, K.lookup (ga K x) = some (excClassObj nm q (ga K x) N bs bm true sn sub ab col dd k0 k1 k2 k3 k5 newId)) ∧ PySem.W.findIn K (.ref (ga K x)) "__setattr__" = some (some (.builtin "object.__setattr__")) ∧
    PySem.W.findIn K (.ref (ga K x)) f = some none ∧ PySem.W.findIn K (.ref (ga K x)) "__init__" = some (some (.ref (ma K (ga K x) "__init__"))) ∧ PySem.W.typeIn K (.ref (ma K (ga K x) "__init__")) = some (.type "function") ∧ PySem.W.keepIn K (.ref (ga K x)) = true := by
  obtain ⟨h1, h⟩ := ba h
  obtain ⟨h2, h⟩ := ba h
  obtain ⟨h3, h⟩ := ba h
  obtain ⟨h4, h⟩ := ba h
  obtain ⟨h5, h6⟩ := ba h
  exact ⟨clsB_ok h1, eqO_ok h2, eqO_ok h3, eqO_ok h4, of_decide_eq_true h5, h6⟩
theorem tail_Index : PySem.XT.TailT "IndexError" tlIndexError := ⟨by decide +kernel, by decide +kernel, by decide +kernel, by decide +kernel, fun self => by kernel_rfl⟩
theorem tail_Over : PySem.XT.TailT "OverflowError" tlOverflowError := ⟨by decide +kernel, by decide +kernel, by decide +kernel, by decide +kernel, fun self => by kernel_rfl⟩
theorem tail_Arith : PySem.XT.TailT "ArithmeticError" tlArithmeticError := ⟨by decide +kernel, by decide +kernel, by decide +kernel, by decide +kernel, fun self => by kernel_rfl⟩
/-! ### properties -/
theorem prop_ok {K : PySem.W.Frag} {C f : Str} (h : propB K C f = true) : PropOf K (ga K C) f (ma K (ga K C) f) (propG K C f) := by
  obtain ⟨h1, h⟩ := ba h
  obtain ⟨h2, h⟩ := ba h
  obtain ⟨h3, h⟩ := ba h
  split at h
  · rename_i g rest e
    have e2 := of_decide_eq_true h
    subst e2
    exact ⟨eqO_ok h1, eqO_ok h2, of_decide_eq_true h3, rest, e⟩
  · cases h
/-! ### isinstance(x, C) -/
theorem isf_ok {K : PySem.W.Frag} {x : Str} (h : isfB K x = true) : IsF K (ga K x) := by
  obtain ⟨h1, h⟩ := ba h
  obtain ⟨h2, h⟩ := ba h
  obtain ⟨h3, h⟩ := ba h
  obtain ⟨h4, h⟩ := ba h
  obtain ⟨h5, h⟩ := ba h
  obtain ⟨h6, h7⟩ := ba h
  have t : ∀ t, (["NoneType", "bool", "int", "str", "list", "tuple", "dict"].any fun y => decide (y = t)) = true → PySem.W.kitOne K (.type t) (.ref (ga K x)) = some false := fun t q => of_decide_eq_true (List.all_eq_true.mp h2 t (memb q))
  exact ⟨t _ (by decide +kernel), t _ (by decide +kernel), t _ (by decide +kernel), t _ (by decide +kernel), t _ (by decide +kernel), t _ (by decide +kernel), t _ (by decide +kernel), of_decide_eq_true h3,
    fun e => .ins e (cls_ok h1) (eqO_ok h4) (eqO_ok h5) (of_decide_eq_true h6) (of_decide_eq_true h7)⟩
/-! ### classmethods, tuples held by globals -/
theorem cread_of {K : PySem.W.Frag} {C : Addr} (h0 : PySem.W.readsIn K C (.type "type") = true) : ClX.CRead K C (.type "type") := by
  refine ⟨h0, ?_⟩
  have h := h0
  unfold PySem.W.readsIn at h
  obtain ⟨h, _⟩ := ba h
  obtain ⟨h, _⟩ := ba h
  obtain ⟨h, h3⟩ := ba h
  obtain ⟨_, h2⟩ := ba h
  unfold PySem.W.specialIn
  rw [beq_iff_eq.mp h2, Option.bind_some]
  exact beq_iff_eq.mp h3
theorem cm_ok {K : PySem.W.Frag} {C m : Str} (h : cmB K C m = true) : ClX.CRead K (ga K C) (.type "type") ∧ ClX.CMet K (ga K C) (.type "type") m (ma K (ga K C) m) (fAdP K (C, some m)) := by
  obtain ⟨h1, h⟩ := ba h
  obtain ⟨h2, h⟩ := ba h
  obtain ⟨h3, h4⟩ := ba h
  have e := of_decide_eq_true h4
  obtain ⟨k1, k2⟩ := He5.wrapB_ok h2
  rw [e] at h3 k2
  exact ⟨cread_of h1, k1, k2, h3⟩
end PB
namespace L2
open PySem PySem.Spec PyProof.Rows
/-! ### a def of the text, its promise, its binding -/
def HasA (P : Program) (w : World) (K : PySem.W.Frag) (mg : Str → Option Value) (base : Heap) (CX : CXT) (k : Nat) (f : Addr) (ps : List Str) (sp : Sp) : Prop :=
  PySem.W.keepIn K (.ref f) = true ∧ ∃ fd, FnOk P w K mg base CX k f fd ps sp ∧ Binds K fd ps []
def Has (P : Program) (w : World) (K : PySem.W.Frag) (mg : Str → Option Value) (base : Heap) (CX : CXT) (k : Nat) (x : Str) (ps : List Str) (sp : Sp) : Prop :=
  mg x = some (.ref (He.ga K x)) ∧ HasA P w K mg base CX k (He.ga K x) ps sp
theorem hasA_of {P : Program} {w : World} {K : PySem.W.Frag} {mg : Str → Option Value} {base : Heap} {CX : CXT} {k : Nat} {f : Addr} {x q : Str} {params : Arguments} {body : List Stmt} {scope : Scope} {fd : FuncData} {N ps : List Str} {sp : Sp}
    (F : FunD K x q params body scope [] [] f fd) (S : FnScope N ps scope)
    (hb : ∀ (kV doc pm : Value) (an : Option Addr) (cdv ct : Value) (us : List Value), us.length = ps.length → bindArgs (PySem.W.fnOf x q params body scope .none kV doc pm an cdv ct) ⟨us, []⟩ = pure (ps.zip us))
    (len : ∀ vs H Q E, sp vs H Q E → vs.length = ps.length)
    (hbody : ∀ (cdv : Value) (A : Around) (outer : List Env) (s : Shared) (H : Hp) (vs : List V) (Q : VK) (E : XK), Room k (A.deeper (envOfC q scope s.heap.objs.size f cdv)) → sp vs H Q E →
      ∃ t, PSs (cxOf CX P w K mg base N q scope f cdv A outer s H E) body t ∧ t { nx := fun _ H' => Q .non H', rt := Q } (start N vs) H) : HasA P w K mg base CX (k + 1) f ps sp :=
  ⟨F.kp, fd, F.ok S len hbody, F.bindsN hb⟩
theorem has_of {P : Program} {w : World} {K : PySem.W.Frag} {mg : Str → Option Value} {base : Heap} {CX : CXT} {k : Nat} {x : Str} {params : Arguments} {body : List Stmt} {scope : Scope} {fd : FuncData} {N ps : List Str} {sp : Sp}
    (g : mg x = some (.ref (He.ga K x))) (F : FunD K x x params body scope [] [] (He.ga K x) fd) (S : FnScope N ps scope)
    (hb : ∀ (kV doc pm : Value) (an : Option Addr) (cdv ct : Value) (us : List Value), us.length = ps.length → bindArgs (PySem.W.fnOf x x params body scope .none kV doc pm an cdv ct) ⟨us, []⟩ = pure (ps.zip us))
    (len : ∀ vs H Q E, sp vs H Q E → vs.length = ps.length)
    (hbody : ∀ (cdv : Value) (A : Around) (outer : List Env) (s : Shared) (H : Hp) (vs : List V) (Q : VK) (E : XK), Room k (A.deeper (envOfC x scope s.heap.objs.size (He.ga K x) cdv)) → sp vs H Q E →
      ∃ t, PSs (cxOf CX P w K mg base N x scope (He.ga K x) cdv A outer s H E) body t ∧ t { nx := fun _ H' => Q .non H', rt := Q } (start N vs) H) : Has P w K mg base CX (k + 1) x ps sp :=
  ⟨g, hasA_of F S hb len hbody⟩
theorem fnG_at {P : Program} {w : World} {K : PySem.W.Frag} {mg : Str → Option Value} {base : Heap} {CX : CXT} {k : Nat} {x : Str} {f : Addr} {params : Arguments} {body : List Stmt} {scope : Scope} {fd : FuncData} {N ps : List Str} {sp : Sp} {cdv : Value}
    (F : FunD K x x params body scope [] [] f fd) (hc : fd.code = cdv) (S : FnScope N ps scope) (len : ∀ vs H Q E, sp vs H Q E → vs.length = ps.length)
    (hbody : ∀ (A : Around) (outer : List Env) (s : Shared) (H : Hp) (vs : List V) (Q : VK) (E : XK), A.guards = some [] → Room k (A.deeper (envOfC x scope s.heap.objs.size f cdv)) → sp vs H Q E →
      ∃ t, PSs (cxOf CX P w K mg base N x scope f cdv A outer s H E) body t ∧ t { nx := fun _ H' => Q .non H', rt := Q } (start N vs) H) : FnG P w K mg base CX (k + 1) f fd ps sp := by
  obtain ⟨oc, od, dV, kV, doc, pm, an, cdv', ct, osl, rfl, lk, hcd, _, _⟩ := F.ex
  have e : cdv' = cdv := hc
  subst e
  exact ⟨len, fun A outer s H args us vs Q E hg hr e0 hbd r h => LamX.run_ofS lk hcd S hr e0 hbd r (len _ _ _ _ h) fun hr' => hbody A outer s H vs Q E hg hr' h⟩
end L2
set_option maxHeartbeats 4000000
namespace L2
open PySem PySem.Spec PyProof.Rows
theorem Room.u1 {k : Nat} {A : Around} (r : Room k A) : A.units + 1 < cLine := by have := r.un; omega
theorem Room.u3 {k : Nat} {A : Around} (r : Room k A) : A.units + 3 < cLine := by have := r.un; omega
theorem Room.u65 {k : Nat} {A : Around} (r : Room k A) : A.units + 65 < cLine := by have := r.un; omega
end L2
namespace RunX
open PySem PySem.Spec PyProof.Rows L2 He
variable [Drw] [Cbv]
variable {K : PySem.W.Frag} {E : XK}
instance (te : TE) (i : Nat) [p : PeekE K E te] [e : EvS K E (tAsg te (gName i))] : EvS K E (tLock (tAsg te (gName i))) where
  run := fun σ S => match dictAt S (p.run σ S) with
    | some (n, o) => unlockS n o (e.run σ (S.set n (frzO o)))
    | none => none
  good := fun {σ S o} h w => by
    split at h
    · unfold unlockS at h
      split at h
      · rename_i h1
        cases h
        obtain ⟨l, wv⟩ := ba (e.good h1 (by rw [List.length_set]; exact w))
        rw [List.length_set] at l
        show (decide _ && _) = true
        rw [List.length_set, wv, l]
        rfl
      · rename_i h1
        cases h
        obtain ⟨l, wv⟩ := ba (e.good h1 (by rw [List.length_set]; exact w))
        rw [List.length_set] at l
        show (decide _ && _) = true
        rw [List.length_set, wv, l]
        rfl
      · cases h
    · cases h
  ok := fun {σ S o ρ H D} h w R q => by
    split at h
    · rename_i n o hd
      obtain ⟨hs, dc⟩ := dictAt_eq hd
      unfold unlockS at h
      split at h
      · rename_i v S' h1
        cases h
        have l := of_decide_eq_true (ba (e.good h1 (by rw [List.length_set]; exact w))).1
        rw [List.length_set] at l
        refine ⟨_, _, (R.get hs (isDct_plain dc)).1, dct_mut dc, fun od => ?_⟩
        refine e.ok h1 (by rw [List.length_set]; exact w) (lock_in R hs dc od) fun ρ' H' R' F => ?_
        obtain ⟨a, b, c⟩ := lock_out R hs dc R' F l
        exact ⟨a, q ρ' _ b c⟩
      · rename_i v S' h1
        cases h
        have l := of_decide_eq_true (ba (e.good h1 (by rw [List.length_set]; exact w))).1
        rw [List.length_set] at l
        refine ⟨_, _, (R.get hs (isDct_plain dc)).1, dct_mut dc, fun od => ?_⟩
        refine e.ok h1 (by rw [List.length_set]; exact w) (lock_in R hs dc od) fun ρ' H' R' F => ?_
        obtain ⟨a, b, c⟩ := lock_out R hs dc R' F l
        exact ⟨a, q ρ' _ b c⟩
      · cases h
    · cases h
instance : EvE K E (fun _ _ _ => False) where
  run := fun _ _ => none
  good := fun h _ => by cases h
  ok := fun h _ _ _ => by cases h
instance : EvE K E tDNewT where
  run := fun _ S => alloc S (.dT [])
  good := fun {σ S r} h w => alloc_good h
  ok := fun {σ S r ρ H Q} h w R p => fun q hq => alloc_post (E := E) (o := .dT []) h rfl R p hq
instance (i j : Int) : Decidable (CMul i j) := inferInstanceAs (Decidable ((_ ∧ _) ∨ (_ ∧ _)))
def tNo : TT := fun _ _ _ => False
theorem pw_never {X : Cx} {e : Expr} : PW X e tNo := ⟨fun _ _ _ _ _ _ _ h => h.elim⟩
instance : EvT K E tNo where
  run := fun _ _ => none
  good := fun h _ => by cases h
  ok := fun h _ _ _ => by cases h
theorem passX0 {X : Cx} : Passes (L2.CX X.prog X.w) X E0 := fun _ _ _ _ _ _ _ h => by
  obtain ⟨_, _, _, _, _, _, _, _, _, _, _, _, z⟩ := h
  exact z.elim
theorem asRaise {X : Cx} {st : Stmt} {C : Addr} {E : XK} (h : PS X st (tRaise C E)) : PS X st (tRaise C E) := h
theorem asRaiseI {X : Cx} {st : Stmt} {C : Addr} {f : Str} {ta : TA} {E : XK} (h : PS X st (tRaiseI C f ta E)) : PS X st (tRaiseI C f ta E) := h
end RunX
namespace PB
open PySem PySem.Spec PyProof.Rows L2 He
theorem clsT_ty {K : PySem.W.Frag} {x f B newId initId : String} {bm bmB : List Value} {C fI : Addr} (h : PySem.XT.ClsT K x f B newId initId bm bmB C fI) : PySem.W.typeIn K (.ref C) = some (.type "type") := by
  obtain ⟨nm, q, N, bs, sn, sub, ab, col, dd, k0, k1, k2, k3, k5, e⟩ := h.cls
  simp only [PySem.W.typeIn, e]
  rfl
end PB
set_option maxHeartbeats 4000000
namespace K7
open PySem PySem.Spec PyProof.Rows L2 He Hx Hy PO RunX PB
structure Tx (K : PySem.W.Frag) (mg : Str → Option Value) : Prop where
  c : SaysY ck fn K
  glo : ∀ x ∈ gloN, mg x = some (.ref (ga K x))
  free : ∀ x ∈ freeN, mg x = none
  int : ∀ p ∈ intN, ∃ t, mg p.1 = some (.int p.2 t)
  str : ∀ p ∈ strN, ∃ t, mg p.1 = some (.str p.2 t)
theorem tx_of {K : PySem.W.Frag} {h : Heap} {mg : Str → Option Value} (X : K.In h) (G : h.Ns mainGlobals mg) (c : SaysY ck fn K) : Tx K mg where
  c := c
  glo := fun x hx => glo_ok X G (List.all_eq_true.mp (c.fact 0 (f := fun K => gloN.all fun x => (Fa.glo x).ok K) rfl) x hx)
  free := fun x hx => free_ok X G (List.all_eq_true.mp (c.fact 1 (f := fun K => freeN.all fun x => (Fa.free x).ok K) rfl) x hx)
  int := fun x hx => int_ok X G (List.all_eq_true.mp (c.fact 2 (f := fun K => intN.all fun p => (Fa.int p.1 p.2).ok K) rfl) x hx)
  str := fun x hx => str_ok X G (List.all_eq_true.mp (c.fact 3 (f := fun K => strN.all fun p => (Fa.str p.1 p.2).ok K) rfl) x hx)
section
variable {K : PySem.W.Frag} {mg : Str → Option Value}
theorem Tx.own (T : Tx K mg) (x : Str) (h : x ∈ ownN) : PySem.W.excIn K (ga K x) veBase "ValueError.__new__" = true ∧ PySem.W.keepIn K (.ref (ga K x)) = true ∧ PySem.W.subIn K (.ref (ga K x)) (.type "BaseException") = some true ∧ PySem.W.typeIn K (.ref (ga K x)) = some (.type "type") := exc_ok (List.all_eq_true.mp (T.c.fact 4 (f := fun K => ownN.all fun x => (Fa.exc x).ok K) rfl) x h)
theorem Tx.cls (T : Tx K mg) (x : Str) (h : x ∈ clsN) : Cls K (ga K x) ∧ Mk K (ga K x) (ma K (ga K x) "__init__") := by
  obtain ⟨h1, h2⟩ := ba (List.all_eq_true.mp (T.c.fact 5 (f := fun K => clsN.all fun x => (Fa.cls x).ok K && (Fa.mkr x).ok K) rfl) x h)
  exact ⟨cls_ok h1, mkr_ok h2⟩
theorem Tx.noat (T : Tx K mg) (p : Str × Str) (h : p ∈ fldN) : NoAttr K (ga K p.1) p.2 := noat_ok (List.all_eq_true.mp (T.c.fact 6 (f := fun K => fldN.all fun p => (Fa.noat p.1 p.2).ok K) rfl) p h)
theorem Tx.meth (T : Tx K mg) (p : Str × Str) (h : p ∈ methN) : Meth K (ga K p.1) p.2 (ma K (ga K p.1) p.2) := meth_ok (List.all_eq_true.mp (T.c.fact 7 (f := fun K => methN.all fun p => (Fa.meth p.1 p.2).ok K) rfl) p h)
theorem Tx.prop (T : Tx K mg) (p : Str × Str) (h : p ∈ propN) : PropOf K (ga K p.1) p.2 (ma K (ga K p.1) p.2) (propG K p.1 p.2) := prop_ok (List.all_eq_true.mp (T.c.fact 8 (f := fun K => propN.all fun p => PB.propB K p.1 p.2) rfl) p h)
theorem Tx.isf (T : Tx K mg) (x : Str) (h : x ∈ isfN) : IsF K (ga K x) := isf_ok (List.all_eq_true.mp (T.c.fact 9 (f := fun K => isfN.all fun x => PB.isfB K x) rfl) x h)
theorem Tx.exm (T : Tx K mg) (x y : Str) (hx : x ∈ raisN) (hy : y ∈ armN) : PySem.W.exmOne K (.ref (ga K x)) (.ref (ga K y)) = some (decide (x = y)) := exm_ok (List.all_eq_true.mp (List.all_eq_true.mp (T.c.fact 10 (f := fun K => raisN.all fun x => armN.all fun y => (Fa.exm x y (decide (x = y))).ok K) rfl) x hx) y hy)
theorem Tx.exC (T : Tx K mg) (x : Str) (hx : x ∈ raisN) : ExcC K (ga K x) := excC_ok (List.all_eq_true.mp (T.c.fact 11 (f := fun K => raisN.all fun x => PB.excCB K (ga K x)) rfl) x hx)
theorem Tx.sys (T : Tx K mg) : (K.lookup sysModules).isSome = true := T.c.fact 14 (f := fun K => (K.lookup sysModules).isSome) rfl
theorem Tx.ats (T : Tx K mg) (p : Str × Str) (h : p ∈ atN) : fAdP K (p.1, some p.2) = ma K (ga K p.1) p.2 := of_decide_eq_true (List.all_eq_true.mp (T.c.fact 15 (f := fun K => atN.all fun p => decide (fAdP K (p.1, some p.2) = ma K (ga K p.1) p.2)) rfl) p h)
theorem Tx.cmf (T : Tx K mg) (p : Str × Str) (h : p ∈ cmN) : ClX.CRead K (ga K p.1) (.type "type") ∧ ClX.CMet K (ga K p.1) (.type "type") p.2 (ma K (ga K p.1) p.2) (fAdP K (p.1, some p.2)) := cm_ok (List.all_eq_true.mp (T.c.fact 16 (f := fun K => cmN.all fun p => PB.cmB K p.1 p.2) rfl) p h)
theorem Tx.tupf (T : Tx K mg) (p : Str × List Str) (h : p ∈ tupN) : PB.tupB K p.1 p.2 = true := List.all_eq_true.mp (T.c.fact 17 (f := fun K => tupN.all fun p => PB.tupB K p.1 p.2) rfl) p h
theorem Tx.n_isinstance (T : Tx K mg) : mg "isinstance" = none := T.free _ (memb (by decide +kernel))
theorem Tx.n_str (T : Tx K mg) : mg "str" = none := T.free _ (memb (by decide +kernel))
theorem Tx.n_all (T : Tx K mg) : mg "all" = none := T.free _ (memb (by decide +kernel))
theorem Tx.n_len (T : Tx K mg) : mg "len" = none := T.free _ (memb (by decide +kernel))
theorem Tx.n_zip (T : Tx K mg) : mg "zip" = none := T.free _ (memb (by decide +kernel))
theorem Tx.n_tuple (T : Tx K mg) : mg "tuple" = none := T.free _ (memb (by decide +kernel))
theorem Tx.n_int (T : Tx K mg) : mg "int" = none := T.free _ (memb (by decide +kernel))
theorem Tx.n_bool (T : Tx K mg) : mg "bool" = none := T.free _ (memb (by decide +kernel))
theorem Tx.n_dict (T : Tx K mg) : mg "dict" = none := T.free _ (memb (by decide +kernel))
theorem Tx.n_list (T : Tx K mg) : mg "list" = none := T.free _ (memb (by decide +kernel))
theorem Tx.n_set (T : Tx K mg) : mg "set" = none := T.free _ (memb (by decide +kernel))
theorem Tx.n_sorted (T : Tx K mg) : mg "sorted" = none := T.free _ (memb (by decide +kernel))
theorem Tx.n_abs (T : Tx K mg) : mg "abs" = none := T.free _ (memb (by decide +kernel))
theorem Tx.n_max (T : Tx K mg) : mg "max" = none := T.free _ (memb (by decide +kernel))
theorem Tx.n_min (T : Tx K mg) : mg "min" = none := T.free _ (memb (by decide +kernel))
theorem Tx.n_range (T : Tx K mg) : mg "range" = none := T.free _ (memb (by decide +kernel))
theorem Tx.n_repr (T : Tx K mg) : mg "repr" = none := T.free _ (memb (by decide +kernel))
theorem Tx.g_MarkError (T : Tx K mg) : mg "MarkError" = some (.ref (ga K "MarkError")) := T.glo _ (memb (by decide +kernel))
theorem Tx.g_is_integer (T : Tx K mg) : mg "is_integer" = some (.ref (ga K "is_integer")) := T.glo _ (memb (by decide +kernel))
theorem Tx.g_is_between (T : Tx K mg) : mg "is_between" = some (.ref (ga K "is_between")) := T.glo _ (memb (by decide +kernel))
theorem Tx.g_is_word (T : Tx K mg) : mg "is_word" = some (.ref (ga K "is_word")) := T.glo _ (memb (by decide +kernel))
theorem Tx.g_are_ascending (T : Tx K mg) : mg "are_ascending" = some (.ref (ga K "are_ascending")) := T.glo _ (memb (by decide +kernel))
theorem Tx.g_are_letters (T : Tx K mg) : mg "are_letters" = some (.ref (ga K "are_letters")) := T.glo _ (memb (by decide +kernel))
theorem Tx.g_require_length (T : Tx K mg) : mg "require_length" = some (.ref (ga K "require_length")) := T.glo _ (memb (by decide +kernel))
theorem Tx.g_met_from (T : Tx K mg) : mg "met_from" = some (.ref (ga K "met_from")) := T.glo _ (memb (by decide +kernel))
theorem Tx.g_linked (T : Tx K mg) : mg "linked" = some (.ref (ga K "linked")) := T.glo _ (memb (by decide +kernel))
theorem Tx.g_useful_in (T : Tx K mg) : mg "useful_in" = some (.ref (ga K "useful_in")) := T.glo _ (memb (by decide +kernel))
theorem Tx.g_is_short (T : Tx K mg) : mg "is_short" = some (.ref (ga K "is_short")) := T.glo _ (memb (by decide +kernel))
theorem Tx.g_is_number (T : Tx K mg) : mg "is_number" = some (.ref (ga K "is_number")) := T.glo _ (memb (by decide +kernel))
theorem Tx.g_are_worded (T : Tx K mg) : mg "are_worded" = some (.ref (ga K "are_worded")) := T.glo _ (memb (by decide +kernel))
theorem Tx.g_is_edge (T : Tx K mg) : mg "is_edge" = some (.ref (ga K "is_edge")) := T.glo _ (memb (by decide +kernel))
theorem Tx.g_are_edges (T : Tx K mg) : mg "are_edges" = some (.ref (ga K "are_edges")) := T.glo _ (memb (by decide +kernel))
theorem Tx.g_edges_after (T : Tx K mg) : mg "edges_after" = some (.ref (ga K "edges_after")) := T.glo _ (memb (by decide +kernel))
theorem Tx.g_edges_before (T : Tx K mg) : mg "edges_before" = some (.ref (ga K "edges_before")) := T.glo _ (memb (by decide +kernel))
theorem Tx.g_kept_words (T : Tx K mg) : mg "kept_words" = some (.ref (ga K "kept_words")) := T.glo _ (memb (by decide +kernel))
theorem Tx.g_require_rewriter (T : Tx K mg) : mg "require_rewriter" = some (.ref (ga K "require_rewriter")) := T.glo _ (memb (by decide +kernel))
theorem Tx.g_is_text (T : Tx K mg) : mg "is_text" = some (.ref (ga K "is_text")) := T.glo _ (memb (by decide +kernel))
theorem Tx.g_require_text (T : Tx K mg) : mg "require_text" = some (.ref (ga K "require_text")) := T.glo _ (memb (by decide +kernel))
theorem Tx.g_require_rest (T : Tx K mg) : mg "require_rest" = some (.ref (ga K "require_rest")) := T.glo _ (memb (by decide +kernel))
theorem Tx.g_pair_targets (T : Tx K mg) : mg "pair_targets" = some (.ref (ga K "pair_targets")) := T.glo _ (memb (by decide +kernel))
theorem Tx.g_ways_from (T : Tx K mg) : mg "ways_from" = some (.ref (ga K "ways_from")) := T.glo _ (memb (by decide +kernel))
theorem Tx.g_double_circles (T : Tx K mg) : mg "double_circles" = some (.ref (ga K "double_circles")) := T.glo _ (memb (by decide +kernel))
theorem Tx.g_doubling_in (T : Tx K mg) : mg "doubling_in" = some (.ref (ga K "doubling_in")) := T.glo _ (memb (by decide +kernel))
theorem Tx.g_ahead_in (T : Tx K mg) : mg "ahead_in" = some (.ref (ga K "ahead_in")) := T.glo _ (memb (by decide +kernel))
theorem Tx.g_triple_targets (T : Tx K mg) : mg "triple_targets" = some (.ref (ga K "triple_targets")) := T.glo _ (memb (by decide +kernel))
theorem Tx.g_link_in (T : Tx K mg) : mg "link_in" = some (.ref (ga K "link_in")) := T.glo _ (memb (by decide +kernel))
theorem Tx.g_links_in (T : Tx K mg) : mg "links_in" = some (.ref (ga K "links_in")) := T.glo _ (memb (by decide +kernel))
theorem Tx.g_is_state_pair (T : Tx K mg) : mg "is_state_pair" = some (.ref (ga K "is_state_pair")) := T.glo _ (memb (by decide +kernel))
theorem Tx.g_are_closed (T : Tx K mg) : mg "are_closed" = some (.ref (ga K "are_closed")) := T.glo _ (memb (by decide +kernel))
theorem Tx.g_last_in (T : Tx K mg) : mg "last_in" = some (.ref (ga K "last_in")) := T.glo _ (memb (by decide +kernel))
theorem Tx.g_is_path_in (T : Tx K mg) : mg "is_path_in" = some (.ref (ga K "is_path_in")) := T.glo _ (memb (by decide +kernel))
theorem Tx.g_is_complete_in (T : Tx K mg) : mg "is_complete_in" = some (.ref (ga K "is_complete_in")) := T.glo _ (memb (by decide +kernel))
theorem Tx.g_is_one_path_paper_in (T : Tx K mg) : mg "is_one_path_paper_in" = some (.ref (ga K "is_one_path_paper_in")) := T.glo _ (memb (by decide +kernel))
theorem Tx.g_is_row_between (T : Tx K mg) : mg "is_row_between" = some (.ref (ga K "is_row_between")) := T.glo _ (memb (by decide +kernel))
theorem Tx.g_are_double (T : Tx K mg) : mg "are_double" = some (.ref (ga K "are_double")) := T.glo _ (memb (by decide +kernel))
theorem Tx.g_is_link (T : Tx K mg) : mg "is_link" = some (.ref (ga K "is_link")) := T.glo _ (memb (by decide +kernel))
theorem Tx.g_is_chain (T : Tx K mg) : mg "is_chain" = some (.ref (ga K "is_chain")) := T.glo _ (memb (by decide +kernel))
theorem Tx.g_is_growth_paper_in (T : Tx K mg) : mg "is_growth_paper_in" = some (.ref (ga K "is_growth_paper_in")) := T.glo _ (memb (by decide +kernel))
theorem Tx.g_one_path_paper (T : Tx K mg) : mg "one_path_paper" = some (.ref (ga K "one_path_paper")) := T.glo _ (memb (by decide +kernel))
theorem Tx.g_doubling_states (T : Tx K mg) : mg "doubling_states" = some (.ref (ga K "doubling_states")) := T.glo _ (memb (by decide +kernel))
theorem Tx.g_linked_pairs (T : Tx K mg) : mg "linked_pairs" = some (.ref (ga K "linked_pairs")) := T.glo _ (memb (by decide +kernel))
theorem Tx.g_growth (T : Tx K mg) : mg "growth" = some (.ref (ga K "growth")) := T.glo _ (memb (by decide +kernel))
theorem Tx.g_growth_paper (T : Tx K mg) : mg "growth_paper" = some (.ref (ga K "growth_paper")) := T.glo _ (memb (by decide +kernel))
theorem Tx.g_most_paths (T : Tx K mg) : mg "most_paths" = some (.ref (ga K "most_paths")) := T.glo _ (memb (by decide +kernel))
theorem Tx.g_is_one_path_paper (T : Tx K mg) : mg "is_one_path_paper" = some (.ref (ga K "is_one_path_paper")) := T.glo _ (memb (by decide +kernel))
theorem Tx.g_is_growth_paper (T : Tx K mg) : mg "is_growth_paper" = some (.ref (ga K "is_growth_paper")) := T.glo _ (memb (by decide +kernel))
theorem Tx.g_count_paths (T : Tx K mg) : mg "count_paths" = some (.ref (ga K "count_paths")) := T.glo _ (memb (by decide +kernel))
theorem Tx.g_counts_of (T : Tx K mg) : mg "counts_of" = some (.ref (ga K "counts_of")) := T.glo _ (memb (by decide +kernel))
theorem Tx.g_paths_with (T : Tx K mg) : mg "paths_with" = some (.ref (ga K "paths_with")) := T.glo _ (memb (by decide +kernel))
theorem Tx.g_sack (T : Tx K mg) : mg "_law_sack" = some (.ref (ga K "_law_sack")) := T.glo _ (memb (by decide +kernel))
theorem Tx.g_dip (T : Tx K mg) : mg "_law_dip" = some (.ref (ga K "_law_dip")) := T.glo _ (memb (by decide +kernel))
theorem Tx.g_lone (T : Tx K mg) : mg "_law_one" = some (.ref (ga K "_law_one")) := T.glo _ (memb (by decide +kernel))
theorem Tx.g_met (T : Tx K mg) : mg "_law_met" = some (.ref (ga K "_law_met")) := T.glo _ (memb (by decide +kernel))
theorem Tx.g_right (T : Tx K mg) : mg "_law_right" = some (.ref (ga K "_law_right")) := T.glo _ (memb (by decide +kernel))
theorem Tx.g_law (T : Tx K mg) : mg "law" = some (.ref (ga K "law")) := T.glo _ (memb (by decide +kernel))
theorem Tx.g_Rewriter (T : Tx K mg) : mg "Rewriter" = some (.ref (ga K "Rewriter")) := T.glo _ (memb (by decide +kernel))
theorem Tx.g_InvalidText (T : Tx K mg) : mg "InvalidText" = some (.ref (ga K "InvalidText")) := T.glo _ (memb (by decide +kernel))
theorem Tx.g_InvalidRewriter (T : Tx K mg) : mg "InvalidRewriter" = some (.ref (ga K "InvalidRewriter")) := T.glo _ (memb (by decide +kernel))
theorem Tx.g_InvalidMachine (T : Tx K mg) : mg "InvalidMachine" = some (.ref (ga K "InvalidMachine")) := T.glo _ (memb (by decide +kernel))
theorem Tx.g_InvalidOperation (T : Tx K mg) : mg "InvalidOperation" = some (.ref (ga K "InvalidOperation")) := T.glo _ (memb (by decide +kernel))
theorem Tx.g_InvalidNumber (T : Tx K mg) : mg "InvalidNumber" = some (.ref (ga K "InvalidNumber")) := T.glo _ (memb (by decide +kernel))
theorem Tx.g_TooMany (T : Tx K mg) : mg "TooMany" = some (.ref (ga K "TooMany")) := T.glo _ (memb (by decide +kernel))
theorem Tx.g_NotSingle (T : Tx K mg) : mg "NotSingle" = some (.ref (ga K "NotSingle")) := T.glo _ (memb (by decide +kernel))
theorem Tx.v_MAX_TEXT (T : Tx K mg) : ∃ t, mg "MAX_TEXT" = some (.int 60 t) := T.int ("MAX_TEXT", 60) (memb (by decide +kernel))
theorem Tx.v_MOST_LETTERS_words (T : Tx K mg) : ∃ t, mg "MOST_LETTERS_words" = some (.int 4 t) := T.int ("MOST_LETTERS_words", 4) (memb (by decide +kernel))
theorem Tx.v_MAX_STATES (T : Tx K mg) : ∃ t, mg "MAX_STATES" = some (.int 12 t) := T.int ("MAX_STATES", 12) (memb (by decide +kernel))
theorem Tx.v_MAX_EDGES (T : Tx K mg) : ∃ t, mg "MAX_EDGES" = some (.int 64 t) := T.int ("MAX_EDGES", 64) (memb (by decide +kernel))
theorem Tx.v_MAX_WORD (T : Tx K mg) : ∃ t, mg "MAX_WORD" = some (.int 8 t) := T.int ("MAX_WORD", 8) (memb (by decide +kernel))
theorem Tx.v_PAIR_SIZE (T : Tx K mg) : ∃ t, mg "PAIR_SIZE" = some (.int 2 t) := T.int ("PAIR_SIZE", 2) (memb (by decide +kernel))
theorem Tx.v_TRIPLE_SIZE (T : Tx K mg) : ∃ t, mg "TRIPLE_SIZE" = some (.int 3 t) := T.int ("TRIPLE_SIZE", 3) (memb (by decide +kernel))
theorem Tx.v_TWO_SIZE (T : Tx K mg) : ∃ t, mg "TWO_SIZE" = some (.int 4 t) := T.int ("TWO_SIZE", 4) (memb (by decide +kernel))
theorem Tx.v_MOST_COUNTED (T : Tx K mg) : ∃ t, mg "MOST_COUNTED" = some (.int 8 t) := T.int ("MOST_COUNTED", 8) (memb (by decide +kernel))
theorem Tx.v_LETTERS (T : Tx K mg) : ∃ t, mg "LETTERS" = some (.str "abcdefghijklmnopqrstuvwxyz" t) := T.str ("LETTERS", "abcdefghijklmnopqrstuvwxyz") (memb (by decide +kernel))
theorem Tx.v_ONE (T : Tx K mg) : ∃ t, mg "ONE" = some (.str "one" t) := T.str ("ONE", "one") (memb (by decide +kernel))
theorem Tx.v_TWO_growing (T : Tx K mg) : ∃ t, mg "TWO_growing" = some (.str "two" t) := T.str ("TWO_growing", "two") (memb (by decide +kernel))
theorem Tx.v_DOUBLING (T : Tx K mg) : ∃ t, mg "DOUBLING" = some (.str "doubling" t) := T.str ("DOUBLING", "doubling") (memb (by decide +kernel))
theorem Tx.v_GROWS (T : Tx K mg) : ∃ t, mg "GROWS" = some (.str "grows" t) := T.str ("GROWS", "grows") (memb (by decide +kernel))
theorem Tx.e_InvalidText (T : Tx K mg) : PySem.W.excIn K (ga K "InvalidText") veBase "ValueError.__new__" = true ∧ PySem.W.keepIn K (.ref (ga K "InvalidText")) = true ∧ PySem.W.subIn K (.ref (ga K "InvalidText")) (.type "BaseException") = some true ∧ PySem.W.typeIn K (.ref (ga K "InvalidText")) = some (.type "type") := T.own _ (memb (by decide +kernel))
theorem Tx.e_InvalidRewriter (T : Tx K mg) : PySem.W.excIn K (ga K "InvalidRewriter") veBase "ValueError.__new__" = true ∧ PySem.W.keepIn K (.ref (ga K "InvalidRewriter")) = true ∧ PySem.W.subIn K (.ref (ga K "InvalidRewriter")) (.type "BaseException") = some true ∧ PySem.W.typeIn K (.ref (ga K "InvalidRewriter")) = some (.type "type") := T.own _ (memb (by decide +kernel))
theorem Tx.e_InvalidMachine (T : Tx K mg) : PySem.W.excIn K (ga K "InvalidMachine") veBase "ValueError.__new__" = true ∧ PySem.W.keepIn K (.ref (ga K "InvalidMachine")) = true ∧ PySem.W.subIn K (.ref (ga K "InvalidMachine")) (.type "BaseException") = some true ∧ PySem.W.typeIn K (.ref (ga K "InvalidMachine")) = some (.type "type") := T.own _ (memb (by decide +kernel))
theorem Tx.e_InvalidOperation (T : Tx K mg) : PySem.W.excIn K (ga K "InvalidOperation") veBase "ValueError.__new__" = true ∧ PySem.W.keepIn K (.ref (ga K "InvalidOperation")) = true ∧ PySem.W.subIn K (.ref (ga K "InvalidOperation")) (.type "BaseException") = some true ∧ PySem.W.typeIn K (.ref (ga K "InvalidOperation")) = some (.type "type") := T.own _ (memb (by decide +kernel))
theorem Tx.c_Rewriter (T : Tx K mg) : Cls K (ga K "Rewriter") ∧ Mk K (ga K "Rewriter") (ma K (ga K "Rewriter") "__init__") := T.cls _ (memb (by decide +kernel))
theorem Tx.f_Rewriter_own_letters (T : Tx K mg) : NoAttr K (ga K "Rewriter") "own_letters" := T.noat ("Rewriter", "own_letters") (memb (by decide +kernel))
theorem Tx.f_Rewriter_own_states (T : Tx K mg) : NoAttr K (ga K "Rewriter") "own_states" := T.noat ("Rewriter", "own_states") (memb (by decide +kernel))
theorem Tx.f_Rewriter_own_starts (T : Tx K mg) : NoAttr K (ga K "Rewriter") "own_starts" := T.noat ("Rewriter", "own_starts") (memb (by decide +kernel))
theorem Tx.f_Rewriter_own_edges (T : Tx K mg) : NoAttr K (ga K "Rewriter") "own_edges" := T.noat ("Rewriter", "own_edges") (memb (by decide +kernel))
theorem Tx.f_Rewriter_own_ends (T : Tx K mg) : NoAttr K (ga K "Rewriter") "own_ends" := T.noat ("Rewriter", "own_ends") (memb (by decide +kernel))
theorem Tx.f_Rewriter_own_after (T : Tx K mg) : NoAttr K (ga K "Rewriter") "own_after" := T.noat ("Rewriter", "own_after") (memb (by decide +kernel))
theorem Tx.f_Rewriter_own_before (T : Tx K mg) : NoAttr K (ga K "Rewriter") "own_before" := T.noat ("Rewriter", "own_before") (memb (by decide +kernel))
theorem Tx.is_Rewriter (T : Tx K mg) : IsF K (ga K "Rewriter") := T.isf _ (memb (by decide +kernel))
theorem Tx.fn_is_integer (T : Tx K mg) : ∃ fd, FunD K "is_integer" "is_integer" (defArgs s_is_integer) (defBody s_is_integer) (defScope s_is_integer) [] [] (ga K "is_integer") fd := T.c.def_ 0 (d := d_is_integer) rfl
theorem Tx.fn_is_between (T : Tx K mg) : ∃ fd, FunD K "is_between" "is_between" (defArgs s_is_between) (defBody s_is_between) (defScope s_is_between) [] [] (ga K "is_between") fd := T.c.def_ 1 (d := d_is_between) rfl
theorem Tx.fn_is_word (T : Tx K mg) : ∃ fd, FunD K "is_word" "is_word" (defArgs s_is_word) (defBody s_is_word) (defScope s_is_word) [] [] (ga K "is_word") fd := T.c.def_ 2 (d := d_is_word) rfl
theorem Tx.fn_are_ascending (T : Tx K mg) : ∃ fd, FunD K "are_ascending" "are_ascending" (defArgs s_are_ascending) (defBody s_are_ascending) (defScope s_are_ascending) [] [] (ga K "are_ascending") fd := T.c.def_ 3 (d := d_are_ascending) rfl
theorem Tx.fn_are_letters (T : Tx K mg) : ∃ fd, FunD K "are_letters" "are_letters" (defArgs s_are_letters) (defBody s_are_letters) (defScope s_are_letters) [] [] (ga K "are_letters") fd := T.c.def_ 4 (d := d_are_letters) rfl
theorem Tx.fn_require_length (T : Tx K mg) : ∃ fd, FunD K "require_length" "require_length" (defArgs s_require_length) (defBody s_require_length) (defScope s_require_length) [] [] (ga K "require_length") fd := T.c.def_ 5 (d := d_require_length) rfl
theorem Tx.fn_met_from (T : Tx K mg) : ∃ fd, FunD K "met_from" "met_from" (defArgs s_met_from) (defBody s_met_from) (defScope s_met_from) [] [] (ga K "met_from") fd := T.c.def_ 6 (d := d_met_from) rfl
theorem Tx.fn_linked (T : Tx K mg) : ∃ fd, FunD K "linked" "linked" (defArgs s_linked) (defBody s_linked) (defScope s_linked) [] [] (ga K "linked") fd := T.c.def_ 7 (d := d_linked) rfl
theorem Tx.fn_useful_in (T : Tx K mg) : ∃ fd, FunD K "useful_in" "useful_in" (defArgs s_useful_in) (defBody s_useful_in) (defScope s_useful_in) [] [] (ga K "useful_in") fd := T.c.def_ 8 (d := d_useful_in) rfl
theorem Tx.fn_is_short (T : Tx K mg) : ∃ fd, FunD K "is_short" "is_short" (defArgs s_is_short) (defBody s_is_short) (defScope s_is_short) [] [] (ga K "is_short") fd := T.c.def_ 9 (d := d_is_short) rfl
theorem Tx.fn_is_number (T : Tx K mg) : ∃ fd, FunD K "is_number" "is_number" (defArgs s_is_number) (defBody s_is_number) (defScope s_is_number) [] [] (ga K "is_number") fd := T.c.def_ 10 (d := d_is_number) rfl
theorem Tx.fn_are_worded (T : Tx K mg) : ∃ fd, FunD K "are_worded" "are_worded" (defArgs s_are_worded) (defBody s_are_worded) (defScope s_are_worded) [] [] (ga K "are_worded") fd := T.c.def_ 11 (d := d_are_worded) rfl
theorem Tx.fn_is_edge (T : Tx K mg) : ∃ fd, FunD K "is_edge" "is_edge" (defArgs s_is_edge) (defBody s_is_edge) (defScope s_is_edge) [] [] (ga K "is_edge") fd := T.c.def_ 12 (d := d_is_edge) rfl
theorem Tx.fn_are_edges (T : Tx K mg) : ∃ fd, FunD K "are_edges" "are_edges" (defArgs s_are_edges) (defBody s_are_edges) (defScope s_are_edges) [] [] (ga K "are_edges") fd := T.c.def_ 13 (d := d_are_edges) rfl
theorem Tx.fn_edges_after (T : Tx K mg) : ∃ fd, FunD K "edges_after" "edges_after" (defArgs s_edges_after) (defBody s_edges_after) (defScope s_edges_after) [] [] (ga K "edges_after") fd := T.c.def_ 14 (d := d_edges_after) rfl
theorem Tx.fn_edges_before (T : Tx K mg) : ∃ fd, FunD K "edges_before" "edges_before" (defArgs s_edges_before) (defBody s_edges_before) (defScope s_edges_before) [] [] (ga K "edges_before") fd := T.c.def_ 15 (d := d_edges_before) rfl
theorem Tx.fn_kept_words (T : Tx K mg) : ∃ fd, FunD K "kept_words" "kept_words" (defArgs s_kept_words) (defBody s_kept_words) (defScope s_kept_words) [] [] (ga K "kept_words") fd := T.c.def_ 16 (d := d_kept_words) rfl
theorem Tx.fn_rwInit (T : Tx K mg) : ∃ fd, FunD K "__init__" "Rewriter.__init__" (defArgs s_rwInit) (defBody s_rwInit) (defScope s_rwInit) [] [] (ma K (ga K "Rewriter") "__init__") fd := by
  have z := T.ats ("Rewriter", "__init__") (memb (by decide +kernel))
  rw [← z]
  exact T.c.def_ 17 (d := d_rwInit) rfl
theorem Tx.fn_require_rewriter (T : Tx K mg) : ∃ fd, FunD K "require_rewriter" "require_rewriter" (defArgs s_require_rewriter) (defBody s_require_rewriter) (defScope s_require_rewriter) [] [] (ga K "require_rewriter") fd := T.c.def_ 18 (d := d_require_rewriter) rfl
theorem Tx.fn_is_text (T : Tx K mg) : ∃ fd, FunD K "is_text" "is_text" (defArgs s_is_text) (defBody s_is_text) (defScope s_is_text) [] [] (ga K "is_text") fd := T.c.def_ 19 (d := d_is_text) rfl
theorem Tx.fn_require_text (T : Tx K mg) : ∃ fd, FunD K "require_text" "require_text" (defArgs s_require_text) (defBody s_require_text) (defScope s_require_text) [] [] (ga K "require_text") fd := T.c.def_ 20 (d := d_require_text) rfl
theorem Tx.fn_require_rest (T : Tx K mg) : ∃ fd, FunD K "require_rest" "require_rest" (defArgs s_require_rest) (defBody s_require_rest) (defScope s_require_rest) [] [] (ga K "require_rest") fd := T.c.def_ 21 (d := d_require_rest) rfl
theorem Tx.fn_pair_targets (T : Tx K mg) : ∃ fd, FunD K "pair_targets" "pair_targets" (defArgs s_pair_targets) (defBody s_pair_targets) (defScope s_pair_targets) [] [] (ga K "pair_targets") fd := T.c.def_ 22 (d := d_pair_targets) rfl
theorem Tx.fn_ways_from (T : Tx K mg) : ∃ fd, FunD K "ways_from" "ways_from" (defArgs s_ways_from) (defBody s_ways_from) (defScope s_ways_from) [] [] (ga K "ways_from") fd := T.c.def_ 23 (d := d_ways_from) rfl
theorem Tx.fn_double_circles (T : Tx K mg) : ∃ fd, FunD K "double_circles" "double_circles" (defArgs s_double_circles) (defBody s_double_circles) (defScope s_double_circles) [] [] (ga K "double_circles") fd := T.c.def_ 24 (d := d_double_circles) rfl
theorem Tx.fn_doubling_in (T : Tx K mg) : ∃ fd, FunD K "doubling_in" "doubling_in" (defArgs s_doubling_in) (defBody s_doubling_in) (defScope s_doubling_in) [] [] (ga K "doubling_in") fd := T.c.def_ 25 (d := d_doubling_in) rfl
theorem Tx.fn_ahead_in (T : Tx K mg) : ∃ fd, FunD K "ahead_in" "ahead_in" (defArgs s_ahead_in) (defBody s_ahead_in) (defScope s_ahead_in) [] [] (ga K "ahead_in") fd := T.c.def_ 26 (d := d_ahead_in) rfl
theorem Tx.fn_triple_targets (T : Tx K mg) : ∃ fd, FunD K "triple_targets" "triple_targets" (defArgs s_triple_targets) (defBody s_triple_targets) (defScope s_triple_targets) [] [] (ga K "triple_targets") fd := T.c.def_ 27 (d := d_triple_targets) rfl
theorem Tx.fn_link_in (T : Tx K mg) : ∃ fd, FunD K "link_in" "link_in" (defArgs s_link_in) (defBody s_link_in) (defScope s_link_in) [] [] (ga K "link_in") fd := T.c.def_ 28 (d := d_link_in) rfl
theorem Tx.fn_links_in (T : Tx K mg) : ∃ fd, FunD K "links_in" "links_in" (defArgs s_links_in) (defBody s_links_in) (defScope s_links_in) [] [] (ga K "links_in") fd := T.c.def_ 29 (d := d_links_in) rfl
theorem Tx.fn_is_state_pair (T : Tx K mg) : ∃ fd, FunD K "is_state_pair" "is_state_pair" (defArgs s_is_state_pair) (defBody s_is_state_pair) (defScope s_is_state_pair) [] [] (ga K "is_state_pair") fd := T.c.def_ 30 (d := d_is_state_pair) rfl
theorem Tx.fn_are_closed (T : Tx K mg) : ∃ fd, FunD K "are_closed" "are_closed" (defArgs s_are_closed) (defBody s_are_closed) (defScope s_are_closed) [] [] (ga K "are_closed") fd := T.c.def_ 31 (d := d_are_closed) rfl
theorem Tx.fn_last_in (T : Tx K mg) : ∃ fd, FunD K "last_in" "last_in" (defArgs s_last_in) (defBody s_last_in) (defScope s_last_in) [] [] (ga K "last_in") fd := T.c.def_ 32 (d := d_last_in) rfl
theorem Tx.fn_is_path_in (T : Tx K mg) : ∃ fd, FunD K "is_path_in" "is_path_in" (defArgs s_is_path_in) (defBody s_is_path_in) (defScope s_is_path_in) [] [] (ga K "is_path_in") fd := T.c.def_ 33 (d := d_is_path_in) rfl
theorem Tx.fn_is_complete_in (T : Tx K mg) : ∃ fd, FunD K "is_complete_in" "is_complete_in" (defArgs s_is_complete_in) (defBody s_is_complete_in) (defScope s_is_complete_in) [] [] (ga K "is_complete_in") fd := T.c.def_ 34 (d := d_is_complete_in) rfl
theorem Tx.fn_is_one_path_paper_in (T : Tx K mg) : ∃ fd, FunD K "is_one_path_paper_in" "is_one_path_paper_in" (defArgs s_is_one_path_paper_in) (defBody s_is_one_path_paper_in) (defScope s_is_one_path_paper_in) [] [] (ga K "is_one_path_paper_in") fd := T.c.def_ 35 (d := d_is_one_path_paper_in) rfl
theorem Tx.fn_is_row_between (T : Tx K mg) : ∃ fd, FunD K "is_row_between" "is_row_between" (defArgs s_is_row_between) (defBody s_is_row_between) (defScope s_is_row_between) [] [] (ga K "is_row_between") fd := T.c.def_ 36 (d := d_is_row_between) rfl
theorem Tx.fn_are_double (T : Tx K mg) : ∃ fd, FunD K "are_double" "are_double" (defArgs s_are_double) (defBody s_are_double) (defScope s_are_double) [] [] (ga K "are_double") fd := T.c.def_ 37 (d := d_are_double) rfl
theorem Tx.fn_is_link (T : Tx K mg) : ∃ fd, FunD K "is_link" "is_link" (defArgs s_is_link) (defBody s_is_link) (defScope s_is_link) [] [] (ga K "is_link") fd := T.c.def_ 38 (d := d_is_link) rfl
theorem Tx.fn_is_chain (T : Tx K mg) : ∃ fd, FunD K "is_chain" "is_chain" (defArgs s_is_chain) (defBody s_is_chain) (defScope s_is_chain) [] [] (ga K "is_chain") fd := T.c.def_ 39 (d := d_is_chain) rfl
theorem Tx.fn_is_growth_paper_in (T : Tx K mg) : ∃ fd, FunD K "is_growth_paper_in" "is_growth_paper_in" (defArgs s_is_growth_paper_in) (defBody s_is_growth_paper_in) (defScope s_is_growth_paper_in) [] [] (ga K "is_growth_paper_in") fd := T.c.def_ 40 (d := d_is_growth_paper_in) rfl
theorem Tx.fn_one_path_paper (T : Tx K mg) : ∃ fd, FunD K "one_path_paper" "one_path_paper" (defArgs s_one_path_paper) (defBody s_one_path_paper) (defScope s_one_path_paper) [] [] (ga K "one_path_paper") fd := T.c.def_ 41 (d := d_one_path_paper) rfl
theorem Tx.fn_doubling_states (T : Tx K mg) : ∃ fd, FunD K "doubling_states" "doubling_states" (defArgs s_doubling_states) (defBody s_doubling_states) (defScope s_doubling_states) [] [] (ga K "doubling_states") fd := T.c.def_ 42 (d := d_doubling_states) rfl
theorem Tx.fn_linked_pairs (T : Tx K mg) : ∃ fd, FunD K "linked_pairs" "linked_pairs" (defArgs s_linked_pairs) (defBody s_linked_pairs) (defScope s_linked_pairs) [] [] (ga K "linked_pairs") fd := T.c.def_ 43 (d := d_linked_pairs) rfl
theorem Tx.fn_growth (T : Tx K mg) : ∃ fd, FunD K "growth" "growth" (defArgs s_growth) (defBody s_growth) (defScope s_growth) [] [] (ga K "growth") fd := T.c.def_ 44 (d := d_growth) rfl
theorem Tx.fn_growth_paper (T : Tx K mg) : ∃ fd, FunD K "growth_paper" "growth_paper" (defArgs s_growth_paper) (defBody s_growth_paper) (defScope s_growth_paper) [] [] (ga K "growth_paper") fd := T.c.def_ 45 (d := d_growth_paper) rfl
theorem Tx.fn_most_paths (T : Tx K mg) : ∃ fd, FunD K "most_paths" "most_paths" (defArgs s_most_paths) (defBody s_most_paths) (defScope s_most_paths) [] [] (ga K "most_paths") fd := T.c.def_ 46 (d := d_most_paths) rfl
theorem Tx.fn_is_one_path_paper (T : Tx K mg) : ∃ fd, FunD K "is_one_path_paper" "is_one_path_paper" (defArgs s_is_one_path_paper) (defBody s_is_one_path_paper) (defScope s_is_one_path_paper) [] [] (ga K "is_one_path_paper") fd := T.c.def_ 47 (d := d_is_one_path_paper) rfl
theorem Tx.fn_is_growth_paper (T : Tx K mg) : ∃ fd, FunD K "is_growth_paper" "is_growth_paper" (defArgs s_is_growth_paper) (defBody s_is_growth_paper) (defScope s_is_growth_paper) [] [] (ga K "is_growth_paper") fd := T.c.def_ 48 (d := d_is_growth_paper) rfl
theorem Tx.fn_count_paths (T : Tx K mg) : ∃ fd, FunD K "count_paths" "count_paths" (defArgs s_count_paths) (defBody s_count_paths) (defScope s_count_paths) [] [] (ga K "count_paths") fd := T.c.def_ 49 (d := d_count_paths) rfl
theorem Tx.fn_counts_of (T : Tx K mg) : ∃ fd, FunD K "counts_of" "counts_of" (defArgs s_counts_of) (defBody s_counts_of) (defScope s_counts_of) [] [] (ga K "counts_of") fd := T.c.def_ 50 (d := d_counts_of) rfl
theorem Tx.fn_paths_with (T : Tx K mg) : ∃ fd, FunD K "paths_with" "paths_with" (defArgs s_paths_with) (defBody s_paths_with) (defScope s_paths_with) [] [] (ga K "paths_with") fd := T.c.def_ 51 (d := d_paths_with) rfl
theorem Tx.fn_iNumber (T : Tx K mg) : ∃ fd, FunD K "__init__" "InvalidNumber.__init__" (defArgs s_iNumber) (defBody s_iNumber) (defScope s_iNumber) [] [] (ma K (ga K "InvalidNumber") "__init__") fd := by
  have z := T.ats ("InvalidNumber", "__init__") (memb (by decide +kernel))
  rw [← z]
  exact T.c.def_ 52 (d := d_iNumber) rfl
theorem Tx.fn_sack (T : Tx K mg) : ∃ fd, FunD K "_law_sack" "_law_sack" (defArgs s_sack) (defBody s_sack) (defScope s_sack) [] [] (ga K "_law_sack") fd := T.c.def_ 53 (d := d_sack) rfl
theorem Tx.fn_dip (T : Tx K mg) : ∃ fd, FunD K "_law_dip" "_law_dip" (defArgs s_dip) (defBody s_dip) (defScope s_dip) [] [] (ga K "_law_dip") fd := T.c.def_ 54 (d := d_dip) rfl
theorem Tx.fn_lone (T : Tx K mg) : ∃ fd, FunD K "_law_one" "_law_one" (defArgs s_lone) (defBody s_lone) (defScope s_lone) [] [] (ga K "_law_one") fd := T.c.def_ 55 (d := d_lone) rfl
theorem Tx.fn_met (T : Tx K mg) : ∃ fd, FunD K "_law_met" "_law_met" (defArgs s_met) (defBody s_met) (defScope s_met) [] [] (ga K "_law_met") fd := T.c.def_ 56 (d := d_met) rfl
theorem Tx.fn_right (T : Tx K mg) : ∃ fd, FunD K "_law_right" "_law_right" (defArgs s_right) (defBody s_right) (defScope s_right) [] [] (ga K "_law_right") fd := T.c.def_ 57 (d := d_right) rfl
theorem Tx.fn_law (T : Tx K mg) : ∃ fd, FunD K "law" "law" (defArgs s_law) (defBody s_law) (defScope s_law) [] [] (ga K "law") fd := T.c.def_ 58 (d := d_law) rfl

theorem Tx.i_InvalidNumber (T : Tx K mg) : PySem.XT.ClsT K "InvalidNumber" "value" "IndexError" "IndexError.__new__" "IndexError.__init__" tlIndexError tlIndexError (ga K "InvalidNumber") (ma K (ga K "InvalidNumber") "__init__") := by
  have c0 := T.c.fact 12 (f := ckInit) rfl
  obtain ⟨h1, h2, h3, h4, h5, h6⟩ := PB.initB_ok (K := K) (x := "InvalidNumber") (f := "value") (bm := tlIndexError) (newId := "IndexError.__new__") (c0)
  have e := T.exC "InvalidNumber" (memb (by decide +kernel))
  obtain ⟨fd, F⟩ := T.fn_iNumber
  obtain ⟨oc, od, dV, kV, doc, pm, an, cdv, ct, osl, rfl, lk, hcd, hD, hK⟩ := F.ex
  rcases hD with ⟨_, rfl⟩ | ⟨z, _⟩
  · exact ⟨PySem.F.excBase_IndexError, tail_Index, h1, h2, e.hg, e.hk, h3, h4, h5, h6, e.hs, e.hd, oc, od, kV, doc, pm, an, cdv, ct, osl, _, _, _, _, _, _, _, lk, hcd⟩
  · exact absurd rfl z
end
end K7
set_option maxHeartbeats 4000000
/-! What the tops of the error laws share. -/
namespace L2
open PySem PySem.Spec PyProof.Rows
def CPowW : Int → Int → Prop := fun i j => 0 ≤ j ∧ (Builtin.Int.intBits i : Int) * j ≤ 2 ^ 27
theorem op_powW {X : Cx} : OpR X (binaryOp .Pow) (rI CPowW fun i j => .int (i ^ j.toNat)) := opI fun _ _ _ _ _ _ _ hc q => pow_int hc.1 hc.2 q
theorem SqL.updL {K : PySem.W.Frag} {H : Hp} {a p : Addr} {o : HO} {xs : List V} (h : SqL K H a xs) (hne : a ≠ p) : SqL K (upd H p o) a xs := by
  rcases h with (h | ⟨z, h⟩) | h
  · exact .inl (.inl (by rw [upd_ne hne]; exact h))
  · exact .inl (.inr ⟨z, by rw [upd_ne hne]; exact h⟩)
  · exact .inr h
theorem seq_set {te : TE} {i : Nat} {u : TS} {D : Ends} {σ : L2.St} {H : Hp} (h : te σ H fun x H1 => u D (σ.set i (some x)) H1) : tSeq (tAsg te (gName i)) u D σ H := h
theorem one_ret {te : TE} {D : Ends} {σ : L2.St} {H : Hp} (h : te σ H D.rt) : tRet te D σ H := h
theorem seq_drop {te : TE} {u : TS} {D : Ends} {σ : L2.St} {H : Hp} (h : te σ H fun _ H1 => u D σ H1) : tSeq (tDrop te) u D σ H := h
theorem szd {n : Nat} (h : n ≤ 100000) : n ≤ sizeLine := Nat.le_trans h (by decide)
/-- the bag of draws -/
def bagO (b0 b1 b2 : Int) : HO := .lst [.int b0, .int b1, .int b2]
def spStart (K : PySem.W.Frag) : Sp := fun vs H Q _ => ∃ (l : Addr) (ns : List Int) (i : Nat), vs = [.ref l, .int i] ∧ SqL K H l (ns.map V.int) ∧ ns.length ≤ 1000 ∧ i < 1000 ∧ ∀ p b0 b1 b2, H p = none → Q (.ref p) (upd H p (bagO b0 b1 b2))
def spThrow : Sp := fun vs H Q _ => ∃ (p : Addr) (n : Int) (b0 b1 b2 : Int), vs = [.ref p, .int n] ∧ H p = some (bagO b0 b1 b2) ∧ 0 < n ∧ n < 1000000000 ∧ ∀ r c0 c1 c2, 0 ≤ r → r < n → Q (.int r) (upd H p (bagO c0 c1 c2))
def spPick (K : PySem.W.Frag) : Sp := fun vs H Q _ => ∃ (p l : Addr) (xs : List V) (b0 b1 b2 : Int), vs = [.ref p, .ref l] ∧ H p = some (bagO b0 b1 b2) ∧ l ≠ p ∧ SqL K H l xs ∧ xs ≠ [] ∧ xs.length < 1000 ∧ ∀ (j : Nat) v c0 c1 c2, xs[j]? = some v → Q v (upd H p (bagO c0 c1 c2))
end L2
set_option maxHeartbeats 4000000
namespace L2
open PySem PySem.Spec PyProof.Rows
/-! f(..), f a name of the def's own (or a captured one) that holds one of several defs; exceptions go on -/
def tCallZ (i : Nat) (S : Addr → Sp → Prop) (E : XK) (t : TA) : TE := fun σ H Q => ∃ f sp, σ[i]? = some (some (.ref f)) ∧ S f sp ∧ t σ H fun vs H1 => sp vs H1 Q E
section
variable {X : Cx} {CX : CXT} {k i : Nat} {E : XK} {x : Str} {p pos : Pos} {e : Expr} {es : List Expr} {t : TA}
theorem pe_callZ {S : Addr → Sp → Prop} (A : ∀ f sp, S f sp → ∃ j, j ≤ k ∧ ∃ ps, HasA X.prog X.w X.K X.mg X.base CX j f ps sp) (hr : Room k X.A) (hN : X.N[i]? = some x) (hv : Vis X.env.scope x) (hx : Passes CX X E) (ha : PA X (e :: es) t)
    (hdb : (x == ("__debug__" : Str)) = false := by decide) (hcd : (x == ("__classdict__" : Str)) = false := by decide)
    (he : starEach (e :: es) X.env = (false, eval e X.env) :: starEach es X.env := by rfl) (hpl : (backTo pos (starEach es X.env)).any (·.1) = false := by rfl) : PE X (.Call (.Name x p) (e :: es) [] pos) (tCallZ i S E t) := by
  refine ⟨fun pins s σ H Q I h => ?_⟩
  obtain ⟨f, sp, hs, hS, ht⟩ := h
  obtain ⟨j, hj, ps, hk, fd, F, hb⟩ := A f sp hS
  refine (pe_callL (i := i) (f := f) (sp := sp) (dvs := []) (E := E) F (hr.mono hj) hN hv hk hb .nil hx ha hdb hcd he hpl).run pins s σ H Q I ⟨hs, ?_⟩
  have e0 : (fun (vs : List V) (H1 : Hp) => sp (vs ++ []) H1 Q E) = fun vs H1 => sp vs H1 Q E := by
    funext vs H1
    rw [List.append_nil]
  show t σ H (fun vs H1 => sp (vs ++ []) H1 Q E)
  rw [e0]
  exact ht
end
end L2
set_option maxHeartbeats 4000000
/-! What runs at a law's top: draws, lambdas handed to a def, a name that holds one of several defs, repr and == of lists with drawn values in them. -/
namespace RunX
open PySem PySem.Spec PyProof.Rows L2 He
abbrev DrF := Int × Int × Int → Nat → Nat × (Int × Int × Int)
def bagB (b : Int × Int × Int) : HO := .lst [.int b.1, .int b.2.1, .int b.2.2]
def spStartB (K : PySem.W.Frag) : Sp := fun vs H Q _ => ∃ (l : Addr) (ns : List Int) (i : Nat), vs = [.ref l, .int i] ∧ SqL K H l (ns.map V.int) ∧ ns.length ≤ 1000 ∧ i < 1000 ∧ ∀ p b, H p = none → Q (.ref p) (upd H p (bagB b))
def spDipF (F : DrF) : Sp := fun vs H Q _ => ∃ (p : Addr) (n : Nat) (b : Int × Int × Int), vs = [.ref p, .int n] ∧ H p = some (bagB b) ∧ 0 < n ∧ n < 1000000000 ∧ Q (.int (F b n).1) (upd H p (bagB (F b n).2))
def spPickF (K : PySem.W.Frag) (F : DrF) : Sp := fun vs H Q _ => ∃ (p l : Addr) (xs : List V) (b : Int × Int × Int) (v : V), vs = [.ref p, .ref l] ∧ H p = some (bagB b) ∧ l ≠ p ∧ SqL K H l xs ∧ xs ≠ [] ∧ xs.length < 1000 ∧ xs[(F b xs.length).1]? = some v ∧ Q v (upd H p (bagB (F b xs.length).2))
/-- the laws' own drawing -/
def dipF (a c : Int) : DrF := fun b n =>
  if b.1 > 0 then ((b.1.fmod n).toNat, (b.1.fdiv n, b.2.1, b.2.2)) else
    let k := b.2.2 + 1
    let one := (b.2.1 + a * k).fmod 2305843009213693951
    let two := (one * one + c * k).fmod 2305843009213693951 * 8589934609 + one
    (((two.fdiv 131072).fmod n).toNat, (b.1, b.2.1, k))
theorem dipF_lt (a c : Int) (b : Int × Int × Int) (n : Nat) (h : 0 < n) : (dipF a c b n).1 < n := by
  have hn : (0 : Int) < n := by omega
  have k : ∀ x : Int, (x.fmod n).toNat < n := fun x => by
    have h1 := Int.fmod_nonneg_of_pos x hn
    have h2 := Int.fmod_lt_of_pos x hn
    omega
  unfold dipF
  dsimp only
  split
  · exact k _
  · exact k _
variable [Drw] [Cbv]
variable {K : PySem.W.Frag} {E : XK}
/-! ### draws -/
def pickRun (ds : List DV) (S : List DO) : Option Res := match ds with
  | [.ref b, .ref l] => (match S[b]?, S[l]? with
    | some (.bag k), some (.lst xs) => if xs = Drw.tab k ∧ xs ≠ [] ∧ xs.length < 1000 ∧ xs.all (wf0 S.length) = true then (match Drw.fix k with
      | some j => (match xs[j]? with
        | some v => some (.ret v (S.set b (.bag (k + 1))))
        | none => none)
      | none => some (.ret (.drw k k) (S.set b (.bag (k + 1))))) else none
    | _, _ => none)
  | _ => none
def pickR : DefR where
  run := pickRun
  good := fun {ds S r} h w => by
    unfold pickRun at h
    split at h
    · split at h
      · split at h
        · rename_i c
          obtain ⟨c1, c2, c3, c4⟩ := c
          split at h
          · split at h
            · rename_i v hv
              cases h
              show (decide _ && _) = true
              rw [List.length_set, (dV_0 (K := []) (ρ := []) (List.all_eq_true.mp c4 v (List.mem_of_getElem? hv))).2]
              simp
            · cases h
          · cases h
            rw [c1] at c4
            show (decide _ && List.all _ _) = true
            rw [List.length_set, c4]
            simp
        · cases h
      · cases h
    · cases h
theorem pick_at {k : Nat} (h : Drw.tab k ≠ []) : (Drw.tab k)[idx k]? = some (pickD k k) := by
  have hp : 0 < (Drw.tab k).length := List.length_pos_iff.mpr h
  have hl := idx_lt hp
  unfold pickD
  rw [List.getD_eq_getElem?_getD, List.getElem?_eq_getElem hl]
  rfl
theorem pick_ok {ds : List DV} {S : List DO} {r : Res} {ρ : List Addr} {H : Hp} {Q : VK} (h : pickRun ds S = some r) (R : Rep K ρ S H) (p : Post K E ρ H Q r) : spPickF K Drw.F (ds.map (dV K ρ)) H Q E := by
  unfold pickRun at h
  split at h
  · rename_i b l
    split at h
    · rename_i k xs eb el
      split at h
      · rename_i c
        obtain ⟨c1, c2, c3, c4⟩ := c
        have gb := (R.get eb).1
        have gl := (R.get el).1
        have nbl : ρ.getD l 0 ≠ ρ.getD b 0 := fun z => by
          have lb := Fr.lt R eb
          have ll := Fr.lt R el
          have ab : ρ[b]? = some (ρ.getD b 0) := by rw [List.getD_eq_getElem?_getD, List.getElem?_eq_getElem lb]; rfl
          have al : ρ[l]? = some (ρ.getD l 0) := by rw [List.getD_eq_getElem?_getD, List.getElem?_eq_getElem ll]; rfl
          rw [← z] at ab
          obtain ⟨zs, q⟩ := R.nd b l _ ab al fun e => by
            rw [e, el] at eb
            cases eb
          rw [eb] at q
          cases q
        have hx : (xs.map (dV K ρ))[(Drw.F (bk k) (xs.map (dV K ρ)).length).1]? = some (dV K ρ (pickD k k)) := by
          rw [List.length_map, List.getElem?_map, c1]
          rw [c1] at c2
          show ((Drw.tab k)[idx k]?).map (dV K ρ) = _
          rw [pick_at c2]
          rfl
        have hb2 : bagB (Drw.F (bk k) (xs.map (dV K ρ)).length).2 = dO K ρ (.bag (k + 1)) := by
          rw [List.length_map, c1]
          rfl
        obtain ⟨R1, F1⟩ := R.set (o' := .bag (k + 1)) eb rfl
        refine ⟨_, _, _, bk k, _, rfl, gb, nbl, SqL.of gl, fun z => c2 (List.map_eq_nil_iff.mp z), by rw [List.length_map]; exact c3, hx, ?_⟩
        rw [hb2]
        split at h
        · rename_i j hj
          split at h
          · rename_i v hv
            cases h
            have ej : idx k = j := Drw.hfix _ _ hj
            rw [c1, ← ej, pick_at (by rw [← c1]; exact c2)] at hv
            rw [Option.some.inj hv]
            exact p ρ _ R1 F1
          · cases h
        · cases h
          have wk : wf S.length (.drw k k) = true := by
            show (Drw.tab k).all (wf0 S.length) = true
            rw [← c1]
            exact c4
          rw [← dV_pick wk]
          exact p ρ _ R1 F1
      · cases h
    · cases h
  · cases h
instance : EvSp K (spPickF K Drw.F) := ⟨pickR, fun {ds S r ρ H Q E} h w R p => pick_ok h R p⟩
/-! ### f(..), f a name that holds one of several defs -/
def SCallL (K : PySem.W.Frag) (L : List (Str × DefR)) (f : Addr) (sp : Sp) : Prop := ∃ p ∈ L, f = ga K p.1 ∧ sp = spOf K p.2
def findL (x : Str) : List (Str × DefR) → Option DefR
  | [] => none
  | p :: r => if p.1 = x then some p.2 else findL x r
theorem findL_eq {x : Str} {d : DefR} : ∀ {L : List (Str × DefR)}, findL x L = some d → (x, d) ∈ L
  | [], h => by cases h
  | p :: r, h => by
    unfold findL at h
    split at h
    · rename_i e
      cases h
      subst e
      exact List.mem_cons_self
    · exact List.mem_cons_of_mem _ (findL_eq h)
instance (i : Nat) (L : List (Str × DefR)) (ta : TA) [a : EvA K E ta] : EvE K E (tCallZ i (SCallL K L) E ta) where
  run := fun σ S => match σ[i]? with
    | some (some (.glo x)) => (match findL x L with
      | some d => bindA (a.run σ S) fun vs S1 => splitR d.run 6 vs S1
      | none => none)
    | _ => none
  good := fun {σ S r} h w => by
    split at h
    · split at h
      · rename_i d hd
        exact bindA_good (ta := ta) h w fun {vs S1 r} l wv h => by
          obtain ⟨ds', q, w', hf, hg, _, _⟩ := splitR_ok (K := K) h wv
          exact hg (d.good hf w')
      · cases h
    · cases h
  ok := fun {σ S r ρ H Q} h w R p => by
    split at h
    · rename_i x hx
      split at h
      · rename_i d hd
        refine ⟨ga K x, spOf K d, ?_, ⟨(x, d), findL_eq hd, rfl, rfl⟩, ?_⟩
        · unfold dSt
          rw [List.getElem?_map, hx]
          rfl
        · exact bindA_ok (ta := ta) h w R p fun {vs S1 ρ1 H1} l wv h R1 F1 p => by
            obtain ⟨ds', q, w', hf, hg, he, hp⟩ := splitR_ok (K := K) h wv
            exact ⟨ρ1, S1, ds', q, R1, (he ρ1).symm, w', hf, hp R1.ln p⟩
      · cases h
    · cases h
/-! ### a lambda handed to a def -/
class SameRun {α : Type} (a b : α) : Prop where
  eq : a = b
instance {α : Type} (a : α) : SameRun a a := ⟨rfl⟩
class EvTT (K : PySem.W.Frag) (TT : (XK → Hp → VK → Prop) → Hp → VK → Prop) where
  run : Res → Option Res
  good : ∀ {n r q}, run r = some q → good n r = true → good n q = true
  ok : ∀ {r q S ρ H Q tl} {E : XK}, run r = some q → RunX.good S.length r = true → Rep K ρ S H → Post K E ρ H Q q → (∀ E' Q', Post K E' ρ H Q' r → tl E' H Q') → TT tl H Q
theorem Rep.ext {ρ : List Addr} {S : List DO} {H H1 : Hp} (R : Rep K ρ S H) (e : LamX.ExtN H H1) (t : LamX.Tabs Drw.tabs H1) : Rep K ρ S H1 ∧ Fr ρ H ρ H1 := by
  refine ⟨⟨R.len, R.nd, fun i o a hi ha => ?_, R.wf, ⟨t, fun p hp => e _ _ (R.tb.codes p hp) fun ps z => LamX.codeO_ne ps z, R.tb.pre⟩⟩, ⟨⟨[], by simp, fun a h => by simp at h⟩, fun b o _ h nt => e b o h nt, fun b o u h => e _ _ h (fun _ z => nomatch z), fun b xs h => e _ _ h (fun _ z => nomatch z), fun b xs h => ?_⟩⟩
  · obtain ⟨h, eh, sh⟩ := R.obj i o a hi ha
    exact ⟨h, e _ _ eh fun ps z => sh_notbl (ps := ps) (by rw [← z]; exact sh), sh⟩
  · cases z : H b with
    | none => exact .inl rfl
    | some o =>
      by_cases c : ∃ ps, o = .tbl ps
      · obtain ⟨ps, rfl⟩ := c
        exact .inr (.inr ⟨ps, rfl⟩)
      · have k := e b o z fun ps q => c ⟨ps, q⟩
        rw [h] at k
        exact .inr (.inl k.symm)
instance (TT : (XK → Hp → VK → Prop) → Hp → VK → Prop) (tE : XK → TE) [c : ∀ E, EvE K E (tE E)] [u : ∀ E, SameRun (c E).run (c EN).run] [m : EvTT K TT] : EvE K E (LamX.tLam Drw.tabs TT tE) where
  run := fun σ S => match (c EN).run σ S with
    | some r => m.run r
    | none => none
  good := fun {σ S r} h w => by
    split at h
    · rename_i q h1
      exact m.good h ((c EN).good h1 w)
    · cases h
  ok := fun {σ S r ρ H Q} h w R p => by
    split at h
    · rename_i q h1
      refine ⟨R.tb.tabs, fun H1 e1 t1 => ?_⟩
      obtain ⟨R1, F1⟩ := R.ext e1 t1
      refine m.ok (E := E) h ((c EN).good h1 w) R1 (Post.of p R1 F1) fun E' Q' pq => ?_
      refine (c E').ok (Q := Q') ?_ w R1 pq
      rw [(u E').eq]
      exact h1
    · cases h
/-! ### data with drawn values in them -/
def envV : List (Nat × Nat) → DV → DV
  | [], v => v
  | p :: r, v => envV r (putDr p.1 p.2 v)
def envOf (is : List Nat) : List (Nat × Nat) := is.map fun i => (i, idx i)
theorem envV_ok {ρ : List Addr} {n : Nat} : ∀ {is : List Nat} {v : DV}, wf n v = true → wf n (envV (envOf is) v) = true ∧ dV K ρ (envV (envOf is) v) = dV K ρ v
  | [], v, w => ⟨w, rfl⟩
  | i :: r, v, w => by
    obtain ⟨h1, h2⟩ := envV_ok (ρ := ρ) (is := r) (putDr_wf (i := i) (j := idx i) w)
    exact ⟨h1, h2.trans (putDr_eq w)⟩
def allEnv : List Nat → List (List (Nat × Nat))
  | [] => [[]]
  | i :: r => (List.range (Drw.tab i).length).flatMap fun j => (allEnv r).map fun e => (i, j) :: e
theorem envOf_mem : ∀ {is : List Nat}, (is.all fun i => decide (0 < (Drw.tab i).length)) = true → envOf is ∈ allEnv is
  | [], _ => by simp [envOf, allEnv]
  | i :: r, h => by
    obtain ⟨h1, h2⟩ := ba (show (decide _ && _) = true from h)
    refine List.mem_flatMap.mpr ⟨idx i, List.mem_range.mpr (idx_lt (of_decide_eq_true h1)), List.mem_map.mpr ⟨envOf r, envOf_mem h2, rfl⟩⟩
def drwsD (S : List DO) : Nat → DV → List Nat
  | 0, _ => []
  | k + 1, v => match v with
    | .drw i _ => [i]
    | .ref n => (match S[n]? with
      | some (.lst xs) => xs.flatMap (drwsD S k)
      | some (.tup xs) => xs.flatMap (drwsD S k)
      | _ => [])
    | _ => []
def datE (env : List (Nat × Nat)) (S : List DO) : Nat → DV → Option PyData
  | 0, _ => none
  | k + 1, v => match envV env v with
    | .non => some .none
    | .bl b => some (.bool b)
    | .int i => some (.int i)
    | .str x => some (.str x)
    | .ref n => (match S[n]? with
      | some (.lst xs) => (allD (datE env S k) xs).map .list
      | some (.tup xs) => (allD (datE env S k) xs).map .tuple
      | _ => none)
    | _ => none
theorem allE_ok {ρ : List Addr} {H : Hp} {n : Nat} {f : DV → Option PyData} (hf : ∀ v d, wf n v = true → f v = some d → Dp K H (dV K ρ v) d ∧ DR H (dV K ρ v) d) : ∀ {xs : List DV} {ds : List PyData}, xs.all (wf n) = true → allD f xs = some ds → DpAll K H (xs.map (dV K ρ)) ds ∧ DRs H (xs.map (dV K ρ)) ds
  | [], _, _, h => by cases h; exact ⟨.nil, .nil⟩
  | v :: r, _, w, h => by
    unfold allD at h
    obtain ⟨w1, w2⟩ := ba (show (wf n v && _) = true from w)
    split at h
    · rename_i d ds h1 h2
      cases h
      obtain ⟨a1, a2⟩ := hf v d w1 h1
      obtain ⟨b1, b2⟩ := allE_ok hf w2 h2
      exact ⟨.cons a1 b1, .cons a2 b2⟩
    · cases h
theorem datE_ok {ρ : List Addr} {S : List DO} {H : Hp} {is : List Nat} (R : Rep K ρ S H) : ∀ {k : Nat} {v : DV} {d : PyData}, wf S.length v = true → datE (envOf is) S k v = some d → Dp K H (dV K ρ v) d ∧ DR H (dV K ρ v) d
  | 0, _, _, _, h => by cases h
  | k + 1, v, d, w, h => by
    unfold datE at h
    rw [← (envV_ok (K := K) (ρ := ρ) (is := is) w).2]
    split at h
    · rename_i e; rw [e]; cases h; exact ⟨.non, .non⟩
    · rename_i e; rw [e]; cases h; exact ⟨.bl _, .bl _⟩
    · rename_i e; rw [e]; cases h; exact ⟨.int _, .int _⟩
    · rename_i e; rw [e]; cases h; exact ⟨.str _, .str _⟩
    · rename_i n e
      rw [e]
      split at h
      · rename_i xs e
        obtain ⟨ds, h1, rfl⟩ := Option.map_eq_some_iff.mp h
        obtain ⟨g, wg⟩ := R.get e
        obtain ⟨a, b⟩ := allE_ok (fun v d w q => datE_ok R w q) wg h1
        exact ⟨.lst (SqL.of g) a, .lst g b⟩
      · rename_i xs e
        obtain ⟨ds, h1, rfl⟩ := Option.map_eq_some_iff.mp h
        obtain ⟨g, wg⟩ := R.get e
        obtain ⟨a, b⟩ := allE_ok (fun v d w q => datE_ok R w q) wg h1
        exact ⟨.tup (SqT.of g) a, .tup g b⟩
      · cases h
    · cases h
/-- what all draws tell -/
def uniB (f : List (Nat × Nat) → Option Bool) : List (List (Nat × Nat)) → Option Bool
  | [] => none
  | [e] => f e
  | e :: r => match f e, uniB f r with
    | some a, some b => if a = b then some a else none
    | _, _ => none
theorem uniB_at {f : List (Nat × Nat) → Option Bool} {b : Bool} : ∀ {l : List (List (Nat × Nat))} {e : List (Nat × Nat)}, uniB f l = some b → e ∈ l → f e = some b
  | [], _, h, _ => by cases h
  | [e0], e, h, he => by
    rw [List.mem_singleton.mp he]
    exact h
  | e0 :: e1 :: r, e, h, he => by
    unfold uniB at h
    split at h
    · rename_i a b' h1 h2
      split at h
      · rename_i c
        subst c
        cases h
        rcases List.mem_cons.mp he with q | q
        · rw [q]
          exact h1
        · exact uniB_at h2 q
      · cases h
    · cases h
def onDraws (S : List DO) (x y : DV) (f : List (Nat × Nat) → Option Bool) : Option Bool :=
  let is := (drwsD S 16 x ++ drwsD S 16 y).eraseDups
  if (is.all fun i => decide (0 < (Drw.tab i).length)) = true then uniB f (allEnv is) else none
theorem onDraws_at {S : List DO} {x y : DV} {f : List (Nat × Nat) → Option Bool} {b : Bool} (h : onDraws S x y f = some b) : ∃ is, f (envOf is) = some b := by
  unfold onDraws at h
  dsimp only at h
  split at h
  · rename_i c
    exact ⟨_, uniB_at h (envOf_mem c)⟩
  · cases h
def eqE (S : List DO) (x y : DV) (env : List (Nat × Nat)) : Option Bool := match datE env S 64 x, datE env S 64 y with
  | some d, some e => if SeqAt.shaped d = true ∧ SeqAt.shaped e = true then some (PyData.eqv d e) else none
  | _, _ => none
theorem eqE_ok {ρ : List Addr} {S : List DO} {H : Hp} {x y : DV} {b : Bool} (R : Rep K ρ S H) (wx : wf S.length x = true) (wy : wf S.length y = true) (h : onDraws S x y (eqE S x y) = some b) : ∃ d e, Dp K H (dV K ρ x) d ∧ Dp K H (dV K ρ y) e ∧ SeqAt.shaped d = true ∧ SeqAt.shaped e = true ∧ PyData.eqv d e = b := by
  obtain ⟨is, h⟩ := onDraws_at h
  unfold eqE at h
  split at h
  · rename_i d e h1 h2
    split at h
    · rename_i c
      exact ⟨d, e, (datE_ok R wx h1).1, (datE_ok R wy h2).1, c.1, c.2, Option.some.inj h⟩
    · cases h
  · cases h
instance (priority := 1200) : EvR K (rEqD K) where
  run := fun S x y => match onDraws S x y (eqE S x y) with
    | some b => retS (.bl b) S
    | none => none
  good := fun {S x y q} h wx wy => by
    split at h
    · exact ret_good h rfl
    · cases h
  ok := fun {S x y q ρ H Q E} h wx wy R p => by
    split at h
    · rename_i b hb
      obtain ⟨d, e, h1, h2, h3, h4, rfl⟩ := eqE_ok R wx wy hb
      exact ⟨d, e, h1, h2, h3, h4, ret_post (E := E) h R p⟩
    · cases h
instance (priority := 1200) : EvR K (rNeD K) where
  run := fun S x y => match onDraws S x y (eqE S x y) with
    | some b => retS (.bl (!b)) S
    | none => none
  good := fun {S x y q} h wx wy => by
    split at h
    · exact ret_good h rfl
    · cases h
  ok := fun {S x y q ρ H Q E} h wx wy R p => by
    split at h
    · rename_i b hb
      obtain ⟨d, e, h1, h2, h3, h4, rfl⟩ := eqE_ok R wx wy hb
      exact ⟨d, e, h1, h2, h3, h4, ret_post (E := E) h R p⟩
    · cases h
/-! ### repr(x) != repr(y) -/
def showsD (d : PyData) : Bool := d.showable && (decide (d.depth ≤ 50) && decide (d.shown.length ≤ 100000))
def reprE (S : List DO) (x y : DV) (env : List (Nat × Nat)) : Option Bool := match datE env S 64 x, datE env S 64 y with
  | some d, some e => if showsD d = true ∧ showsD e = true then some (decide (d.shown = e.shown)) else none
  | _, _ => none
theorem reprE_ok {ρ : List Addr} {S : List DO} {H : Hp} {x y : DV} {b : Bool} (R : Rep K ρ S H) (wx : wf S.length x = true) (wy : wf S.length y = true) (h : onDraws S x y (reprE S x y) = some b) : ∃ d e, DR H (dV K ρ x) d ∧ DR H (dV K ρ y) e ∧ showsD d = true ∧ showsD e = true ∧ decide (d.shown = e.shown) = b := by
  obtain ⟨is, h⟩ := onDraws_at h
  unfold reprE at h
  split at h
  · rename_i d e h1 h2
    split at h
    · rename_i c
      exact ⟨d, e, (datE_ok R wx h1).2, (datE_ok R wy h2).2, c.1, c.2, Option.some.inj h⟩
    · cases h
  · cases h
def refsAt (σ : List (Option DV)) (i j : Nat) : Option (DV × DV) := match σ[i]?, σ[j]? with
  | some (some (.ref n)), some (some (.ref m)) => some (.ref n, .ref m)
  | _, _ => none
theorem refsAt_eq {σ : List (Option DV)} {i j : Nat} {x y : DV} (h : refsAt σ i j = some (x, y)) : (∃ n, x = .ref n) ∧ (∃ m, y = .ref m) ∧ σ[i]? = some (some x) ∧ σ[j]? = some (some y) := by
  unfold refsAt at h
  split at h
  · rename_i n m h1 h2
    cases h
    exact ⟨⟨n, rfl⟩, ⟨m, rfl⟩, h1, h2⟩
  · cases h
def rReprs (neg : Bool) : R2 := if neg = true then rNe else rEq
section
variable (neg : Bool) (i j : Nat)
def reprRun (σ : List (Option DV)) (S : List DO) : Option Res := match refsAt σ i j with
  | some (x, y) => (match onDraws S x y (reprE S x y) with
    | some b => retS (.bl (if neg = true then !b else b)) S
    | none => none)
  | none => none
theorem repr_good {σ : List (Option DV)} {S : List DO} {r : Res} (h : reprRun neg i j σ S = some r) : good S.length r = true := by
  unfold reprRun at h
  split at h
  · split at h
    · exact ret_good h rfl
    · cases h
  · cases h
theorem repr_ok {σ : List (Option DV)} {S : List DO} {r : Res} {ρ : List Addr} {H : Hp} {Q : VK} (h : reprRun neg i j σ S = some r) (w : wfS S.length σ = true) (R : Rep K ρ S H) (p : Post K E ρ H Q r) : tOp (rReprs neg) (tCB rReprG (tCons (tVar i) tNil)) (tCB rReprG (tCons (tVar j) tNil)) (dSt K ρ σ) H Q := by
  unfold reprRun at h
  split at h
  · rename_i x y hxy
    obtain ⟨⟨n, rfl⟩, ⟨m, rfl⟩, e1, e2⟩ := refsAt_eq hxy
    split at h
    · rename_i b hb
      have w1 : wf S.length (.ref n) = true := List.all_eq_true.mp w _ (List.mem_of_getElem? e1)
      have w2 : wf S.length (.ref m) = true := List.all_eq_true.mp w _ (List.mem_of_getElem? e2)
      obtain ⟨d, e, h1, h2, h3, h4, hb⟩ := reprE_ok R w1 w2 hb
      obtain ⟨a1, a2⟩ := ba h3
      obtain ⟨a2, a3⟩ := ba a2
      obtain ⟨b1, b2⟩ := ba h4
      obtain ⟨b2, b3⟩ := ba b2
      have g1 : (dSt K ρ σ)[i]? = some (some (dV K ρ (.ref n))) := by
        unfold dSt
        rw [List.getElem?_map, e1]
        rfl
      have g2 : (dSt K ρ σ)[j]? = some (some (dV K ρ (.ref m))) := by
        unfold dSt
        rw [List.getElem?_map, e2]
        rfl
      refine ⟨_, g1, _, d, rfl, h1, a1, of_decide_eq_true a2, Nat.le_trans (of_decide_eq_true a3) (by decide), ?_⟩
      refine ⟨_, g2, _, e, rfl, h2, b1, of_decide_eq_true b2, Nat.le_trans (of_decide_eq_true b3) (by decide), ?_⟩
      have hd : decide (V.str d.shown = V.str e.shown) = b := by
        rw [← hb]
        simp
      have z := ret_post (E := E) h R p
      cases neg with
      | true =>
        refine ⟨rfl, ?_⟩
        rw [hd]
        exact z
      | false =>
        refine ⟨rfl, ?_⟩
        rw [hd]
        exact z
    · cases h
  · cases h
end
instance (priority := 1200) (i j : Nat) : EvE K E (tOp rNe (tCB rReprG (tCons (tVar i) tNil)) (tCB rReprG (tCons (tVar j) tNil))) := ⟨reprRun true i j, fun h _ => repr_good true i j h, fun h w R p => repr_ok (K := K) (E := E) true i j h w R p⟩
instance (priority := 1200) (i j : Nat) : EvE K E (tOp rEq (tCB rReprG (tCons (tVar i) tNil)) (tCB rReprG (tCons (tVar j) tNil))) := ⟨reprRun false i j, fun h _ => repr_good false i j h, fun h w R p => repr_ok (K := K) (E := E) false i j h w R p⟩
end RunX
set_option maxHeartbeats 4000000
/-! More words that run. -/
namespace RunX
open PySem PySem.Spec PyProof.Rows L2 He PO NKx
variable [Drw] [Cbv]
variable {K : PySem.W.Frag} {E : XK}
/-! ### a, b, c = x, y, z -/
instance (i j l : Nat) (ta : TA) [a : EvA K E ta] : EvS K E (tPar3 i j l ta) where
  run := fun σ S => match a.run σ S with
    | some (.ret [v, u, t] S1) => some (.nx (((σ.set i (some v)).set j (some u)).set l (some t)) S1)
    | some (.exc C d S1) => some (.exc C d S1)
    | _ => none
  good := fun {σ S o} h w => by
    split at h
    · rename_i v u t S1 h1
      cases h
      obtain ⟨l, wv⟩ := ba (a.good h1 w)
      obtain ⟨w1, w2⟩ := ba (show (wf _ v && (wf _ u && (wf _ t && true))) = true from wv)
      obtain ⟨w2, w3⟩ := ba w2
      obtain ⟨w3, _⟩ := ba w3
      show (decide _ && _) = true
      rw [l, wfS_set (wfS_set (wfS_set (wfS_le (of_decide_eq_true l) w) w1) w2) w3]
      rfl
    · rename_i C d S1 h1
      cases h
      exact a.good h1 w
    · cases h
  ok := fun {σ S o ρ H D} h w R p => by
    split at h
    · rename_i v u t S1 h1
      cases h
      refine a.ok h1 w R fun ρ1 H1 R1 F1 => ⟨_, _, _, rfl, ?_⟩
      have z := p ρ1 H1 R1 F1
      rw [dSt_set, dSt_set, dSt_set, F1.le R.len w] at z
      exact z
    · rename_i C d S1 h1
      cases h
      exact a.ok h1 w R p
    · cases h
/-! ### xs[::-1] -/
instance (te : TE) [e : EvE K E te] : EvE K E (tRevL K te) where
  run := fun σ S => bindE (e.run σ S) fun x S1 => match lstD S1 x with
    | some xs => if wfO S1.length (.lst xs.reverse) = true then alloc S1 (.lst xs.reverse) else none
    | none => none
  good := fun {σ S r} h w => bind_good (te := te) h w fun {x S1 r} l wx h => by
    split at h
    · split at h
      · exact alloc_good h
      · cases h
    · cases h
  ok := fun {σ S r ρ H Q} h w R p => bind_ok (te := te) h w R p fun {x S1 ρ1 H1} l wx h R1 F1 eσ p => by
    split at h
    · rename_i xs hx
      split at h
      · rename_i c
        obtain ⟨n, rfl, e1, g, _⟩ := lstD_ok R1 hx
        refine ⟨_, _, rfl, SqL.of g, fun q hq => ?_⟩
        have z := alloc_post (E := E) h c R1 p hq
        have em : dO K ρ1 (.lst xs.reverse) = .lst (xs.map (dV K ρ1)).reverse := by simp only [dO, List.map_reverse]
        rw [em] at z
        exact z
      · cases h
    · cases h
/-! ### xs.extend(ys) -/
instance : EvM K "list" rExtend where
  run := fun x ds S => match x, ds with
    | .ref n, [.ref m] => (match S[n]?, S[m]? with
      | some (.lst xs), some (.lst ys) => if xs.length + ys.length ≤ 100000 ∧ wfO S.length (.lst (xs ++ ys)) = true then some (.ret .non (S.set n (.lst (xs ++ ys)))) else none
      | _, _ => none)
    | _, _ => none
  good := fun {x ds S q} h wx w => by
    split at h
    · split at h
      · split at h
        · cases h
          show (decide _ && true) = true
          simp
        · cases h
      · cases h
    · cases h
  ok := fun {x ds S q ρ H Q E} h wx w R p => by
    split at h
    · split at h
      · rename_i xs ys e1 e2
        split at h
        · rename_i c
          cases h
          obtain ⟨R1, F1⟩ := R.set (o' := .lst (xs ++ ys)) e1 c.2
          refine ⟨_, _, _, _, rfl, rfl, (R.get e1).1, (R.get e2).1, by rw [List.length_map, List.length_map]; exact Nat.le_trans c.1 (by decide), ?_⟩
          have z := p _ _ R1 F1
          have em : dO K ρ (.lst (xs ++ ys)) = .lst (xs.map (dV K ρ) ++ ys.map (dV K ρ)) := by simp only [dO, List.map_append]
          rw [em] at z
          exact z
        · cases h
      · cases h
    · cases h
/-! ### sorted(d), the keys numbers -/
def rSortedDI : List V → Hp → VK → Prop := fun xs H Q => ∃ (a : Addr) (kvs : List (Key × V)) (ks : List Int), xs = [.ref a] ∧ Rd H a (.dK kvs) ∧ kvs.map (·.1) = ks.map Sum.inl ∧ ks.length < 64 ∧
    ∀ (ys : List Int) (p : Addr), ys.Perm ks → ys.Pairwise (· ≤ ·) → H p = none → Q (.ref p) (upd H p (.lst (ys.map V.int)))
theorem cr_sortedDI {X : Cx} (hc : X.calm = true) : CallR X (.builtin "sorted") rSortedDI := call_sortedDI hc
def intKeys : List (Key × DV) → Option (List Int)
  | [] => some []
  | (.inl i, _) :: r => (intKeys r).map (i :: ·)
  | _ => none
theorem intKeys_eq {ρ : List Addr} : ∀ {kvs : List (Key × DV)} {ks : List Int}, intKeys kvs = some ks → (kvs.map fun p => (p.1, dV K ρ p.2)).map (·.1) = ks.map Sum.inl
  | [], _, h => by cases h; rfl
  | (.inl i, v) :: r, _, h => by
    obtain ⟨bs, h1, rfl⟩ := Option.map_eq_some_iff.mp (show (intKeys r).map (i :: ·) = some _ from h)
    show Sum.inl i :: _ = Sum.inl i :: _
    rw [intKeys_eq h1]
  | (.inr x, v) :: r, _, h => by cases h
instance : EvB K rSortedDI where
  run := fun ds S => match ds with
    | [.ref n] => (match S[n]? with
      | some (.dK kvs) => (match intKeys kvs with
        | some ks => if ks.length < 64 then alloc S (.lst ((sortI ks).map DV.int)) else none
        | none => none)
      | _ => none)
    | _ => none
  good := fun {ds S q} h w => by
    split at h
    · split at h
      · split at h
        · split at h
          · exact alloc_good h
          · cases h
        · cases h
      · cases h
    · cases h
  ok := fun {ds S q ρ H Q E} h w R p => by
    split at h
    · split at h
      · rename_i kvs e
        split at h
        · rename_i ks hk
          split at h
          · rename_i c
            refine ⟨_, _, ks, rfl, .inl (R.get e).1, intKeys_eq hk, c, fun ys l pm so hl => ?_⟩
            rw [sorted_one (pm.trans sortI_perm.symm) so sortI_sorted]
            have z := alloc_post (E := E) h (List.all_eq_true.mpr fun v hv => by obtain ⟨q, _, rfl⟩ := List.mem_map.mp hv; rfl) R p hl
            have em : dO K ρ (.lst ((sortI ks).map DV.int)) = .lst ((sortI ks).map V.int) := by
              simp only [dO, List.map_map]
              rfl
            rw [em] at z
            exact z
          · cases h
        · cases h
      · cases h
    · cases h
/-! ### a, b = a list -/
instance (n : Nat) (t : TGs) [b : EvGs K t] : EvG K (gUnl K n t) where
  run := fun v σ S => match v with
    | .ref m => (match S[m]? with
      | some (.lst xs) => if xs.length = n ∧ xs.all (wf S.length) = true then b.run xs σ S else none
      | _ => none)
    | _ => none
  wf_ := fun {v σ S σ'} h wv w => by
    split at h
    · split at h
      · split at h
        · rename_i c
          exact b.wf_ h c.2 w
        · cases h
      · cases h
    · cases h
  ok := fun {v σ S σ' ρ H Q} h R q => by
    split at h
    · split at h
      · rename_i xs e
        split at h
        · rename_i c
          exact ⟨_, _, rfl, SqL.of (R.get e).1, by rw [List.length_map]; exact c.1, b.ok h R q⟩
        · cases h
      · cases h
    · cases h
instance (n : Nat) (t : TGs) [b : EvHs K E t] : EvH K E (gUnl K n t) where
  run := fun v σ S => match v with
    | .ref m => (match S[m]? with
      | some (.lst xs) => if xs.length = n ∧ xs.all (wf S.length) = true then b.run xs σ S else none
      | _ => none)
    | _ => none
  good := fun {v σ S σ' S'} h wv w => by
    split at h
    · split at h
      · split at h
        · rename_i c
          exact b.good h c.2 w
        · cases h
      · cases h
    · cases h
  ok := fun {v σ S σ' S' ρ H Q} h wv w R q => by
    split at h
    · split at h
      · rename_i xs e
        split at h
        · rename_i c
          exact ⟨_, _, rfl, SqL.of (R.get e).1, by rw [List.length_map]; exact c.1, b.ok h c.2 w R q⟩
        · cases h
      · cases h
    · cases h
instance (priority := 900) (te : TE) (n : Nat) (t : TGs) [e : EvE K E te] [g : EvH K E (gUnl K n t)] : EvS K E (tAsg te (gUnl K n t)) where
  run := fun σ S => bindX (e.run σ S) fun v S1 => match g.run v σ S1 with
    | some (σ', S') => some (.nx σ' S')
    | none => none
  good := fun {σ S o} h w => bindX_good (te := te) h w fun {v S1 o} l wv h => by
    split at h
    · rename_i h1
      cases h
      obtain ⟨l1, z1⟩ := g.good h1 wv (wfS_le l w)
      show (decide _ && _) = true
      rw [z1, decide_eq_true l1]
      rfl
    · cases h
  ok := fun {σ S o ρ H D} h w R p => bindX_ok (te := te) h w R p fun {v S1 ρ1 H1} l wv h R1 F1 eσ p => by
    split at h
    · rename_i h1
      cases h
      rw [← eσ]
      exact g.ok h1 wv (wfS_le l w) R1 p
    · cases h
/-! ### d != {} -/
def rNeDE : R2 := fun x y H Q => ∃ a b ks, x = .ref a ∧ y = .ref b ∧ H a = some (.dK ks) ∧ H b = some (.dK []) ∧ Q (.bl (!decide (ks.length = 0))) H
end RunX
set_option maxHeartbeats 4000000
/-! Comprehensions with two clauses (nothing raised within). -/
namespace RunX
open PySem PySem.Spec PyProof.Rows L2 He
variable [Drw] [Cbv]
variable {K : PySem.W.Frag} {E : XK}
def lpD (g : DV → List (Option DV) → List DO → Option (List (Option DV))) (body : List (Option DV) → List DO → Option (List DO)) (it : ItD) (σ0 : List (Option DV)) (vs : List Nat) : Nat → Nat → List DO → Option (List DO)
  | 0, _, _ => none
  | k + 1, i, S => match it.at i S with
    | none => none
    | some none => some S
    | some (some (x, S0)) => if S.length ≤ S0.length ∧ wf S0.length x = true then (match g x σ0 S0 with
      | none => none
      | some σ2 => if wipeD σ2 vs = σ0 then (match body σ2 S0 with
        | some S4 => if S0.length ≤ S4.length then lpD g body it σ0 vs k (i + 1) S4 else none
        | none => none) else none) else none
theorem lp_ok {g : TG} [eg : EvG K g] {body : List (Option DV) → List DO → Option (List DO)} {P : L2.St → Hp → (Hp → Prop) → Prop} {it : ItD} {J : It} {ρ1 ρ0 : List Addr} {S1 S S' : List DO} {H1 H0 : Hp} {σ0 : List (Option DV)} {vs : List Nat} {k : Nat} {τ : L2.St} {Fin : Hp → Prop}
    (hb : ∀ {σ2 S2 S3 ρ H} {Nx : Hp → Prop}, body σ2 S2 = some S3 → wfS S2.length σ2 = true → Rep K ρ S2 H → Fr ρ0 H0 ρ H → (∀ ρ' H', Rep K ρ' S3 H' → Fr ρ H ρ' H' → Nx H') → P (dSt K ρ σ2) H Nx)
    (ok : ItOk K ρ1 H1 it J) (R1 : Rep K ρ1 S1 H1) (F0 : Fr ρ1 H1 ρ0 H0) (R : Rep K ρ0 S H0) (hσ : ∀ m, dSt K (ρ0 ++ m) σ0 = τ) (w : wfS S.length σ0 = true) (hτ : ∀ {ρ' σ2}, wipeD σ2 vs = σ0 → dSt K ρ' σ0 = τ → wipe (dSt K ρ' σ2) vs = τ)
    (h : lpD eg.run body it σ0 vs k 0 S = some S') (p : ∀ ρ' H', Rep K ρ' S' H' → Fr ρ0 H0 ρ' H' → Fin H') :
    ∃ W : Nat → Nat → Hp → Prop, (∃ m, W 0 m H0) ∧ ∀ i m H, W i m H → (J.stop i H ∧ Fin H) ∨ (J.go i H ∧ ∃ Nx : Hp → Prop, (∀ H', Nx H' → ∃ m', m' < m ∧ W (i + 1) m' H') ∧ ∀ x H', J.yld i H x H' → g x τ H' fun σ2 H2 => wipe σ2 vs = τ ∧ P σ2 H2 Nx) := by
  have atS : ∀ {ρ H'}, Fr ρ0 H0 ρ H' → dSt K ρ σ0 = τ := fun F => by
    obtain ⟨m, e, _⟩ := F.pre
    rw [e, hσ]
  refine ⟨fun i m H' => ∃ ρ Sd, Fr ρ0 H0 ρ H' ∧ Rep K ρ Sd H' ∧ wfS Sd.length σ0 = true ∧ lpD eg.run body it σ0 vs m i Sd = some S', ⟨k, _, S, Fr.refl _ _, R, w, h⟩, ?_⟩
  rintro i m H' ⟨ρ, Sd, F, R', w, h⟩
  have F1 := F0.trans R F
  cases m with
  | zero =>
    unfold lpD at h
    cases h
  | succ k =>
    unfold lpD at h
    split at h
    · cases h
    · rename_i hx
      cases h
      exact .inl ⟨ok.stop F1 R' hx, p _ _ R' F⟩
    · rename_i x S0 hx
      split at h
      · rename_i wx
        split at h
        · cases h
        · rename_i σ2 h1
          have w1 := eg.wf_ h1 wx.2 (wfS_le wx.1 w)
          split at h
          · rename_i hw
            split at h
            · rename_i S4 h4
              split at h
              · rename_i l4
                refine .inr ⟨ok.go F1 R' hx, fun H'' => ∃ ρ Sd, Fr ρ0 H0 ρ H'' ∧ Rep K ρ Sd H'' ∧ wfS Sd.length σ0 = true ∧ lpD eg.run body it σ0 vs k (i + 1) Sd = some S', fun H'' z => ⟨k, Nat.lt_succ_self k, z⟩, fun x' H'' y => ?_⟩
                obtain ⟨ρa, Ra, Fa, rfl⟩ := ok.yld F1 R' hx y
                have Fb := F.trans R' Fa
                have w := wfS_le wx.1 w
                rw [← atS Fb]
                refine eg.ok h1 Ra ⟨?_, ?_⟩
                · rw [atS Fb]
                  exact hτ hw (atS Fb)
                · exact hb h4 w1 Ra Fb fun ρ' H' R2 F2 => ⟨ρ', S4, Fb.trans Ra F2, R2, wfS_le l4 w, h⟩
              · cases h
            · cases h
          · cases h
      · cases h
theorem lp_len {g : DV → List (Option DV) → List DO → Option (List (Option DV))} {body : List (Option DV) → List DO → Option (List DO)} {it : ItD} {σ0 : List (Option DV)} {vs : List Nat} {S' : List DO} : ∀ {k i : Nat} {S : List DO}, lpD g body it σ0 vs k i S = some S' → S.length ≤ S'.length
  | 0, _, _, h => by
    unfold lpD at h
    cases h
  | k + 1, i, S, h => by
    unfold lpD at h
    split at h
    · cases h
    · cases h
      exact Nat.le_refl _
    · split at h
      · rename_i wx
        split at h
        · cases h
        · split at h
          · split at h
            · split at h
              · rename_i l4
                have := lp_len h
                omega
              · cases h
            · cases h
          · cases h
      · cases h
/-- a test, then what is done if it holds -/
def ifD (r : Option Res) (f : List DO → Option (List DO)) : Option (List DO) := match r with
  | some (.ret (.bl true) S) => f S
  | some (.ret (.bl false) S) => some S
  | _ => none
theorem if_ok {tt : TT} [ec : EvT K E tt] {σ : List (Option DV)} {S S' : List DO} {f : List DO → Option (List DO)} {ρ : List Addr} {H : Hp} {P : Hp → Prop} {Nx : Hp → Prop} (h : ifD (ec.run σ S) f = some S') (w : wfS S.length σ = true) (R : Rep K ρ S H) (q : ∀ ρ' H', Rep K ρ' S' H' → Fr ρ H ρ' H' → Nx H')
    (hf : ∀ {S1 ρ1 H1}, f S1 = some S' → S.length ≤ S1.length → Rep K ρ1 S1 H1 → Fr ρ H ρ1 H1 → dSt K ρ1 σ = dSt K ρ σ → P H1) : tt (dSt K ρ σ) H fun b H3 => if b = true then P H3 else Nx H3 := by
  unfold ifD at h
  split at h
  · rename_i S1 h1
    obtain ⟨l1, _⟩ := ba (ec.good h1 w)
    refine ec.ok h1 w R fun ρ1 H1 R1 F1 => ?_
    exact hf h (of_decide_eq_true l1) R1 F1 (F1.le R.len w)
  · rename_i S1 h1
    cases h
    refine ec.ok h1 w R fun ρ1 H1 R1 F1 => ?_
    exact q ρ1 H1 R1 F1
  · cases h
def addD (n : Nat) (r : Option Res) : Option (List DO) := match r with
  | some (.ret y S) => (match S[n]? with
    | some (.lst acc) => if acc.length ≤ 100000 ∧ wfO S.length (.lst (acc ++ [y])) = true then some (S.set n (.lst (acc ++ [y]))) else none
    | _ => none)
  | _ => none
theorem add_ok {te : TE} [ee : EvE K E te] {σ : List (Option DV)} {S S' : List DO} {n : Nat} {ρ : List Addr} {H : Hp} {Nx : Hp → Prop} {D : Addr} (h : addD n (ee.run σ S) = some S') (w : wfS S.length σ = true) (R : Rep K ρ S H) (hD : ∀ m, (ρ ++ m).getD n 0 = D) (q : ∀ ρ' H', Rep K ρ' S' H' → Fr ρ H ρ' H' → Nx H') :
    te (dSt K ρ σ) H fun y H7 => ∃ acc, H7 D = some (.lst acc) ∧ acc.length < sizeLine ∧ Nx (upd H7 D (.lst (acc ++ [y]))) := by
  unfold addD at h
  split at h
  · rename_i y S4 h4
    split at h
    · rename_i acc hacc
      split at h
      · rename_i c
        cases h
        refine ee.ok h4 w R fun ρ4 H4 R4 F4 => ?_
        obtain ⟨R5, F5⟩ := R4.set hacc c.2
        have ed : ρ4.getD n 0 = D := by
          obtain ⟨m, e, _⟩ := F4.pre
          rw [e, hD]
        have em : dO K ρ4 (.lst (acc ++ [y])) = .lst (acc.map (dV K ρ4) ++ [dV K ρ4 y]) := by simp [dO]
        rw [ed, em] at R5 F5
        have g4 := (R4.get hacc).1
        rw [ed] at g4
        exact ⟨_, g4, Nat.lt_of_le_of_lt (by rw [List.length_map]; exact c.1) (by decide), q _ _ R5 (F4.trans R4 F5)⟩
      · cases h
    · cases h
  · cases h
section
variable {g g1 : TG} {tt tt1 : TT} {te : TE} [eg : EvG K g] [ec : EvT K E tt] [ee : EvE K E te] [eg1 : EvG K g1] [ec1 : EvT K E tt1]
instance (wi wi1 : TI) (vs vs1 : List Nat) [ei : EvI K E wi] [ei1 : EvI K E wi1] : EvE K E (tLc2 wi g tt wi1 g1 tt1 te vs vs1) where
  run := fun σ S => match ei.run σ S with
    | some (.inl (it, S1)) => (match lpD eg.run (fun σ2 S2 => ifD (ec.run σ2 S2) fun S3 => match ei1.run σ2 S3 with
        | some (.inl (it1, S4)) => lpD eg1.run (fun σ3 S5 => ifD (ec1.run σ3 S5) fun S6 => addD S1.length (ee.run σ3 S6)) it1 (wipeD σ2 vs1) vs1 4096 0 S4
        | _ => none) it (wipeD σ vs) vs 4096 0 (S1 ++ [.lst []]) with
      | some S2 => some (.ret (.ref S1.length) S2)
      | none => none)
    | _ => none
  good := fun {σ S r} h w => by
    split at h
    · rename_i it S1 h1
      have l := ei.good h1 w
      split at h
      · rename_i S2 h2
        cases h
        have z := lp_len h2
        rw [List.length_append] at z
        simp only [List.length_cons, List.length_nil] at z
        show (decide _ && decide _) = true
        simp only [Bool.and_eq_true, decide_eq_true_eq]
        omega
      · cases h
    · cases h
  ok := fun {σ S r ρ H Q} h w R p => by
    split at h
    · rename_i it S1 h1
      have l := ei.good h1 w
      split at h
      · rename_i S2 h2
        cases h
        refine ei.ok h1 w R fun ρ1 H1 J R1 F1 okJ => fun Dl hD => ?_
        obtain ⟨R2, F2⟩ := R1.new (o := .lst []) hD rfl
        have w1 := wfS_le l w
        have w0 : wfS (S1 ++ [DO.lst []]).length (wipeD σ vs) = true := wfS_le (by simp; omega) (wipe_wf w)
        have wρ : wfS (ρ1 ++ [Dl]).length (wipeD σ vs) = true := by rw [R2.len]; exact w0
        have eσ : dSt K (ρ1 ++ [Dl]) σ = dSt K ρ σ := (F1.trans R1 F2).le R.len w
        have atD : ∀ {ρ H'}, Fr (ρ1 ++ [Dl]) (upd H1 Dl (.lst [])) ρ H' → ρ.getD S1.length 0 = Dl := fun F => by
          rw [F.at (by rw [List.length_append, R1.len]; simp), ← R1.len]
          simp [List.getD_eq_getElem?_getD]
        have L := lp_ok (K := K) (g := g) (ρ1 := ρ1) (ρ0 := ρ1 ++ [Dl]) (H1 := H1) (H0 := upd H1 Dl (.lst [])) (τ := wipe (dSt K ρ σ) vs) (Fin := fun H' => Q (.ref Dl) H')
          (P := fun σ2 H2 Nx => tt σ2 H2 fun b H3 =>
            if b = true then wi1 σ2 H3 fun J1 H4 => ∃ W1 : Nat → Nat → Hp → Prop, (∃ m, W1 0 m H4) ∧ ∀ j k H, W1 j k H →
              (J1.stop j H ∧ Nx H) ∨ (J1.go j H ∧ ∃ Nx1 : Hp → Prop, (∀ H', Nx1 H' → ∃ k', k' < k ∧ W1 (j + 1) k' H') ∧ ∀ x H', J1.yld j H x H' → g1 x (wipe σ2 vs1) H' fun σ3 H5 => wipe σ3 vs1 = wipe σ2 vs1 ∧ tt1 σ3 H5 fun b H6 =>
                if b = true then te σ3 H6 fun y H7 => ∃ acc, H7 Dl = some (.lst acc) ∧ acc.length < sizeLine ∧ Nx1 (upd H7 Dl (.lst (acc ++ [y]))) else Nx1 H6)
            else Nx H3) (fun {σ2 S2 S3 ρa Ha Nx} hb w2 Ra Fa q => ?_) okJ R1 F2 R2 (fun m => ?_) w0 (fun {ρ' σ2} e1 e2 => ?_) h2 (fun ρ' H' R' F' => ?_)
        · obtain ⟨W, hW0, hW⟩ := L
          exact ⟨W, hW0, hW⟩
        · refine if_ok hb w2 Ra q fun {S4 ρ4 H4} hf l4 R4 F4 e4 => ?_
          split at hf
          · rename_i it1 S5 h5
            rw [← e4]
            have w4 := wfS_le l4 w2
            have l5 := ei1.good h5 w4
            refine ei1.ok h5 w4 R4 fun ρ5 H5 J1 R5 F5 okJ1 => ?_
            have e5 : dSt K ρ5 σ2 = dSt K ρ4 σ2 := F5.le R4.len w4
            have w5 : wfS S5.length (wipeD σ2 vs1) = true := wfS_le l5 (wipe_wf w4)
            have w5ρ : wfS ρ5.length (wipeD σ2 vs1) = true := by rw [R5.len]; exact w5
            have F45 := F4.trans R4 F5
            refine lp_ok (K := K) (g := g1) (ρ1 := ρ5) (ρ0 := ρ5) (H1 := H5) (H0 := H5) (Fin := Nx) (P := fun σ3 H5 Nx1 => tt1 σ3 H5 fun b H6 =>
                if b = true then te σ3 H6 fun y H7 => ∃ acc, H7 Dl = some (.lst acc) ∧ acc.length < sizeLine ∧ Nx1 (upd H7 Dl (.lst (acc ++ [y]))) else Nx1 H6) (fun {σ3 S6 S7 ρ6 H6 Nx1} hb1 w6 R6 F6 q1 => ?_) okJ1 R5 (Fr.refl _ _) R5 (fun m => ?_) w5 (fun {ρ' σ3} e1 e2 => ?_) hf (fun ρ' H' R' F' => ?_)
            · refine if_ok hb1 w6 R6 q1 fun {S8 ρ8 H8} hf8 l8 R8 F8 e8 => ?_
              rw [← e8]
              refine add_ok hf8 (wfS_le l8 w6) R8 (fun m => ?_) fun ρ9 H9 R9 F9 => q1 ρ9 H9 R9 (F8.trans R8 F9)
              have z := atD (((Fa.trans Ra F45).trans R5 F6).trans R6 F8)
              have hl : S1.length < ρ8.length := by
                obtain ⟨m2, e, _⟩ := (((Fa.trans Ra F45).trans R5 F6).trans R6 F8).pre
                rw [e, List.length_append, List.length_append, R1.len]
                simp only [List.length_cons, List.length_nil]
                omega
              rw [app_getD hl]
              exact z
            · rw [dSt_app w5ρ, wipe_eq, e5]
            · rw [← wipe_eq, e1]
              exact e2
            · exact q ρ' H' R' (F45.trans R5 F')
          · cases hf
        · rw [dSt_app wρ, wipe_eq, eσ]
        · rw [← wipe_eq, e1]
          exact e2
        · have z := p ρ' H' R' ((F1.trans R1 F2).trans R2 F')
          have ev : dV K ρ' (.ref S1.length) = .ref Dl := by
            show V.ref _ = _
            rw [atD F']
          rw [ev] at z
          exact z
      · cases h
    · cases h
end
end RunX
set_option maxHeartbeats 4000000
/-! The words of such dicts, the world named (within blocks). -/
namespace NKx
open PySem PySem.Spec PyProof.Rows L2
section
variable {X : Cx} {o i e f value : Expr} {pos pos' tpos apos cpos : Pos} {td ty tv tx : TE} {w : World}
theorem pe_xgetW (hw : X.w = w) (hs : (X.K.lookup sysModules).isSome = true) (hu : X.A.units + 65 < cLine) (ho : PE X o td) (hi : PE X i ty) (hsl : NoSl i) : PE X (.Subscript o i pos) (tXGet w td ty) := by
  subst hw
  exact pe_xget hs hu ho hi hsl
theorem pc_xinW (hw : X.w = w) (hs : (X.K.lookup sysModules).isSome = true) (hu : X.A.units + 65 < cLine) (hi : PE X i ty) (ho : PE X o td) : PC X .In i o (tXIn w false ty td) := by
  subst hw
  exact pc_xin hs hu hi ho
theorem pc_xnotinW (hw : X.w = w) (hs : (X.K.lookup sysModules).isSome = true) (hu : X.A.units + 65 < cLine) (hi : PE X i ty) (ho : PE X o td) : PC X .NotIn i o (tXIn w true ty td) := by
  subst hw
  exact pc_xnotin hs hu hi ho
theorem set_xW (hw : X.w = w) (hs : (X.K.lookup sysModules).isSome = true) (hu : X.A.units + 65 < cLine) : PSet X (rSetX w) := by
  subst hw
  exact set_x hs hu
theorem pe_xget1W (hw : X.w = w) (hs : (X.K.lookup sysModules).isSome = true) (hu : X.A.units + 65 < cLine) (ho : PE X o td) (he : PE X e ty) (m : M1 X o "get" apos e cpos) : PE X (.Call (.Attribute o "get" apos) [e] [] cpos) (tXGet1 w td ty) := by
  subst hw
  exact pe_xget1 hs hu ho he m
theorem pe_xget2W (hw : X.w = w) (hs : (X.K.lookup sysModules).isSome = true) (hu : X.A.units + 65 < cLine) (ho : PE X o td) (he : PE X e ty) (hf : PE X f tx) (m : M2 X o "get" apos e f cpos) : PE X (.Call (.Attribute o "get" apos) [e, f] [] cpos) (tXGet2 w td ty tx) := by
  subst hw
  exact pe_xget2 hs hu ho he hf m
end
end NKx
namespace L2
open PySem PySem.Spec PyProof.Rows
theorem pi_tupW {X : Cx} {K : PySem.W.Frag} {tg l : Expr} {tl : TE} (hK : X.K = K) (hl : PE X l tl) : PI X tg l (iTup K tl) := by
  subst hK
  exact pi_tup hl
theorem pi_listW {X : Cx} {K : PySem.W.Frag} {tg l : Expr} {tl : TE} (hK : X.K = K) (hl : PE X l tl) : PI X tg l (iList K tl) := by
  subst hK
  exact pi_list hl
end L2
namespace DCT
open PySem PySem.Spec PyProof.Rows L2
theorem pe_dcBW {X : Cx} {w : World} (hw : X.w = w) {kx vx tg iter : Expr} {ifs : List Expr} {scope : Scope} {own : List (Str × Nat)} {pos : Pos} {wi : TI} {g : TG} {tt : TT} {tk tv : TE} (b : Bool) (hsy : (X.K.lookup sysModules).isSome = true) (hu : X.A.units + 65 < cLine) (hc : X.calm = true) (hN : X.N.Nodup) (hi : PI X tg iter wi) (ok : BlkOk X.N X.env.scope scope own)
    (hg : ∀ (s : Shared) (H : Hp) (C : Addr) (cl : List (Str × Addr)) (fp : List Addr), PG (X.blk s H scope (compEnvC scope cl C X.env) fp) tg g)
    (ht : ∀ (s : Shared) (H : Hp) (C : Addr) (cl : List (Str × Addr)) (fp : List Addr), PTs (X.blk s H scope (compEnvC scope cl C X.env) fp) ifs tt)
    (hk : ∀ (s : Shared) (H : Hp) (C : Addr) (cl : List (Str × Addr)) (fp : List Addr), PE (X.blk s H scope (compEnvC scope cl C X.env) fp) kx tk)
    (he : ∀ (s : Shared) (H : Hp) (C : Addr) (cl : List (Str × Addr)) (fp : List Addr), PE (X.blk s H scope (compEnvC scope cl C X.env) fp) vx tv) (hs : ∀ x, foldedSetIterable iter X.env x = pure x := by intro _; rfl) :
    PE X (.DictComp kx vx [⟨tg, iter, ifs, 0⟩] scope pos) (tDcB w b wi g tt tk tv (own.map (·.2))) := by
  subst hw
  exact pe_dcB b hsy hu hc hN hi ok hg ht hk he hs
end DCT
set_option maxHeartbeats 4000000
namespace RunX
open PySem PySem.Spec PyProof.Rows L2 He NKx
theorem op_neDE {X : Cx} (hu : X.A.units < cLine) : OpR X (compareOp .NotEq) rNeDE := by
  intro pins s σ H x y v u Q I rx ry h
  obtain ⟨a, b, ks, rfl, rfl, ea, eb, go⟩ := h
  obtain rfl : v = Value.ref a := rx
  obtain rfl : u = Value.ref b := ry
  obtain ⟨_, ya, va, ra, da⟩ := (show ObjOk X.prog X.w H s.heap a (.dK ks) from I.hok a _ ea)
  obtain ⟨_, yb, vb, rb, db⟩ := (show ObjOk X.prog X.w H s.heap b (.dK []) from I.hok b _ eb)
  cases rb
  have l := ra.length
  refine PySem.W.keq_ne (knd := mixKind X.prog X.w) (r := true) ya yb da db hu (fun e => ?_) (fin_bl I go (by cases ks <;> simp [← l]))
  cases va with
  | nil => exact .nil
  | cons p r => simp at e
/-- d != {} where d's keys are tuples -/
def rNeDT : R2 := fun x y H Q => ∃ a b ks, x = .ref a ∧ y = .ref b ∧ H a = some (.dT ks) ∧ H b = some (.dK []) ∧ ks ≠ [] ∧ Q (.bl true) H
section
variable {prog : Program} {w : World} {A : Around} {E : Value → Shared → Prop} {s : Shared}
theorem samePairs_ne {nm : String} {a b : Addr} {oa ob : Obj} {es es' : Array DictEntry} {ep ep' : Nat} {Q : Bool → Shared → Prop} (ha : (a == sysModules) = false) (hb : (b == sysModules) = false) (hoa : s.heap.get? a = some oa) (hda : oa.data = .dict es ep) (hob : s.heap.get? b = some ob) (hdb : ob.data = .dict es' ep')
    (hsz : es.size ≠ es'.size) (h : Q false s) : wpAny (model prog w) A (Builtin.Dict.samePairs nm a b) Q E s := by
  unfold Builtin.Dict.samePairs Builtin.Dict.showsAll
  rw [if_neg (show ¬ (a == sysModules) = true by rw [ha]; exact Bool.false_ne_true), if_neg (show ¬ (b == sysModules) = true by rw [hb]; exact Bool.false_ne_true)]
  refine wpAny_bind (wpAny_pure (wpAny_bind (wpAny_pure ?_)))
  refine wpAny_bind (wpAny_dictEntries hoa hda ?_)
  dsimp only
  refine wpAny_bind (wpAny_dictEntries hob hdb ?_)
  rw [if_pos (by simpa using hsz)]
  exact wpAny_bind (wpAny_rule (wpAny_pure h))
theorem dict_ne {a b : Addr} {oa ob : Obj} {es es' : Array DictEntry} {ep ep' : Nat} {Q : Value → Shared → Prop} (ta : s.TypeIs (.ref a) "dict") (tb : s.TypeIs (.ref b) "dict") (ha : (a == sysModules) = false) (hb : (b == sysModules) = false) (hoa : s.heap.get? a = some oa) (hda : oa.data = .dict es ep) (hob : s.heap.get? b = some ob) (hdb : ob.data = .dict es' ep')
    (hsz : es.size ≠ es'.size) (hu : A.units < cLine) (h : Q (.bool true) s) : wpAny (model prog w) A (compareOp .NotEq (.ref a) (.ref b)) Q E s := by
  refine wpAny_richCompare_same_room (op := .NotEq) ta tb PySem.F.slot_dict_ne (wpAny_call_entry PySem.F.slot_dict_ne ta PySem.F.entry_dict_ne ?_ (PySem.F.args_dict_ne_2 _ _)) hu
  show wpAny _ _ (Builtin.Dict.dictSlotArgs "__ne__" ⟨[.ref a, .ref b], []⟩ >>= _) _ _ s
  refine wpAny_bind ?_
  unfold Builtin.Dict.dictSlotArgs
  refine wpAny_bind (wpAny_notOrdered_dict ta ?_)
  show wpAny _ _ (pure (Value.ref a, Value.ref b)) _ _ s
  refine wpAny_pure ?_
  refine wpAny_bind (wpAny_isInstance (T := "dict") tb PySem.F.sub_dict_dict ?_)
  simp only [Bool.not_true, Bool.false_eq_true, if_false]
  refine wpAny_bind (wpAny_pure (wpAny_bind (wpAny_pure ?_)))
  refine wpAny_bind (samePairs_ne ha hb hoa hda hob hdb hsz ?_)
  refine wpAny_pure ⟨_, rfl, ?_, ?_⟩
  · exact fun x => nomatch x
  · simpa using h
end
theorem op_neDT {X : Cx} (hu : X.A.units < cLine) : OpR X (compareOp .NotEq) rNeDT := by
  intro pins s σ H x y v u Q I rx ry h
  obtain ⟨a, b, ks, rfl, rfl, ea, eb, hne, go⟩ := h
  obtain rfl : v = Value.ref a := rx
  obtain rfl : u = Value.ref b := ry
  obtain ⟨_, ya, xs, ra, da⟩ := dt_of I.hok ea
  obtain ⟨_, yb, vb, rb, db⟩ := dk_of I.hok eb
  cases rb
  have ta := da.typeIs
  have tb := db.typeIs
  obtain ⟨oa, es, ep, a1, a2, a3, a4, a5, a6⟩ := da
  obtain ⟨ob, es', ep', b1, b2, b3, b4, b5, b6⟩ := db
  have h1 : es'.size = 0 := by
    rw [← Array.length_toList]
    revert b5
    generalize es'.toList = l
    intro b5
    cases b5
    rfl
  have h2 : es.size ≠ 0 := by
    rw [← Array.length_toList, a4, List.length_map]
    cases ra with
    | nil => exact absurd rfl hne
    | cons h t => simp
  exact dict_ne ta tb ya yb a1 a3 b1 b3 (by rw [h1]; exact h2) hu (fin_bl I go rfl)
variable [Drw] [Cbv]
variable {K : PySem.W.Frag} {E : XK}
instance : EvR K rNeDE where
  run := fun S x y => match x, y with
    | .ref n, .ref m => (match S[n]?, S[m]? with
      | some (.dK ks), some (.dK []) => retS (.bl (!decide (ks.length = 0))) S
      | _, _ => none)
    | _, _ => none
  good := fun {S x y q} h wx wy => by
    split at h
    · split at h
      · exact ret_good h rfl
      · cases h
    · cases h
  ok := fun {S x y q ρ H Q E} h wx wy R p => by
    split at h
    · split at h
      · rename_i n m ks h1 h2
        refine ⟨_, _, _, rfl, rfl, (R.get h1).1, (R.get h2).1, ?_⟩
        have z := ret_post (E := E) h R p
        rw [List.length_map]
        exact z
      · cases h
    · cases h
/-- {k: v}, k a tuple of numbers and texts -/
instance (tk tv : TE) [k : EvE K E tk] [v : EvE K E tv] : EvE K E (tDisp1T tk tv) where
  run := fun σ S => bindE (k.run σ (S ++ [.dT []])) fun x S1 => bindE (v.run σ S1) fun y S2 => match x with
    | .ref m => (match S2[S.length]?, S2[m]? with
      | some (.dT []), some (.tup xs) => (match keysD xs with
        | some ks => some (.ret (.ref S.length) (S2.set S.length (.dT [(ks, y)])))
        | none => none)
      | _, _ => none)
    | _ => none
  good := fun {σ S r} h w => by
    have w0 : wfS (S ++ [DO.dT []]).length σ = true := wfS_le (by simp) w
    have z : good (S ++ [DO.dT []]).length r = true := bind_good (te := tk) h w0 fun {x S1 r} l1 wx h => bind_good (te := tv) h (wfS_le l1 w0) fun {y S2 r} l2 wy h => by
      split at h
      · split at h
        · split at h
          · cases h
            have l3 : S.length < S2.length := by
              have l1' := l1
              rw [List.length_append] at l1'
              simp only [List.length_cons, List.length_nil] at l1'
              omega
            show (decide _ && decide _) = true
            rw [List.length_set]
            simp only [Bool.and_eq_true, decide_eq_true_eq]
            omega
          · cases h
        · cases h
      · cases h
    exact good_le (by simp) z
  ok := fun {σ S r ρ H Q} h w R p => by
    intro d hd
    have w0 : wfS (S ++ [DO.dT []]).length σ = true := wfS_le (by simp) w
    obtain ⟨R0, F0⟩ := R.new (o := .dT []) hd rfl
    have e0 : dSt K (ρ ++ [d]) σ = dSt K ρ σ := F0.le R.len w
    rw [← e0]
    refine bind_ok (te := tk) h w0 R0 (Post.of p R0 F0) fun {x S1 ρ1 H1} l1 wx h R1 F1 e1 p => ?_
    rw [← e1]
    refine bind_ok (te := tv) h (wfS_le l1 w0) R1 p fun {y S2 ρ2 H2} l2 wy h R2 F2 e2 p => ?_
    split at h
    · rename_i m _
      split at h
      · rename_i xs h1 h2
        split at h
        · rename_i ks hk
          cases h
          have F02 := F1.trans R1 F2
          have atd : ρ2.getD S.length 0 = d := by
            rw [F02.at (by rw [List.length_append, R.len]; simp), ← R.len]
            simp [List.getD_eq_getElem?_getD]
          have g1 := (R2.get h1).1
          rw [atd] at g1
          have g2 := (R2.get h2).1
          have em : dO K ρ2 (.tup xs) = .tup (ks.map kV) := by
            show HO.tup _ = _
            rw [keysD_ok hk]
          rw [em] at g2
          have emx : dV K ρ1 (.ref m) = dV K ρ2 (.ref m) := by
            have wx2 : wf S1.length (.ref m) = true := wx
            have hm : m < ρ1.length := by
              rw [R1.len]
              exact of_decide_eq_true wx2
            show V.ref _ = V.ref _
            rw [F2.at hm]
          obtain ⟨R3, F3⟩ := R2.set (o' := .dT [(ks, y)]) h1 (by show (wf S2.length y && true) = true; rw [wy]; rfl)
          rw [atd] at R3 F3
          refine ⟨g1, _, ks, emx.trans rfl, g2, ?_⟩
          have z := p ρ2 _ R3 F3
          have ev : dV K ρ2 (.ref S.length) = .ref d := by
            show V.ref _ = _
            rw [atd]
          rw [ev] at z
          exact z
        · cases h
      · cases h
    · cases h
instance : EvR K rNeDT where
  run := fun S x y => match x, y with
    | .ref n, .ref m => (match S[n]?, S[m]? with
      | some (.dT (_ :: _)), some (.dK []) => retS (.bl true) S
      | _, _ => none)
    | _, _ => none
  good := fun {S x y q} h wx wy => by
    split at h
    · split at h
      · exact ret_good h rfl
      · cases h
    · cases h
  ok := fun {S x y q ρ H Q E} h wx wy R p => by
    split at h
    · split at h
      · rename_i n m k ks h1 h2
        exact ⟨_, _, _, rfl, rfl, (R.get h1).1, (R.get h2).1, by simp, ret_post (E := E) h R p⟩
      · cases h
    · cases h
end RunX
set_option maxHeartbeats 4000000
set_option synthInstance.maxSize 100000
set_option synthInstance.maxHeartbeats 4000000
namespace K7
open PySem PySem.Spec PyProof.Rows L2 He Hx Hy PO RunX PB NKx
section
variable [Drw] [Cbv] {K : PySem.W.Frag} {mg : Str → Option Value} {base : Heap}
abbrev ts_is_integer (K : PySem.W.Frag) : TS := tRet (tAndV (tCB (rIsi K) (tCons (tVar 0) (tCons (tC (V.ty "int")) tNil))) (tNotV (tCB (rIsi K) (tCons (tVar 0) (tCons (tC (V.ty "bool")) tNil)))))
def D_is_integer (K : PySem.W.Frag) : DefR := bodyR (K := K) ["value"] ["value"] (ts_is_integer K)
theorem ok_is_integer (T : Tx K mg) : Has Drw.prog Drw.wld K mg base (L2.CX Drw.prog Drw.wld) 1 "is_integer" ["value"] (spOf K (D_is_integer K)) := by
  obtain ⟨fd, F⟩ := T.fn_is_integer
  exact has_of T.g_is_integer F sc_is_integer (fun _ _ _ _ _ _ us hl => match us, hl with | [_], _ => rfl) (fun vs H Q E h => body_len h) (fun cdv A outer s H vs Q E hr h => ⟨ts_is_integer K, PSs.nox (
    (pss_one (ps_ret (by exact (pe_and (pe_callB (r := rIsi K) call_isi (by rfl) T.n_isinstance (by decide +kernel) (pa_cons (pv 0) (pa_cons (pe_bltn (v := .ty "int") (by rfl) T.n_int (by decide +kernel) rfl) pa_nil))) (pe_one (pe_not (pe_callB (r := rIsi K) call_isi (by rfl) T.n_isinstance (by decide +kernel) (pa_cons (pv 0) (pa_cons (pe_bltn (v := .ty "bool") (by rfl) T.n_bool (by decide +kernel) rfl) pa_nil)))))))))), body_ok (K := K) (E := E) (N := ["value"]) (ps := ["value"]) (ts := ts_is_integer K) (ts' := ts_is_integer K) rfl h⟩)
abbrev ts_is_word (K : PySem.W.Frag) : TS := tRet (tAndV (tCB (rIsi K) (tCons (tVar 0) (tCons (tC (V.ty "str")) tNil))) (tCB (rAll K) (tCons (tLc (iStr (tVar 0)) (gName 1) tYes (tOp rInS (tVar 1) (tC (V.str (Str.ofString "abcdefghijklmnopqrstuvwxyz")))) (List.map (fun x => x.snd) [(Str.ofString "sign", 1)])) tNil)))
def D_is_word (K : PySem.W.Frag) : DefR := bodyR (K := K) ["value", "sign"] ["value"] (ts_is_word K)
theorem ok_is_word (T : Tx K mg) : Has Drw.prog Drw.wld K mg base (L2.CX Drw.prog Drw.wld) 1 "is_word" ["value"] (spOf K (D_is_word K)) := by
  obtain ⟨t_LETTERS, c_LETTERS⟩ := T.v_LETTERS
  obtain ⟨fd, F⟩ := T.fn_is_word
  exact has_of T.g_is_word F sc_is_word (fun _ _ _ _ _ _ us hl => match us, hl with | [_], _ => rfl) (fun vs H Q E h => body_len h) (fun cdv A outer s H vs Q E hr h => ⟨ts_is_word K, PSs.nox (
    (pss_one (ps_ret (by exact (pe_and (pe_callB (r := rIsi K) call_isi (by rfl) T.n_isinstance (by decide +kernel) (pa_cons (pv 0) (pa_cons (pe_bltn (v := .ty "str") (by rfl) T.n_str (by decide +kernel) rfl) pa_nil))) (pe_one (pe_callB (r := rAll K) (cr_all rfl) (by rfl) T.n_all (by decide +kernel) (pa_cons (pe_lc (own := [("sign", 1)]) (g := gName 1) (by rfl) sc_is_word.nd (pi_str (pv 0)) (blkOk_by (own := [("sign", 1)]) (N := ["value", "sign"]) (sc := defScope s_is_word) (by decide +kernel)) (fun _ _ _ _ _ => (pg_name (i := 1) sc_is_word.nd rfl (Or.inl rfl))) (fun _ _ _ _ _ => pts_nil) (fun _ _ _ _ _ => (pe_cmpR op_inS (pv 1) (pe_glob (v := .str "abcdefghijklmnopqrstuvwxyz") rfl c_LETTERS ⟨_, rfl⟩) (by rfl)))) pa_nil)))))))), body_ok (K := K) (E := E) (N := ["value", "sign"]) (ps := ["value"]) (ts := ts_is_word K) (ts' := ts_is_word K) rfl h⟩)
abbrev ts_are_ascending (K : PySem.W.Frag) : TS := tRet (tCB (rAll K) (tCons (tLc (ZG.iZipG K (tCons (tVar 0) (tCons (tSl rSlS (tVar 0) (tPart (tC (V.int 1))) tNoPart) tNil))) (gTup K 2 (gCons (gName 1) (gCons (gName 2) gNil))) tYes (tOp rLtS (tVar 1) (tVar 2)) (List.map (fun x => x.snd) [(Str.ofString "one", 1), (Str.ofString "other", 2)])) tNil))
def D_are_ascending (K : PySem.W.Frag) : DefR := bodyR (K := K) ["signs", "one", "other"] ["signs"] (ts_are_ascending K)
theorem ok_are_ascending (T : Tx K mg) : Has Drw.prog Drw.wld K mg base (L2.CX Drw.prog Drw.wld) 1 "are_ascending" ["signs"] (spOf K (D_are_ascending K)) := by
  obtain ⟨fd, F⟩ := T.fn_are_ascending
  exact has_of T.g_are_ascending F sc_are_ascending (fun _ _ _ _ _ _ us hl => match us, hl with | [_], _ => rfl) (fun vs H Q E h => body_len h) (fun cdv A outer s H vs Q E hr h => ⟨ts_are_ascending K, PSs.nox (
    (pss_one (ps_ret (by exact (pe_callB (r := rAll K) (cr_all rfl) (by rfl) T.n_all (by decide +kernel) (pa_cons (pe_lc (own := [("one", 1), ("other", 2)]) (g := gTup K 2 (gCons (gName 1) (gCons (gName 2) gNil))) (by rfl) sc_are_ascending.nd (ZG.pi_zipG (by rfl) T.n_zip (pa_cons (pv 0) (pa_cons (pe_slice sl_str (pv 0) (po_some pe_int) po_none) pa_nil))) (blkOk_by (own := [("one", 1), ("other", 2)]) (N := ["signs", "one", "other"]) (sc := defScope s_are_ascending) (by decide +kernel)) (fun _ _ _ _ _ => (pg_tup (n := 2) (by rfl) (pgs_cons (pg_name (i := 1) sc_are_ascending.nd rfl (Or.inl rfl)) (pgs_cons (pg_name (i := 2) sc_are_ascending.nd rfl (Or.inl rfl)) pgs_nil)))) (fun _ _ _ _ _ => pts_nil) (fun _ _ _ _ _ => (pe_cmpR op_ltS (pv 1) (pv 2) (nomark _)))) pa_nil)))))), body_ok (K := K) (E := E) (N := ["signs", "one", "other"]) (ps := ["signs"]) (ts := ts_are_ascending K) (ts' := ts_are_ascending K) rfl h⟩)
abbrev ts_met_from (K : PySem.W.Frag) : TS := tSeq (tAsg tDNewK (gName 2)) (tSeq (tAsg (tLst tNil) (gName 3)) (tSeq (tFor (iList K (tVar 0)) (gName 4) (tSeq (tAsg (tC (V.bl true)) (gSub (tVar 2) (tVar 4) (rSetX Drw.wld))) (tDrop (tBM K "list" rAppend (tVar 3) (tCons (tVar 4) tNil))))) (tSeq (tWhile (tTest (tOp (rNeD K) (tVar 3) (tLst tNil))) (tFor (iList K (tXGet2 Drw.wld (tVar 1) (tBM0 K "list" rPop (tVar 3)) (tLst tNil))) (gName 4) (tIfS (tB (tXIn Drw.wld true (tVar 4) (tVar 2))) (tSeq (tAsg (tC (V.bl true)) (gSub (tVar 2) (tVar 4) (rSetX Drw.wld))) (tDrop (tBM K "list" rAppend (tVar 3) (tCons (tVar 4) tNil)))) tNext))) (tRet (tVar 2)))))
def D_met_from (K : PySem.W.Frag) : DefR := bodyR (K := K) ["begins", "follows", "found", "waiting", "state"] ["begins", "follows"] (ts_met_from K)
theorem ok_met_from (T : Tx K mg) : Has Drw.prog Drw.wld K mg base (L2.CX Drw.prog Drw.wld) 1 "met_from" ["begins", "follows"] (spOf K (D_met_from K)) := by
  obtain ⟨fd, F⟩ := T.fn_met_from
  exact has_of T.g_met_from F sc_met_from (fun _ _ _ _ _ _ us hl => match us, hl with | [_, _], _ => rfl) (fun vs H Q E h => body_len h) (fun cdv A outer s H vs Q E hr h => ⟨ts_met_from K, PSs.nox (
    (pss_cons (ps_set (i := 2) sc_met_from.nd rfl (Or.inl rfl) (by exact pe_dnewK))
    (pss_cons (ps_set (i := 3) sc_met_from.nd rfl (Or.inl rfl) (by exact (pe_lst pa_nil)))
    (pss_cons (ps_for PassesOwn.never rfl (pi_list (pv 0)) (pg_name (i := 4) sc_met_from.nd rfl (Or.inl rfl)) (pss_cons (ps_asg pe_bl (pg_sub (pv 2) (pv 4) (set_xW (w := Drw.wld) rfl T.sys hr.u65)))
    (pss_one (ps_expr (pe_bm PySem.F.plainAttrs_list PySem.F.slot_list_append PySem.F.type_list_append mt_append (pv 3) (pa_cons (pv 4) pa_nil))))))
    (pss_cons (ps_while PassesOwn.never (pt_cmpR (r := rNeD K) (op_neD hr.units) (pv 3) (pe_lst pa_nil) (nomark _)) (pss_one (ps_for PassesOwn.never rfl (pi_list (pe_xget2W (w := Drw.wld) rfl T.sys hr.u65 (pv 1) (pe_bm0 PySem.F.plainAttrs_list PySem.F.slot_list_pop PySem.F.type_list_pop mt_pop (pv 3)) (pe_lst pa_nil) ⟨by rfl, by rfl, by rfl, by rfl⟩)) (pg_name (i := 4) sc_met_from.nd rfl (Or.inl rfl)) (pss_one (ps_if (pt_cmp (pc_xnotinW (w := Drw.wld) rfl T.sys hr.u65 (pv 4) (pv 2))) (pss_cons (ps_asg pe_bl (pg_sub (pv 2) (pv 4) (set_xW (w := Drw.wld) rfl T.sys hr.u65)))
    (pss_one (ps_expr (pe_bm PySem.F.plainAttrs_list PySem.F.slot_list_append PySem.F.type_list_append mt_append (pv 3) (pa_cons (pv 4) pa_nil))))) pss_nil)))))
    (pss_one (ps_ret (by exact (pv 2))))))))), body_ok (K := K) (E := E) (N := ["begins", "follows", "found", "waiting", "state"]) (ps := ["begins", "follows"]) (ts := ts_met_from K) (ts' := ts_met_from K) rfl h⟩)
abbrev ts_linked (K : PySem.W.Frag) : TS := tSeq (tAsg tDNewK (gName 1)) (tSeq (tFor (iList K (tVar 0)) (gTup K 2 (gCons (gName 2) (gCons (gName 3) gNil))) (tAsg (tLst (StX.tStar K (tXGet2 Drw.wld (tVar 1) (tVar 2) (tLst tNil)) (tCons (tVar 3) tNil))) (gSub (tVar 1) (tVar 2) (rSetX Drw.wld)))) (tRet (tVar 1)))
def D_linked (K : PySem.W.Frag) : DefR := bodyR (K := K) ["pairs", "found", "one", "other"] ["pairs"] (ts_linked K)
theorem ok_linked (T : Tx K mg) : Has Drw.prog Drw.wld K mg base (L2.CX Drw.prog Drw.wld) 1 "linked" ["pairs"] (spOf K (D_linked K)) := by
  obtain ⟨fd, F⟩ := T.fn_linked
  exact has_of T.g_linked F sc_linked (fun _ _ _ _ _ _ us hl => match us, hl with | [_], _ => rfl) (fun vs H Q E h => body_len h) (fun cdv A outer s H vs Q E hr h => ⟨ts_linked K, PSs.nox (
    (pss_cons (ps_set (i := 1) sc_linked.nd rfl (Or.inl rfl) (by exact pe_dnewK))
    (pss_cons (ps_for PassesOwn.never rfl (pi_list (pv 0)) (pg_tup (n := 2) (by rfl) (pgs_cons (pg_name (i := 2) sc_linked.nd rfl (Or.inl rfl)) (pgs_cons (pg_name (i := 3) sc_linked.nd rfl (Or.inl rfl)) pgs_nil))) (pss_one (ps_asg (pe_lst (StX.pa_star (pe_xget2W (w := Drw.wld) rfl T.sys hr.u65 (pv 1) (pv 2) (pe_lst pa_nil) ⟨by rfl, by rfl, by rfl, by rfl⟩) (pa_cons (pv 3) pa_nil))) (pg_sub (pv 1) (pv 2) (set_xW (w := Drw.wld) rfl T.sys hr.u65)))))
    (pss_one (ps_ret (by exact (pv 1))))))), body_ok (K := K) (E := E) (N := ["pairs", "found", "one", "other"]) (ps := ["pairs"]) (ts := ts_linked K) (ts' := ts_linked K) rfl h⟩)
abbrev ts_edges_after (K : PySem.W.Frag) : TS := tSeq (tAsg tDNewT (gName 1)) (tSeq (tFor (iTup K (tVar 0)) (gName 2) (tAsg (tTup (StX.tStar K (tXGet2 Drw.wld (tVar 1) (tSl (rSlT K) (tVar 2) tNoPart (tPart (tC (V.int 2)))) (tTup tNil)) (tCons (tVar 2) tNil))) (gSub (tVar 1) (tSl (rSlT K) (tVar 2) tNoPart (tPart (tC (V.int 2)))) (rSetX Drw.wld)))) (tRet (tVar 1)))
def D_edges_after (K : PySem.W.Frag) : DefR := bodyR (K := K) ["edges", "found", "edge"] ["edges"] (ts_edges_after K)
theorem ok_edges_after (T : Tx K mg) : Has Drw.prog Drw.wld K mg base (L2.CX Drw.prog Drw.wld) 1 "edges_after" ["edges"] (spOf K (D_edges_after K)) := by
  obtain ⟨fd, F⟩ := T.fn_edges_after
  exact has_of T.g_edges_after F sc_edges_after (fun _ _ _ _ _ _ us hl => match us, hl with | [_], _ => rfl) (fun vs H Q E h => body_len h) (fun cdv A outer s H vs Q E hr h => ⟨ts_edges_after K, PSs.nox (
    (pss_cons (ps_set (i := 1) sc_edges_after.nd rfl (Or.inl rfl) (by exact pe_dnewT))
    (pss_cons (ps_for PassesOwn.never rfl (pi_tup (pv 0)) (pg_name (i := 2) sc_edges_after.nd rfl (Or.inl rfl)) (pss_one (ps_asg (pe_tup (StX.pa_star (pe_xget2W (w := Drw.wld) rfl T.sys hr.u65 (pv 1) (pe_slice sl_tup (pv 2) po_none (po_some pe_int)) (pe_tup pa_nil) ⟨by rfl, by rfl, by rfl, by rfl⟩) (pa_cons (pv 2) pa_nil))) (pg_sub (pv 1) (pe_slice sl_tup (pv 2) po_none (po_some pe_int)) (set_xW (w := Drw.wld) rfl T.sys hr.u65)))))
    (pss_one (ps_ret (by exact (pv 1))))))), body_ok (K := K) (E := E) (N := ["edges", "found", "edge"]) (ps := ["edges"]) (ts := ts_edges_after K) (ts' := ts_edges_after K) rfl h⟩)
abbrev ts_edges_before (K : PySem.W.Frag) : TS := tSeq (tAsg tDNewT (gName 1)) (tSeq (tFor (iTup K (tVar 0)) (gName 2) (tSeq (tAsg (tTup (tCons (tOp (rIxT K) (tVar 2) (tC (V.int 1))) (tCons (tOp (rIxT K) (tVar 2) (tC (V.int 3))) tNil))) (gName 3)) (tAsg (tTup (StX.tStar K (tXGet2 Drw.wld (tVar 1) (tVar 3) (tTup tNil)) (tCons (tVar 2) tNil))) (gSub (tVar 1) (tVar 3) (rSetX Drw.wld))))) (tRet (tVar 1)))
def D_edges_before (K : PySem.W.Frag) : DefR := bodyR (K := K) ["edges", "found", "edge", "key"] ["edges"] (ts_edges_before K)
theorem ok_edges_before (T : Tx K mg) : Has Drw.prog Drw.wld K mg base (L2.CX Drw.prog Drw.wld) 1 "edges_before" ["edges"] (spOf K (D_edges_before K)) := by
  obtain ⟨fd, F⟩ := T.fn_edges_before
  exact has_of T.g_edges_before F sc_edges_before (fun _ _ _ _ _ _ us hl => match us, hl with | [_], _ => rfl) (fun vs H Q E h => body_len h) (fun cdv A outer s H vs Q E hr h => ⟨ts_edges_before K, PSs.nox (
    (pss_cons (ps_set (i := 1) sc_edges_before.nd rfl (Or.inl rfl) (by exact pe_dnewT))
    (pss_cons (ps_for PassesOwn.never rfl (pi_tup (pv 0)) (pg_name (i := 2) sc_edges_before.nd rfl (Or.inl rfl)) (pss_cons (ps_set (i := 3) sc_edges_before.nd rfl (Or.inl rfl) (by exact (pe_tup (pa_cons (pe_ix (r := rIxT K) ix_tup (pv 2) pe_int (fun _ _ => rfl)) (pa_cons (pe_ix (r := rIxT K) ix_tup (pv 2) pe_int (fun _ _ => rfl)) pa_nil)))))
    (pss_one (ps_asg (pe_tup (StX.pa_star (pe_xget2W (w := Drw.wld) rfl T.sys hr.u65 (pv 1) (pv 3) (pe_tup pa_nil) ⟨by rfl, by rfl, by rfl, by rfl⟩) (pa_cons (pv 2) pa_nil))) (pg_sub (pv 1) (pv 3) (set_xW (w := Drw.wld) rfl T.sys hr.u65))))))
    (pss_one (ps_ret (by exact (pv 1))))))), body_ok (K := K) (E := E) (N := ["edges", "found", "edge", "key"]) (ps := ["edges"]) (ts := ts_edges_before K) (ts' := ts_edges_before K) rfl h⟩)
abbrev ts_kept_words (K : PySem.W.Frag) : TS := tRet (DCT.tDcB Drw.wld false (iList K (tCB (rSortedI K) (tCons (tCB rListD (tCons (tVar 0) tNil)) tNil))) (gName 2) (tTest (tOp (rIn K false) (tVar 2) (tVar 1))) (tVar 2) (tXGet Drw.wld (tVar 0) (tVar 2)) (List.map (fun x => x.snd) [(Str.ofString "state", 2)]))
def D_kept_words (K : PySem.W.Frag) : DefR := bodyR (K := K) ["words", "states", "state"] ["words", "states"] (ts_kept_words K)
theorem ok_kept_words (T : Tx K mg) : Has Drw.prog Drw.wld K mg base (L2.CX Drw.prog Drw.wld) 1 "kept_words" ["words", "states"] (spOf K (D_kept_words K)) := by
  obtain ⟨fd, F⟩ := T.fn_kept_words
  exact has_of T.g_kept_words F sc_kept_words (fun _ _ _ _ _ _ us hl => match us, hl with | [_, _], _ => rfl) (fun vs H Q E h => body_len h) (fun cdv A outer s H vs Q E hr h => ⟨ts_kept_words K, PSs.nox (
    (pss_one (ps_ret (by exact (DCT.pe_dcB (own := [("state", 2)]) (g := gName 2) false T.sys hr.u65 (by rfl) sc_kept_words.nd (pi_list (pe_callB (r := rSortedI K) cr_sortedI (by rfl) T.n_sorted (by decide +kernel) (pa_cons (pe_callTy (r := rListD) (call_list_dK (by rfl)) (by rfl) T.n_list (by decide +kernel) (pa_cons (pv 0) pa_nil)) pa_nil))) (blkOk_by (own := [("state", 2)]) (N := ["words", "states", "state"]) (sc := defScope s_kept_words) (by decide +kernel)) (fun _ _ _ _ _ => (pg_name (i := 2) sc_kept_words.nd rfl (Or.inl rfl))) (fun _ _ _ _ _ => (pts_one (pt_cmpR (r := rIn K false) op_in_seq (pv 2) (pv 1) (by rfl)))) (fun _ _ _ _ _ => (pv 2)) (fun _ _ _ _ _ => (pe_xgetW (w := Drw.wld) rfl T.sys hr.u65 (pv 0) (pv 2) (fun _ _ => rfl)))))))), body_ok (K := K) (E := E) (N := ["words", "states", "state"]) (ps := ["words", "states"]) (ts := ts_kept_words K) (ts' := ts_kept_words K) rfl h⟩)
abbrev ts_require_rewriter (K : PySem.W.Frag) (E : XK) : TS := tIfS (tNot (tB (tCB (rIsO (ga K (Str.ofString "Rewriter"))) (tCons (tVar 0) (tCons (tC (V.ref (ga K (Str.ofString "Rewriter")))) tNil))))) (RunX.tRaise (ga K (Str.ofString "InvalidRewriter")) E) tNext
def D_require_rewriter (K : PySem.W.Frag) : DefR := bodyR (K := K) ["value"] ["value"] (ts_require_rewriter K EN)
theorem ok_require_rewriter (T : Tx K mg) : Has Drw.prog Drw.wld K mg base (L2.CX Drw.prog Drw.wld) 1 "require_rewriter" ["value"] (spOf K (D_require_rewriter K)) := by
  obtain ⟨fd, F⟩ := T.fn_require_rewriter
  exact has_of T.g_require_rewriter F sc_require_rewriter (fun _ _ _ _ _ _ us hl => match us, hl with | [_], _ => rfl) (fun vs H Q E h => body_len h) (fun cdv A outer s H vs Q E hr h => ⟨ts_require_rewriter K E, (pss_one (ps_if (pt_not (pt_val (pe_callB (r := rIsO (ga K "Rewriter")) (call_isO T.is_Rewriter) (by rfl) T.n_isinstance (by decide +kernel) (pa_cons (pv 0) (pa_cons (pe_glob (v := .ref (ga K "Rewriter")) (by rfl) T.g_Rewriter rfl) pa_nil))))) (pss_one (asRaise (C := ga K "InvalidRewriter") (E := E) (ps_raise rfl (takes_of rfl rfl rfl rfl) (pmk_own PySem.F.excBase_ValueError (T.e_InvalidRewriter).1 T.g_InvalidRewriter (T.e_InvalidRewriter).2.1 (raises_own (T.e_InvalidRewriter).2.2.1 (T.e_InvalidRewriter).2.2.2) (by rfl))))) pss_nil)), body_ok (K := K) (E := E) (N := ["value"]) (ps := ["value"]) (ts := ts_require_rewriter K EN) (ts' := ts_require_rewriter K E) rfl h⟩)
abbrev ts_pair_targets (K : PySem.W.Frag) : TS := tSeq (tAsg (tLst tNil) (gName 2)) (tSeq (tFor (iStr (tFldO (ga K (Str.ofString "Rewriter")) (Str.ofString "own_letters") (tVar 0))) (gName 3) (tFor (iTup K (tXGet2 Drw.wld (tFldO (ga K (Str.ofString "Rewriter")) (Str.ofString "own_after") (tVar 0)) (tTup (tCons (tOp (rIxT K) (tVar 1) (tC (V.int 0))) (tCons (tVar 3) tNil))) (tTup tNil))) (gName 4) (tSeq (tAsg (tXGet2 Drw.wld (tFldO (ga K (Str.ofString "Rewriter")) (Str.ofString "own_after") (tVar 0)) (tTup (tCons (tOp (rIxT K) (tVar 1) (tC (V.int 1))) (tCons (tVar 3) tNil))) (tTup tNil)) (gName 5)) (tDrop (tBM K "list" rExtend (tVar 2) (tCons (tLc (iTup K (tVar 5)) (gName 6) tYes (tTup (tCons (tVar 4) (tCons (tVar 6) (tCons (tTup (tCons (tOp (rIxT K) (tVar 4) (tC (V.int 3))) (tCons (tOp (rIxT K) (tVar 6) (tC (V.int 3))) tNil))) tNil)))) (List.map (fun x => x.snd) [(Str.ofString "other", 6)])) tNil)))))) (tRet (tVar 2)))
def D_pair_targets (K : PySem.W.Frag) : DefR := bodyR (K := K) ["rewriter", "pair", "found", "letter", "edge", "others", "other"] ["rewriter", "pair"] (ts_pair_targets K)
theorem ok_pair_targets (T : Tx K mg) : Has Drw.prog Drw.wld K mg base (L2.CX Drw.prog Drw.wld) 1 "pair_targets" ["rewriter", "pair"] (spOf K (D_pair_targets K)) := by
  obtain ⟨fd, F⟩ := T.fn_pair_targets
  exact has_of T.g_pair_targets F sc_pair_targets (fun _ _ _ _ _ _ us hl => match us, hl with | [_, _], _ => rfl) (fun vs H Q E h => body_len h) (fun cdv A outer s H vs Q E hr h => ⟨ts_pair_targets K, PSs.nox (
    (pss_cons (ps_set (i := 2) sc_pair_targets.nd rfl (Or.inl rfl) (by exact (pe_lst pa_nil)))
    (pss_cons (ps_for PassesOwn.never rfl (pi_str (pe_fldO (T.c_Rewriter).1 T.f_Rewriter_own_letters (pv 0))) (pg_name (i := 3) sc_pair_targets.nd rfl (Or.inl rfl)) (pss_one (ps_for PassesOwn.never rfl (pi_tup (pe_xget2W (w := Drw.wld) rfl T.sys hr.u65 (pe_fldO (T.c_Rewriter).1 T.f_Rewriter_own_after (pv 0)) (pe_tup (pa_cons (pe_ix (r := rIxT K) ix_tup (pv 1) pe_int (fun _ _ => rfl)) (pa_cons (pv 3) pa_nil))) (pe_tup pa_nil) ⟨by rfl, by rfl, by rfl, by rfl⟩)) (pg_name (i := 4) sc_pair_targets.nd rfl (Or.inr rfl)) (pss_cons (ps_set (i := 5) sc_pair_targets.nd rfl (Or.inl rfl) (by exact (pe_xget2W (w := Drw.wld) rfl T.sys hr.u65 (pe_fldO (T.c_Rewriter).1 T.f_Rewriter_own_after (pv 0)) (pe_tup (pa_cons (pe_ix (r := rIxT K) ix_tup (pv 1) pe_int (fun _ _ => rfl)) (pa_cons (pv 3) pa_nil))) (pe_tup pa_nil) ⟨by rfl, by rfl, by rfl, by rfl⟩)))
    (pss_one (ps_expr (pe_bm PySem.F.plainAttrs_list PySem.F.slot_list_extend PySem.F.type_list_extend mt_extend (pv 2) (pa_cons (pe_lc (own := [("other", 6)]) (g := gName 6) (by rfl) sc_pair_targets.nd (pi_tup (pv 5)) (blkOk_by (own := [("other", 6)]) (N := ["rewriter", "pair", "found", "letter", "edge", "others", "other"]) (sc := defScope s_pair_targets) (by decide +kernel)) (fun _ _ _ _ _ => (pg_name (i := 6) sc_pair_targets.nd rfl (Or.inl rfl))) (fun _ _ _ _ _ => pts_nil) (fun _ _ _ _ _ => (pe_tup (pa_cons (pv 4) (pa_cons (pv 6) (pa_cons (pe_tup (pa_cons (pe_ix (r := rIxT K) ix_tup (pv 4) pe_int (fun _ _ => rfl)) (pa_cons (pe_ix (r := rIxT K) ix_tup (pv 6) pe_int (fun _ _ => rfl)) pa_nil))) pa_nil)))))) pa_nil))))))))
    (pss_one (ps_ret (by exact (pv 2))))))), body_ok (K := K) (E := E) (N := ["rewriter", "pair", "found", "letter", "edge", "others", "other"]) (ps := ["rewriter", "pair"]) (ts := ts_pair_targets K) (ts' := ts_pair_targets K) rfl h⟩)
end
end K7
set_option maxHeartbeats 4000000
set_option synthInstance.maxSize 100000
set_option synthInstance.maxHeartbeats 4000000
namespace K7
open PySem PySem.Spec PyProof.Rows L2 He Hx Hy PO RunX PB NKx
section
variable [Drw] [Cbv] {K : PySem.W.Frag} {mg : Str → Option Value} {base : Heap}
abbrev ts_is_between (K : PySem.W.Frag) : TS := tRet (tAndV (tCall (spOf K (D_is_integer K)) [] E0 (tCons (tVar 0) tNil)) (tChain (rI0 fun i j => V.bl (decide (i ≤ j))) (rI0 fun i j => V.bl (decide (i ≤ j))) (tVar 1) (tVar 0) (tVar 2)))
def D_is_between (K : PySem.W.Frag) : DefR := bodyR (K := K) ["value", "low", "high"] ["value", "low", "high"] (ts_is_between K)
theorem ok_is_between (T : Tx K mg) : Has Drw.prog Drw.wld K mg base (L2.CX Drw.prog Drw.wld) 2 "is_between" ["value", "low", "high"] (spOf K (D_is_between K)) := by
  obtain ⟨g_is_integer, k_is_integer, fd_is_integer, G_is_integer, b_is_integer⟩ := ok_is_integer (base := base) T
  obtain ⟨fd, F⟩ := T.fn_is_between
  exact has_of T.g_is_between F sc_is_between (fun _ _ _ _ _ _ us hl => match us, hl with | [_, _, _], _ => rfl) (fun vs H Q E h => body_len h) (fun cdv A outer s H vs Q E hr h => ⟨ts_is_between K, PSs.nox (
    (pss_one (ps_ret (by exact (pe_and (pe_call (E := E0) G_is_integer (hr.mono (by decide)) (by rfl) g_is_integer k_is_integer b_is_integer .nil passX0 (pa_cons (pv 0) pa_nil)) (pe_one (pe_chain op_le op_le (pv 1) (pv 0) (pv 2)))))))), body_ok (K := K) (E := E) (N := ["value", "low", "high"]) (ps := ["value", "low", "high"]) (ts := ts_is_between K) (ts' := ts_is_between K) rfl h⟩)
abbrev ts_is_text (K : PySem.W.Frag) : TS := tRet (tAndV (tCB (rIsi K) (tCons (tVar 0) (tCons (tC (V.ty "str")) tNil))) (tAndV (tOp (rI0 fun i j => V.bl (decide (i ≤ j))) (tCB (rLen K) (tCons (tVar 0) tNil)) (tC (V.int 60))) (tCall (spOf K (D_is_word K)) [] E0 (tCons (tVar 0) tNil))))
def D_is_text (K : PySem.W.Frag) : DefR := bodyR (K := K) ["value"] ["value"] (ts_is_text K)
theorem ok_is_text (T : Tx K mg) : Has Drw.prog Drw.wld K mg base (L2.CX Drw.prog Drw.wld) 2 "is_text" ["value"] (spOf K (D_is_text K)) := by
  obtain ⟨t_MAX_TEXT, c_MAX_TEXT⟩ := T.v_MAX_TEXT
  obtain ⟨g_is_word, k_is_word, fd_is_word, G_is_word, b_is_word⟩ := ok_is_word (base := base) T
  obtain ⟨fd, F⟩ := T.fn_is_text
  exact has_of T.g_is_text F sc_is_text (fun _ _ _ _ _ _ us hl => match us, hl with | [_], _ => rfl) (fun vs H Q E h => body_len h) (fun cdv A outer s H vs Q E hr h => ⟨ts_is_text K, PSs.nox (
    (pss_one (ps_ret (by exact (pe_and (pe_callB (r := rIsi K) call_isi (by rfl) T.n_isinstance (by decide +kernel) (pa_cons (pv 0) (pa_cons (pe_bltn (v := .ty "str") (by rfl) T.n_str (by decide +kernel) rfl) pa_nil))) (pe_and (pe_cmpR op_le (pe_callB (r := rLen K) call_len (by rfl) T.n_len (by decide +kernel) (pa_cons (pv 0) pa_nil)) (pe_glob (v := .int 60) rfl c_MAX_TEXT ⟨_, rfl⟩) (nomark _)) (pe_one (pe_call (E := E0) G_is_word (hr.mono (by decide)) (by rfl) g_is_word k_is_word b_is_word .nil passX0 (pa_cons (pv 0) pa_nil))))))))), body_ok (K := K) (E := E) (N := ["value"]) (ps := ["value"]) (ts := ts_is_text K) (ts' := ts_is_text K) rfl h⟩)
abbrev ts_are_letters (K : PySem.W.Frag) : TS := tRet (tAndV (tCall (spOf K (D_is_word K)) [] E0 (tCons (tVar 0) tNil)) (tAndV (tChain (rI0 fun i j => V.bl (decide (i ≤ j))) (rI0 fun i j => V.bl (decide (i ≤ j))) (tC (V.int 1)) (tCB (rLen K) (tCons (tVar 0) tNil)) (tC (V.int 4))) (tCall (spOf K (D_are_ascending K)) [] E0 (tCons (tVar 0) tNil))))
def D_are_letters (K : PySem.W.Frag) : DefR := bodyR (K := K) ["value"] ["value"] (ts_are_letters K)
theorem ok_are_letters (T : Tx K mg) : Has Drw.prog Drw.wld K mg base (L2.CX Drw.prog Drw.wld) 2 "are_letters" ["value"] (spOf K (D_are_letters K)) := by
  obtain ⟨t_MOST_LETTERS_words, c_MOST_LETTERS_words⟩ := T.v_MOST_LETTERS_words
  obtain ⟨g_are_ascending, k_are_ascending, fd_are_ascending, G_are_ascending, b_are_ascending⟩ := ok_are_ascending (base := base) T
  obtain ⟨g_is_word, k_is_word, fd_is_word, G_is_word, b_is_word⟩ := ok_is_word (base := base) T
  obtain ⟨fd, F⟩ := T.fn_are_letters
  exact has_of T.g_are_letters F sc_are_letters (fun _ _ _ _ _ _ us hl => match us, hl with | [_], _ => rfl) (fun vs H Q E h => body_len h) (fun cdv A outer s H vs Q E hr h => ⟨ts_are_letters K, PSs.nox (
    (pss_one (ps_ret (by exact (pe_and (pe_call (E := E0) G_is_word (hr.mono (by decide)) (by rfl) g_is_word k_is_word b_is_word .nil passX0 (pa_cons (pv 0) pa_nil)) (pe_and (pe_chain op_le op_le pe_int (pe_callB (r := rLen K) call_len (by rfl) T.n_len (by decide +kernel) (pa_cons (pv 0) pa_nil)) (pe_glob (v := .int 4) rfl c_MOST_LETTERS_words ⟨_, rfl⟩)) (pe_one (pe_call (E := E0) G_are_ascending (hr.mono (by decide)) (by rfl) g_are_ascending k_are_ascending b_are_ascending .nil passX0 (pa_cons (pv 0) pa_nil))))))))), body_ok (K := K) (E := E) (N := ["value"]) (ps := ["value"]) (ts := ts_are_letters K) (ts' := ts_are_letters K) rfl h⟩)
abbrev ts_useful_in (K : PySem.W.Frag) : TS := tSeq (tAsg (tCall (spOf K (D_met_from K)) [] E0 (tCons (tCB rListD (tCons (tVar 0) tNil)) (tCons (tCall (spOf K (D_linked K)) [] E0 (tCons (tLc (iTup K (tVar 1)) (gName 3) tYes (tTup (tCons (tOp (rIxT K) (tVar 3) (tC (V.int 0))) (tCons (tOp (rIxT K) (tVar 3) (tC (V.int 3))) tNil))) (List.map (fun x => x.snd) [(Str.ofString "edge", 3)])) tNil)) tNil))) (gName 4)) (tSeq (tAsg (tCall (spOf K (D_met_from K)) [] E0 (tCons (tCB rListD (tCons (tVar 2) tNil)) (tCons (tCall (spOf K (D_linked K)) [] E0 (tCons (tLc (iTup K (tVar 1)) (gName 3) tYes (tTup (tCons (tOp (rIxT K) (tVar 3) (tC (V.int 3))) (tCons (tOp (rIxT K) (tVar 3) (tC (V.int 0))) tNil))) (List.map (fun x => x.snd) [(Str.ofString "edge", 3)])) tNil)) tNil))) (gName 5)) (tRet (tCB (rSortedI K) (tCons (tLockE (tLc (iKeys (tVar 4)) (gName 6) (tB (tXIn Drw.wld false (tVar 6) (tVar 5))) (tVar 6) (List.map (fun x => x.snd) [(Str.ofString "state", 6)]))) tNil))))
def D_useful_in (K : PySem.W.Frag) : DefR := bodyR (K := K) ["starts", "edges", "ends", "edge", "ahead", "back", "state"] ["starts", "edges", "ends"] (ts_useful_in K)
theorem ok_useful_in (T : Tx K mg) : Has Drw.prog Drw.wld K mg base (L2.CX Drw.prog Drw.wld) 2 "useful_in" ["starts", "edges", "ends"] (spOf K (D_useful_in K)) := by
  obtain ⟨g_met_from, k_met_from, fd_met_from, G_met_from, b_met_from⟩ := ok_met_from (base := base) T
  obtain ⟨g_linked, k_linked, fd_linked, G_linked, b_linked⟩ := ok_linked (base := base) T
  obtain ⟨fd, F⟩ := T.fn_useful_in
  exact has_of T.g_useful_in F sc_useful_in (fun _ _ _ _ _ _ us hl => match us, hl with | [_, _, _], _ => rfl) (fun vs H Q E h => body_len h) (fun cdv A outer s H vs Q E hr h => ⟨ts_useful_in K, PSs.nox (
    (pss_cons (ps_set (i := 4) sc_useful_in.nd rfl (Or.inl rfl) (by exact (pe_call (E := E0) G_met_from (hr.mono (by decide)) (by rfl) g_met_from k_met_from b_met_from .nil passX0 (pa_cons (pe_callTy (r := rListD) (call_list_dK (by rfl)) (by rfl) T.n_list (by decide +kernel) (pa_cons (pv 0) pa_nil)) (pa_cons (pe_call (E := E0) G_linked (hr.mono (by decide)) (by rfl) g_linked k_linked b_linked .nil passX0 (pa_cons (pe_lc (own := [("edge", 3)]) (g := gName 3) (by rfl) sc_useful_in.nd (pi_tup (pv 1)) (blkOk_by (own := [("edge", 3)]) (N := ["starts", "edges", "ends", "edge", "ahead", "back", "state"]) (sc := defScope s_useful_in) (by decide +kernel)) (fun _ _ _ _ _ => (pg_name (i := 3) sc_useful_in.nd rfl (Or.inl rfl))) (fun _ _ _ _ _ => pts_nil) (fun _ _ _ _ _ => (pe_tup (pa_cons (pe_ix (r := rIxT K) ix_tup (pv 3) pe_int (fun _ _ => rfl)) (pa_cons (pe_ix (r := rIxT K) ix_tup (pv 3) pe_int (fun _ _ => rfl)) pa_nil))))) pa_nil)) pa_nil)))))
    (pss_cons (ps_set (i := 5) sc_useful_in.nd rfl (Or.inr rfl) (by exact (pe_call (E := E0) G_met_from (hr.mono (by decide)) (by rfl) g_met_from k_met_from b_met_from .nil passX0 (pa_cons (pe_callTy (r := rListD) (call_list_dK (by rfl)) (by rfl) T.n_list (by decide +kernel) (pa_cons (pv 2) pa_nil)) (pa_cons (pe_call (E := E0) G_linked (hr.mono (by decide)) (by rfl) g_linked k_linked b_linked .nil passX0 (pa_cons (pe_lc (own := [("edge", 3)]) (g := gName 3) (by rfl) sc_useful_in.nd (pi_tup (pv 1)) (blkOk_by (own := [("edge", 3)]) (N := ["starts", "edges", "ends", "edge", "ahead", "back", "state"]) (sc := defScope s_useful_in) (by decide +kernel)) (fun _ _ _ _ _ => (pg_name (i := 3) sc_useful_in.nd rfl (Or.inl rfl))) (fun _ _ _ _ _ => pts_nil) (fun _ _ _ _ _ => (pe_tup (pa_cons (pe_ix (r := rIxT K) ix_tup (pv 3) pe_int (fun _ _ => rfl)) (pa_cons (pe_ix (r := rIxT K) ix_tup (pv 3) pe_int (fun _ _ => rfl)) pa_nil))))) pa_nil)) pa_nil)))))
    (pss_one (ps_ret (by exact (pe_callB (r := rSortedI K) cr_sortedI (by rfl) T.n_sorted (by decide +kernel) (pa_cons (pe_lock (pe_lc (own := [("state", 6)]) (g := gName 6) (by rfl) sc_useful_in.nd (pi_keys (pv 4)) (blkOk_by (own := [("state", 6)]) (N := ["starts", "edges", "ends", "edge", "ahead", "back", "state"]) (sc := defScope s_useful_in) (by decide +kernel)) (fun _ _ _ _ _ => (pg_name (i := 6) sc_useful_in.nd rfl (Or.inl rfl))) (fun _ _ _ _ _ => (pts_one (pt_cmp (pc_xinW (w := Drw.wld) rfl T.sys hr.u65 (pv 6) (pv 5))))) (fun _ _ _ _ _ => (pv 6)))) pa_nil)))))))), body_ok (K := K) (E := E) (N := ["starts", "edges", "ends", "edge", "ahead", "back", "state"]) (ps := ["starts", "edges", "ends"]) (ts := ts_useful_in K) (ts' := ts_useful_in K) rfl h⟩)
abbrev ts_is_short (K : PySem.W.Frag) : TS := tRet (tAndV (tCB (rIsi K) (tCons (tVar 0) (tCons (tC (V.ty "str")) tNil))) (tAndV (tOp (rI0 fun i j => V.bl (decide (i ≤ j))) (tCB (rLen K) (tCons (tVar 0) tNil)) (tC (V.int 8))) (tCall (spOf K (D_is_word K)) [] E0 (tCons (tVar 0) tNil))))
def D_is_short (K : PySem.W.Frag) : DefR := bodyR (K := K) ["value"] ["value"] (ts_is_short K)
theorem ok_is_short (T : Tx K mg) : Has Drw.prog Drw.wld K mg base (L2.CX Drw.prog Drw.wld) 2 "is_short" ["value"] (spOf K (D_is_short K)) := by
  obtain ⟨t_MAX_WORD, c_MAX_WORD⟩ := T.v_MAX_WORD
  obtain ⟨g_is_word, k_is_word, fd_is_word, G_is_word, b_is_word⟩ := ok_is_word (base := base) T
  obtain ⟨fd, F⟩ := T.fn_is_short
  exact has_of T.g_is_short F sc_is_short (fun _ _ _ _ _ _ us hl => match us, hl with | [_], _ => rfl) (fun vs H Q E h => body_len h) (fun cdv A outer s H vs Q E hr h => ⟨ts_is_short K, PSs.nox (
    (pss_one (ps_ret (by exact (pe_and (pe_callB (r := rIsi K) call_isi (by rfl) T.n_isinstance (by decide +kernel) (pa_cons (pv 0) (pa_cons (pe_bltn (v := .ty "str") (by rfl) T.n_str (by decide +kernel) rfl) pa_nil))) (pe_and (pe_cmpR op_le (pe_callB (r := rLen K) call_len (by rfl) T.n_len (by decide +kernel) (pa_cons (pv 0) pa_nil)) (pe_glob (v := .int 8) rfl c_MAX_WORD ⟨_, rfl⟩) (nomark _)) (pe_one (pe_call (E := E0) G_is_word (hr.mono (by decide)) (by rfl) g_is_word k_is_word b_is_word .nil passX0 (pa_cons (pv 0) pa_nil))))))))), body_ok (K := K) (E := E) (N := ["value"]) (ps := ["value"]) (ts := ts_is_short K) (ts' := ts_is_short K) rfl h⟩)
abbrev ts_ahead_in (K : PySem.W.Frag) : TS := tSeq (tPar 2 3 (tCons (tDisp [(tVar 1, tC (V.bl true))]) (tCons (tLst (tCons (tVar 1) tNil)) tNil))) (tSeq (tWhile (tTest (tOp (rNeD K) (tVar 3) (tLst tNil))) (tSeq (tAsg (tBM0 K "list" rPop (tVar 3)) (gName 4)) (tFor (iTup K (tFldO (ga K (Str.ofString "Rewriter")) (Str.ofString "own_edges") (tVar 0))) (gName 5) (tIfS (tAnd (tTest (tOp rEq (tOp (rIxT K) (tVar 5) (tC (V.int 0))) (tVar 4))) (tB (tXIn Drw.wld true (tOp (rIxT K) (tVar 5) (tC (V.int 3))) (tVar 2)))) (tSeq (tAsg (tC (V.bl true)) (gSub (tVar 2) (tOp (rIxT K) (tVar 5) (tC (V.int 3))) (rSetX Drw.wld))) (tDrop (tBM K "list" rAppend (tVar 3) (tCons (tOp (rIxT K) (tVar 5) (tC (V.int 3))) tNil)))) tNext)))) (tRet (tVar 2)))
def D_ahead_in (K : PySem.W.Frag) : DefR := bodyR (K := K) ["rewriter", "state", "found", "waiting", "here", "edge"] ["rewriter", "state"] (ts_ahead_in K)
theorem ok_ahead_in (T : Tx K mg) : Has Drw.prog Drw.wld K mg base (L2.CX Drw.prog Drw.wld) 1 "ahead_in" ["rewriter", "state"] (spOf K (D_ahead_in K)) := by
  obtain ⟨fd, F⟩ := T.fn_ahead_in
  exact has_of T.g_ahead_in F sc_ahead_in (fun _ _ _ _ _ _ us hl => match us, hl with | [_, _], _ => rfl) (fun vs H Q E h => body_len h) (fun cdv A outer s H vs Q E hr h => ⟨ts_ahead_in K, PSs.nox (
    (pss_cons (ps_par (i := 2) (j := 3) (by rfl) sc_ahead_in.nd rfl rfl (by decide) rfl rfl (pa_cons (pe_disp (pps_cons (pv 1) pe_bl pps_nil) rfl rfl (by simp) (by decide)) (pa_cons (pe_lst (pa_cons (pv 1) pa_nil)) pa_nil)) (by rfl))
    (pss_cons (ps_while PassesOwn.never (pt_cmpR (r := rNeD K) (op_neD hr.units) (pv 3) (pe_lst pa_nil) (nomark _)) (pss_cons (ps_set (i := 4) sc_ahead_in.nd rfl (Or.inl rfl) (by exact (pe_bm0 PySem.F.plainAttrs_list PySem.F.slot_list_pop PySem.F.type_list_pop mt_pop (pv 3))))
    (pss_one (ps_for PassesOwn.never rfl (pi_tup (pe_fldO (T.c_Rewriter).1 T.f_Rewriter_own_edges (pv 0))) (pg_name (i := 5) sc_ahead_in.nd rfl (Or.inl rfl)) (pss_one (ps_if (PW.pt (pw_and (pt_cmpR op_eq (pe_ix (r := rIxT K) ix_tup (pv 5) pe_int (fun _ _ => rfl)) (pv 4) (nomark _)) (pw_and1 (pt_cmp (pc_xnotinW (w := Drw.wld) rfl T.sys hr.u65 (pe_ix (r := rIxT K) ix_tup (pv 5) pe_int (fun _ _ => rfl)) (pv 2)))))) (pss_cons (ps_asg pe_bl (pg_sub (pv 2) (pe_ix (r := rIxT K) ix_tup (pv 5) pe_int (fun _ _ => rfl)) (set_xW (w := Drw.wld) rfl T.sys hr.u65)))
    (pss_one (ps_expr (pe_bm PySem.F.plainAttrs_list PySem.F.slot_list_append PySem.F.type_list_append mt_append (pv 3) (pa_cons (pe_ix (r := rIxT K) ix_tup (pv 5) pe_int (fun _ _ => rfl)) pa_nil))))) pss_nil))))))
    (pss_one (ps_ret (by exact (pv 2))))))), body_ok (K := K) (E := E) (N := ["rewriter", "state", "found", "waiting", "here", "edge"]) (ps := ["rewriter", "state"]) (ts := ts_ahead_in K) (ts' := ts_ahead_in K) rfl h⟩)
abbrev ts_triple_targets (K : PySem.W.Frag) : TS := tSeq (tAsg (tLc (iTup K (tVar 1)) (gName 3) tYes (tLc (iTup K (tXGet2 Drw.wld (tFldO (ga K (Str.ofString "Rewriter")) (Str.ofString "own_after") (tVar 0)) (tTup (tCons (tVar 3) (tCons (tVar 2) tNil))) (tTup tNil))) (gName 4) tYes (tOp (rIxT K) (tVar 4) (tC (V.int 3))) (List.map (fun x => x.snd) [(Str.ofString "edge", 4)])) (List.map (fun x => x.snd) [(Str.ofString "one", 3)])) (gUnl K 3 (gCons (gName 5) (gCons (gName 6) (gCons (gName 7) gNil))))) (tSeq (tAsg (tLst tNil) (gName 8)) (tSeq (tFor (iList K (tVar 5)) (gName 3) (tDrop (tBM K "list" rExtend (tVar 8) (tCons (tLc2 (iList K (tVar 6)) (gName 9) tYes (iList K (tVar 7)) (gName 10) tYes (tTup (tCons (tVar 3) (tCons (tVar 9) (tCons (tVar 10) tNil)))) (List.map (fun x => x.snd) [(Str.ofString "other", 9), (Str.ofString "last", 10)]) [10]) tNil)))) (tRet (tVar 8))))
def D_triple_targets (K : PySem.W.Frag) : DefR := bodyR (K := K) ["rewriter", "triple", "letter", "one", "edge", "first", "second", "third", "found", "other", "last"] ["rewriter", "triple", "letter"] (ts_triple_targets K)
theorem ok_triple_targets (T : Tx K mg) : Has Drw.prog Drw.wld K mg base (L2.CX Drw.prog Drw.wld) 1 "triple_targets" ["rewriter", "triple", "letter"] (spOf K (D_triple_targets K)) := by
  obtain ⟨fd, F⟩ := T.fn_triple_targets
  exact has_of T.g_triple_targets F sc_triple_targets (fun _ _ _ _ _ _ us hl => match us, hl with | [_, _, _], _ => rfl) (fun vs H Q E h => body_len h) (fun cdv A outer s H vs Q E hr h => ⟨ts_triple_targets K, PSs.nox (
    (pss_cons (ps_asg (pe_lc (own := [("one", 3)]) (g := gName 3) (by rfl) sc_triple_targets.nd (pi_tup (pv 1)) (blkOk_by (own := [("one", 3)]) (N := ["rewriter", "triple", "letter", "one", "edge", "first", "second", "third", "found", "other", "last"]) (sc := defScope s_triple_targets) (by decide +kernel)) (fun _ _ _ _ _ => (pg_name (i := 3) sc_triple_targets.nd rfl (Or.inl rfl))) (fun _ _ _ _ _ => pts_nil) (fun _ _ _ _ _ => (pe_lc (own := [("edge", 4)]) (g := gName 4) (by rfl) sc_triple_targets.nd (pi_tupW (K := K) rfl (pe_xget2W (w := Drw.wld) rfl T.sys hr.u65 (pe_fldO (T.c_Rewriter).1 T.f_Rewriter_own_after (pv 0)) (pe_tup (pa_cons (pv 3) (pa_cons (pv 2) pa_nil))) (pe_tup pa_nil) ⟨by rfl, by rfl, by rfl, by rfl⟩)) (blkOk_by (own := [("edge", 4)]) (N := ["rewriter", "triple", "letter", "one", "edge", "first", "second", "third", "found", "other", "last"]) (sc := (relS { kind := .function, names := [(".0", .local), ("one", .local), ("letter", .free), ("rewriter", .free)], isGenerator := false, isCoroutine := false } (defScope s_triple_targets))) (by decide +kernel)) (fun _ _ _ _ _ => (pg_name (i := 4) sc_triple_targets.nd rfl (Or.inl rfl))) (fun _ _ _ _ _ => pts_nil) (fun _ _ _ _ _ => (pe_ix (r := rIxT K) ix_tup (pv 4) pe_int (fun _ _ => rfl)))))) (pg_unl (n := 3) (by rfl) (pgs_cons (pg_name (i := 5) sc_triple_targets.nd rfl (Or.inl rfl)) (pgs_cons (pg_name (i := 6) sc_triple_targets.nd rfl (Or.inl rfl)) (pgs_cons (pg_name (i := 7) sc_triple_targets.nd rfl (Or.inr rfl)) pgs_nil)))))
    (pss_cons (ps_set (i := 8) sc_triple_targets.nd rfl (Or.inl rfl) (by exact (pe_lst pa_nil)))
    (pss_cons (ps_for PassesOwn.never rfl (pi_list (pv 5)) (pg_name (i := 3) sc_triple_targets.nd rfl (Or.inr rfl)) (pss_one (ps_expr (pe_bm PySem.F.plainAttrs_list PySem.F.slot_list_extend PySem.F.type_list_extend mt_extend (pv 8) (pa_cons (pe_lc2 (own := [("other", 9), ("last", 10)]) (vs1 := [10]) (by rfl) sc_triple_targets.nd (pi_list (pv 6)) (blkOk_by (own := [("other", 9), ("last", 10)]) (N := ["rewriter", "triple", "letter", "one", "edge", "first", "second", "third", "found", "other", "last"]) (sc := defScope s_triple_targets) (by decide +kernel)) (by decide) (fun _ _ _ _ _ => (pg_name (i := 9) sc_triple_targets.nd rfl (Or.inl rfl))) (fun _ _ _ _ _ => pts_nil) (fun _ _ _ _ _ => (pi_listW (K := K) rfl (pv 7))) (fun _ _ _ _ _ => (pg_name (i := 10) sc_triple_targets.nd rfl (Or.inl rfl))) (fun _ _ _ _ _ => pts_nil) (fun _ _ _ _ _ => (pe_tup (pa_cons (pv 3) (pa_cons (pv 9) (pa_cons (pv 10) pa_nil)))))) pa_nil)))))
    (pss_one (ps_ret (by exact (pv 8)))))))), body_ok (K := K) (E := E) (N := ["rewriter", "triple", "letter", "one", "edge", "first", "second", "third", "found", "other", "last"]) (ps := ["rewriter", "triple", "letter"]) (ts := ts_triple_targets K) (ts' := ts_triple_targets K) rfl h⟩)
abbrev ts_is_state_pair (K : PySem.W.Frag) : TS := tSeq (tIfS (tOr (tNot (tB (tCB (rIsi K) (tCons (tVar 1) (tCons (tC (V.ty "tuple")) tNil))))) (tTest (tOp rNe (tCB (rLen K) (tCons (tVar 1) tNil)) (tC (V.int 2))))) (tRet (tC (V.bl false))) tNext) (tRet (tCB (rAll K) (tCons (tLc (iTup K (tVar 1)) (gName 2) tYes (tAndV (tCall (spOf K (D_is_integer K)) [] E0 (tCons (tVar 2) tNil)) (tOp (rIn K false) (tVar 2) (tFldO (ga K (Str.ofString "Rewriter")) (Str.ofString "own_states") (tVar 0)))) (List.map (fun x => x.snd) [(Str.ofString "state", 2)])) tNil)))
def D_is_state_pair (K : PySem.W.Frag) : DefR := bodyR (K := K) ["rewriter", "value", "state"] ["rewriter", "value"] (ts_is_state_pair K)
theorem ok_is_state_pair (T : Tx K mg) : Has Drw.prog Drw.wld K mg base (L2.CX Drw.prog Drw.wld) 2 "is_state_pair" ["rewriter", "value"] (spOf K (D_is_state_pair K)) := by
  obtain ⟨t_PAIR_SIZE, c_PAIR_SIZE⟩ := T.v_PAIR_SIZE
  obtain ⟨g_is_integer, k_is_integer, fd_is_integer, G_is_integer, b_is_integer⟩ := ok_is_integer (base := base) T
  obtain ⟨fd, F⟩ := T.fn_is_state_pair
  exact has_of T.g_is_state_pair F sc_is_state_pair (fun _ _ _ _ _ _ us hl => match us, hl with | [_, _], _ => rfl) (fun vs H Q E h => body_len h) (fun cdv A outer s H vs Q E hr h => ⟨ts_is_state_pair K, PSs.nox (
    (pss_cons (ps_if (PW.pt (pw_or (pt_not (pt_val (pe_callB (r := rIsi K) call_isi (by rfl) T.n_isinstance (by decide +kernel) (pa_cons (pv 1) (pa_cons (pe_bltn (v := .ty "tuple") (by rfl) T.n_tuple (by decide +kernel) rfl) pa_nil))))) (pw_or1 (pt_cmpR op_ne (pe_callB (r := rLen K) call_len (by rfl) T.n_len (by decide +kernel) (pa_cons (pv 1) pa_nil)) (pe_glob (v := .int 2) rfl c_PAIR_SIZE ⟨_, rfl⟩) (nomark _))))) (pss_one (ps_ret (by exact pe_bl))) pss_nil)
    (pss_one (ps_ret (by exact (pe_callB (r := rAll K) (cr_all rfl) (by rfl) T.n_all (by decide +kernel) (pa_cons (pe_lc (own := [("state", 2)]) (g := gName 2) (by rfl) sc_is_state_pair.nd (pi_tup (pv 1)) (blkOk_by (own := [("state", 2)]) (N := ["rewriter", "value", "state"]) (sc := defScope s_is_state_pair) (by decide +kernel)) (fun _ _ _ _ _ => (pg_name (i := 2) sc_is_state_pair.nd rfl (Or.inl rfl))) (fun _ _ _ _ _ => pts_nil) (fun _ _ _ _ _ => (pe_and (pe_call (E := E0) G_is_integer (hr.mono (by decide)) (by rfl) g_is_integer k_is_integer b_is_integer .nil passX0 (pa_cons (pv 2) pa_nil)) (pe_one (pe_cmpR (r := rIn K false) op_in_seq (pv 2) (pe_fldO (T.c_Rewriter).1 T.f_Rewriter_own_states (pv 0)) (by rfl)))))) pa_nil))))))), body_ok (K := K) (E := E) (N := ["rewriter", "value", "state"]) (ps := ["rewriter", "value"]) (ts := ts_is_state_pair K) (ts' := ts_is_state_pair K) rfl h⟩)
abbrev ts_last_in (K : PySem.W.Frag) : TS := tSeq (tAsg (tVar 0) (gTup K 2 (gCons (gName 1) (gCons (gName 2) gNil)))) (tRet (tIf (tTest (tOp (rNeD K) (tVar 2) (tTup tNil))) (tOp (rIxT K) (tOp (rIxT K) (tVar 2) (tUn (rU fun i => V.int (-i)) (tC (V.int 1)))) (tC (V.int 3))) (tVar 1)))
def D_last_in (K : PySem.W.Frag) : DefR := bodyR (K := K) ["path", "state", "edges"] ["path"] (ts_last_in K)
theorem ok_last_in (T : Tx K mg) : Has Drw.prog Drw.wld K mg base (L2.CX Drw.prog Drw.wld) 1 "last_in" ["path"] (spOf K (D_last_in K)) := by
  obtain ⟨fd, F⟩ := T.fn_last_in
  exact has_of T.g_last_in F sc_last_in (fun _ _ _ _ _ _ us hl => match us, hl with | [_], _ => rfl) (fun vs H Q E h => body_len h) (fun cdv A outer s H vs Q E hr h => ⟨ts_last_in K, PSs.nox (
    (pss_cons (ps_asg (pv 0) (pg_tup (n := 2) (by rfl) (pgs_cons (pg_name (i := 1) sc_last_in.nd rfl (Or.inl rfl)) (pgs_cons (pg_name (i := 2) sc_last_in.nd rfl (Or.inl rfl)) pgs_nil))))
    (pss_one (ps_ret (by exact (pe_ifExp (pt_cmpR (r := rNeD K) (op_neD hr.units) (pv 2) (pe_tup pa_nil) (nomark _)) (pe_ix (r := rIxT K) ix_tup (pe_ix (r := rIxT K) ix_tup (pv 2) (pe_un un_neg pe_int) (fun _ _ => rfl)) pe_int (fun _ _ => rfl)) (pv 1))))))), body_ok (K := K) (E := E) (N := ["path", "state", "edges"]) (ps := ["path"]) (ts := ts_last_in K) (ts' := ts_last_in K) rfl h⟩)
abbrev ts_is_path_in (K : PySem.W.Frag) : TS := tSeq (tIfS (tOr (tNot (tB (tCB (rIsi K) (tCons (tVar 1) (tCons (tC (V.ty "tuple")) tNil))))) (tOr (tTest (tOp rNe (tCB (rLen K) (tCons (tVar 1) tNil)) (tC (V.int 2)))) (tNot (tB (tCall (spOf K (D_is_integer K)) [] E0 (tCons (tOp (rIxT K) (tVar 1) (tC (V.int 0))) tNil)))))) (tRet (tC (V.bl false))) tNext) tNever
def D_is_path_in (K : PySem.W.Frag) : DefR := bodyR (K := K) ["rewriter", "value", "here", "edges", "edge"] ["rewriter", "value"] (ts_is_path_in K)
theorem ok_is_path_in (T : Tx K mg) : Has Drw.prog Drw.wld K mg base (L2.CX Drw.prog Drw.wld) 2 "is_path_in" ["rewriter", "value"] (spOf K (D_is_path_in K)) := by
  obtain ⟨g_is_integer, k_is_integer, fd_is_integer, G_is_integer, b_is_integer⟩ := ok_is_integer (base := base) T
  obtain ⟨fd, F⟩ := T.fn_is_path_in
  exact has_of T.g_is_path_in F sc_is_path_in (fun _ _ _ _ _ _ us hl => match us, hl with | [_, _], _ => rfl) (fun vs H Q E h => body_len h) (fun cdv A outer s H vs Q E hr h => ⟨ts_is_path_in K, PSs.nox (
    (pss_cons (ps_if (PW.pt (pw_or (pt_not (pt_val (pe_callB (r := rIsi K) call_isi (by rfl) T.n_isinstance (by decide +kernel) (pa_cons (pv 1) (pa_cons (pe_bltn (v := .ty "tuple") (by rfl) T.n_tuple (by decide +kernel) rfl) pa_nil))))) (pw_or (pt_cmpR op_ne (pe_callB (r := rLen K) call_len (by rfl) T.n_len (by decide +kernel) (pa_cons (pv 1) pa_nil)) pe_int (nomark _)) (pw_or1 (pt_not (pt_val (pe_call (E := E0) G_is_integer (hr.mono (by decide)) (by rfl) g_is_integer k_is_integer b_is_integer .nil passX0 (pa_cons (pe_ix (r := rIxT K) ix_tup (pv 1) pe_int (fun _ _ => rfl)) pa_nil)))))))) (pss_one (ps_ret (by exact pe_bl))) pss_nil)
    pss_never)), body_ok (K := K) (E := E) (N := ["rewriter", "value", "here", "edges", "edge"]) (ps := ["rewriter", "value"]) (ts := ts_is_path_in K) (ts' := ts_is_path_in K) rfl h⟩)
end
end K7
set_option maxHeartbeats 4000000
set_option synthInstance.maxSize 100000
set_option synthInstance.maxHeartbeats 4000000
namespace K7
open PySem PySem.Spec PyProof.Rows L2 He Hx Hy PO RunX PB NKx
section
variable [Drw] [Cbv] {K : PySem.W.Frag} {mg : Str → Option Value} {base : Heap}
abbrev ts_require_length (K : PySem.W.Frag) (E : XK) : TS := tIfS (tNot (tB (tCall (spOf K (D_is_between K)) [] E (tCons (tVar 0) (tCons (tC (V.int 0)) (tCons (tC (V.int 60)) tNil)))))) (tRaiseI (ga K (Str.ofString "InvalidNumber")) (Str.ofString "value") (tCons (tVar 0) tNil) E) tNext
def D_require_length (K : PySem.W.Frag) : DefR := bodyR (K := K) ["value"] ["value"] (ts_require_length K EN)
theorem ok_require_length (T : Tx K mg) : Has Drw.prog Drw.wld K mg base (L2.CX Drw.prog Drw.wld) 3 "require_length" ["value"] (spOf K (D_require_length K)) := by
  obtain ⟨t_MAX_TEXT, c_MAX_TEXT⟩ := T.v_MAX_TEXT
  obtain ⟨g_is_between, k_is_between, fd_is_between, G_is_between, b_is_between⟩ := ok_is_between (base := base) T
  obtain ⟨fd, F⟩ := T.fn_require_length
  exact has_of T.g_require_length F sc_require_length (fun _ _ _ _ _ _ us hl => match us, hl with | [_], _ => rfl) (fun vs H Q E h => body_len h) (fun cdv A outer s H vs Q E hr h => ⟨ts_require_length K E, (pss_one (ps_if (pt_not (pt_val (pe_call (E := E) G_is_between (hr.mono (by decide)) (by rfl) g_is_between k_is_between b_is_between .nil (passes_call (takes_of rfl rfl rfl rfl) (fun _ _ _ _ h => h)) (pa_cons (pv 0) (pa_cons pe_int (pa_cons (pe_glob (v := .int 60) rfl c_MAX_TEXT ⟨_, rfl⟩) pa_nil)))))) (pss_one (asRaiseI (C := ga K "InvalidNumber") (f := "value") (E := E) (ps_raise rfl (takes_of rfl rfl rfl rfl) (pmk_excI T.i_InvalidNumber PySem.XT.nt_value T.g_InvalidNumber (raises_own (T.exC "InvalidNumber" (memb (by decide +kernel))).hs (PB.clsT_ty T.i_InvalidNumber)) hr (pa_cons (pv 0) pa_nil))))) pss_nil)), body_ok (K := K) (E := E) (N := ["value"]) (ps := ["value"]) (ts := ts_require_length K EN) (ts' := ts_require_length K E) rfl h⟩)
abbrev ts_require_text (K : PySem.W.Frag) (E : XK) : TS := tIfS (tNot (tB (tCall (spOf K (D_is_text K)) [] E (tCons (tVar 0) tNil)))) (RunX.tRaise (ga K (Str.ofString "InvalidText")) E) tNext
def D_require_text (K : PySem.W.Frag) : DefR := bodyR (K := K) ["value"] ["value"] (ts_require_text K EN)
theorem ok_require_text (T : Tx K mg) : Has Drw.prog Drw.wld K mg base (L2.CX Drw.prog Drw.wld) 3 "require_text" ["value"] (spOf K (D_require_text K)) := by
  obtain ⟨g_is_text, k_is_text, fd_is_text, G_is_text, b_is_text⟩ := ok_is_text (base := base) T
  obtain ⟨fd, F⟩ := T.fn_require_text
  exact has_of T.g_require_text F sc_require_text (fun _ _ _ _ _ _ us hl => match us, hl with | [_], _ => rfl) (fun vs H Q E h => body_len h) (fun cdv A outer s H vs Q E hr h => ⟨ts_require_text K E, (pss_one (ps_if (pt_not (pt_val (pe_call (E := E) G_is_text (hr.mono (by decide)) (by rfl) g_is_text k_is_text b_is_text .nil (passes_call (takes_of rfl rfl rfl rfl) (fun _ _ _ _ h => h)) (pa_cons (pv 0) pa_nil)))) (pss_one (asRaise (C := ga K "InvalidText") (E := E) (ps_raise rfl (takes_of rfl rfl rfl rfl) (pmk_own PySem.F.excBase_ValueError (T.e_InvalidText).1 T.g_InvalidText (T.e_InvalidText).2.1 (raises_own (T.e_InvalidText).2.2.1 (T.e_InvalidText).2.2.2) (by rfl))))) pss_nil)), body_ok (K := K) (E := E) (N := ["value"]) (ps := ["value"]) (ts := ts_require_text K EN) (ts' := ts_require_text K E) rfl h⟩)
abbrev ts_is_number (K : PySem.W.Frag) : TS := tRet (tCall (spOf K (D_is_between K)) [] E0 (tCons (tVar 0) (tCons (tC (V.int 0)) (tCons (tOp (rI0 fun i j => V.int (i - j)) (tC (V.int 12)) (tC (V.int 1))) tNil))))
def D_is_number (K : PySem.W.Frag) : DefR := bodyR (K := K) ["value"] ["value"] (ts_is_number K)
theorem ok_is_number (T : Tx K mg) : Has Drw.prog Drw.wld K mg base (L2.CX Drw.prog Drw.wld) 3 "is_number" ["value"] (spOf K (D_is_number K)) := by
  obtain ⟨t_MAX_STATES, c_MAX_STATES⟩ := T.v_MAX_STATES
  obtain ⟨g_is_between, k_is_between, fd_is_between, G_is_between, b_is_between⟩ := ok_is_between (base := base) T
  obtain ⟨fd, F⟩ := T.fn_is_number
  exact has_of T.g_is_number F sc_is_number (fun _ _ _ _ _ _ us hl => match us, hl with | [_], _ => rfl) (fun vs H Q E h => body_len h) (fun cdv A outer s H vs Q E hr h => ⟨ts_is_number K, PSs.nox (
    (pss_one (ps_ret (by exact (pe_call (E := E0) G_is_between (hr.mono (by decide)) (by rfl) g_is_between k_is_between b_is_between .nil passX0 (pa_cons (pv 0) (pa_cons pe_int (pa_cons (pe_op op_sub (pe_glob (v := .int 12) rfl c_MAX_STATES ⟨_, rfl⟩) pe_int) pa_nil)))))))), body_ok (K := K) (E := E) (N := ["value"]) (ps := ["value"]) (ts := ts_is_number K) (ts' := ts_is_number K) rfl h⟩)
abbrev ts_link_in (K : PySem.W.Frag) : TS := tSeq (tPar 3 4 (tCons (tTup (tCons (tVar 1) (tCons (tVar 1) (tCons (tVar 2) tNil)))) (tCons (tTup (tCons (tVar 1) (tCons (tVar 2) (tCons (tVar 2) tNil)))) tNil))) (tSeq (tPar 5 6 (tCons (tDisp1T (tVar 3) (tC (V.str (Str.ofString "")))) (tCons (tLst (tCons (tVar 3) tNil)) tNil))) (tSeq (tWhile (tAnd (tTest (tOp (rNeD K) (tVar 6) (tLst tNil))) (tB (tXIn Drw.wld true (tVar 4) (tVar 5)))) (tSeq (tAsg (tLst tNil) (gName 7)) (tSeq (tFor (iList K (tVar 6)) (gName 8) (tFor (iStr (tFldO (ga K (Str.ofString "Rewriter")) (Str.ofString "own_letters") (tVar 0))) (gName 9) (tFor (iList K (tCall (spOf K (D_triple_targets K)) [] E0 (tCons (tVar 0) (tCons (tVar 8) (tCons (tVar 9) tNil))))) (gName 10) (tIfS (tB (tXIn Drw.wld true (tVar 10) (tVar 5))) (tSeq (tAsg (tOp RunX.rAddS (tXGet Drw.wld (tVar 5) (tVar 8)) (tVar 9)) (gSub (tVar 5) (tVar 10) (rSetX Drw.wld))) (tDrop (tBM K "list" rAppend (tVar 7) (tCons (tVar 10) tNil)))) tNext)))) (tAsg (tCB (rListO K) (tCons (tVar 7) tNil)) (gName 6))))) (tRet (tXGet2 Drw.wld (tVar 5) (tVar 4) (tC V.non)))))
def D_link_in (K : PySem.W.Frag) : DefR := bodyR (K := K) ["rewriter", "one", "other", "begin", "goal", "texts", "layer", "later", "here", "letter", "target"] ["rewriter", "one", "other"] (ts_link_in K)
theorem ok_link_in (T : Tx K mg) : Has Drw.prog Drw.wld K mg base (L2.CX Drw.prog Drw.wld) 2 "link_in" ["rewriter", "one", "other"] (spOf K (D_link_in K)) := by
  obtain ⟨g_triple_targets, k_triple_targets, fd_triple_targets, G_triple_targets, b_triple_targets⟩ := ok_triple_targets (base := base) T
  obtain ⟨fd, F⟩ := T.fn_link_in
  exact has_of T.g_link_in F sc_link_in (fun _ _ _ _ _ _ us hl => match us, hl with | [_, _, _], _ => rfl) (fun vs H Q E h => body_len h) (fun cdv A outer s H vs Q E hr h => ⟨ts_link_in K, PSs.nox (
    (pss_cons (ps_par (i := 3) (j := 4) (by rfl) sc_link_in.nd rfl rfl (by decide) rfl rfl (pa_cons (pe_tup (pa_cons (pv 1) (pa_cons (pv 1) (pa_cons (pv 2) pa_nil)))) (pa_cons (pe_tup (pa_cons (pv 1) (pa_cons (pv 2) (pa_cons (pv 2) pa_nil)))) pa_nil)) (by rfl))
    (pss_cons (ps_par (i := 5) (j := 6) (by rfl) sc_link_in.nd rfl rfl (by decide) rfl rfl (pa_cons (pe_disp1T hr (pv 3) pe_str) (pa_cons (pe_lst (pa_cons (pv 3) pa_nil)) pa_nil)) (by rfl))
    (pss_cons (ps_while PassesOwn.never (PW.pt (pw_and (pt_cmpR (r := rNeD K) (op_neD hr.units) (pv 6) (pe_lst pa_nil) (nomark _)) (pw_and1 (pt_cmp (pc_xnotinW (w := Drw.wld) rfl T.sys hr.u65 (pv 4) (pv 5)))))) (pss_cons (ps_set (i := 7) sc_link_in.nd rfl (Or.inl rfl) (by exact (pe_lst pa_nil)))
    (pss_cons (ps_for PassesOwn.never rfl (pi_list (pv 6)) (pg_name (i := 8) sc_link_in.nd rfl (Or.inl rfl)) (pss_one (ps_for PassesOwn.never rfl (pi_str (pe_fldO (T.c_Rewriter).1 T.f_Rewriter_own_letters (pv 0))) (pg_name (i := 9) sc_link_in.nd rfl (Or.inl rfl)) (pss_one (ps_for PassesOwn.never rfl (pi_list (pe_call (E := E0) G_triple_targets (hr.mono (by decide)) (by rfl) g_triple_targets k_triple_targets b_triple_targets .nil passX0 (pa_cons (pv 0) (pa_cons (pv 8) (pa_cons (pv 9) pa_nil))))) (pg_name (i := 10) sc_link_in.nd rfl (Or.inl rfl)) (pss_one (ps_if (pt_cmp (pc_xnotinW (w := Drw.wld) rfl T.sys hr.u65 (pv 10) (pv 5))) (pss_cons (ps_asg (pe_op op_addS (pe_xgetW (w := Drw.wld) rfl T.sys hr.u65 (pv 5) (pv 8) (fun _ _ => rfl)) (pv 9)) (pg_sub (pv 5) (pv 10) (set_xW (w := Drw.wld) rfl T.sys hr.u65)))
    (pss_one (ps_expr (pe_bm PySem.F.plainAttrs_list PySem.F.slot_list_append PySem.F.type_list_append mt_append (pv 7) (pa_cons (pv 10) pa_nil))))) pss_nil)))))))
    (pss_one (ps_set (i := 6) sc_link_in.nd rfl (Or.inl rfl) (by exact (pe_callTy (r := rListO K) call_listO (by rfl) T.n_list (by decide +kernel) (pa_cons (pv 7) pa_nil))))))))
    (pss_one (ps_ret (by exact (pe_xget2W (w := Drw.wld) rfl T.sys hr.u65 (pv 5) (pv 4) pe_non ⟨by rfl, by rfl, by rfl, by rfl⟩)))))))), body_ok (K := K) (E := E) (N := ["rewriter", "one", "other", "begin", "goal", "texts", "layer", "later", "here", "letter", "target"]) (ps := ["rewriter", "one", "other"]) (ts := ts_link_in K) (ts' := ts_link_in K) rfl h⟩)
abbrev ts_are_closed (K : PySem.W.Frag) : TS := tSeq (tIfS (tOr (tNot (tB (tCB (rIsi K) (tCons (tVar 1) (tCons (tC (V.ty "tuple")) tNil))))) (tNot (tB (tCB (rAll K) (tCons (tLc (iTup K (tVar 1)) (gName 2) tYes (tCall (spOf K (D_is_state_pair K)) [] E0 (tCons (tVar 0) (tCons (tVar 2) tNil))) (List.map (fun x => x.snd) [(Str.ofString "pair", 2)])) tNil))))) (tRet (tC (V.bl false))) tNext) tNever
def D_are_closed (K : PySem.W.Frag) : DefR := bodyR (K := K) ["rewriter", "value", "pair", "one", "other", "inside", "edge", "target", "ending"] ["rewriter", "value"] (ts_are_closed K)
theorem ok_are_closed (T : Tx K mg) : Has Drw.prog Drw.wld K mg base (L2.CX Drw.prog Drw.wld) 3 "are_closed" ["rewriter", "value"] (spOf K (D_are_closed K)) := by
  obtain ⟨g_is_state_pair, k_is_state_pair, fd_is_state_pair, G_is_state_pair, b_is_state_pair⟩ := ok_is_state_pair (base := base) T
  obtain ⟨fd, F⟩ := T.fn_are_closed
  exact has_of T.g_are_closed F sc_are_closed (fun _ _ _ _ _ _ us hl => match us, hl with | [_, _], _ => rfl) (fun vs H Q E h => body_len h) (fun cdv A outer s H vs Q E hr h => ⟨ts_are_closed K, PSs.nox (
    (pss_cons (ps_if (PW.pt (pw_or (pt_not (pt_val (pe_callB (r := rIsi K) call_isi (by rfl) T.n_isinstance (by decide +kernel) (pa_cons (pv 1) (pa_cons (pe_bltn (v := .ty "tuple") (by rfl) T.n_tuple (by decide +kernel) rfl) pa_nil))))) (pw_or1 (pt_not (pt_val (pe_callB (r := rAll K) (cr_all rfl) (by rfl) T.n_all (by decide +kernel) (pa_cons (pe_lc (own := [("pair", 2)]) (g := gName 2) (by rfl) sc_are_closed.nd (pi_tup (pv 1)) (blkOk_by (own := [("pair", 2)]) (N := ["rewriter", "value", "pair", "one", "other", "inside", "edge", "target", "ending"]) (sc := defScope s_are_closed) (by decide +kernel)) (fun _ _ _ _ _ => (pg_name (i := 2) sc_are_closed.nd rfl (Or.inl rfl))) (fun _ _ _ _ _ => pts_nil) (fun _ _ _ _ _ => (pe_call (E := E0) G_is_state_pair (hr.mono (by decide)) (by rfl) g_is_state_pair k_is_state_pair b_is_state_pair .nil passX0 (pa_cons (pv 0) (pa_cons (pv 2) pa_nil))))) pa_nil))))))) (pss_one (ps_ret (by exact pe_bl))) pss_nil)
    pss_never)), body_ok (K := K) (E := E) (N := ["rewriter", "value", "pair", "one", "other", "inside", "edge", "target", "ending"]) (ps := ["rewriter", "value"]) (ts := ts_are_closed K) (ts' := ts_are_closed K) rfl h⟩)
abbrev ts_is_complete_in (K : PySem.W.Frag) : TS := tRet (tAndV (tCall (spOf K (D_is_path_in K)) [] E0 (tCons (tVar 0) (tCons (tVar 1) tNil))) (tXIn Drw.wld false (tCall (spOf K (D_last_in K)) [] E0 (tCons (tVar 1) tNil)) (tFldO (ga K (Str.ofString "Rewriter")) (Str.ofString "own_ends") (tVar 0))))
def D_is_complete_in (K : PySem.W.Frag) : DefR := bodyR (K := K) ["rewriter", "value"] ["rewriter", "value"] (ts_is_complete_in K)
theorem ok_is_complete_in (T : Tx K mg) : Has Drw.prog Drw.wld K mg base (L2.CX Drw.prog Drw.wld) 3 "is_complete_in" ["rewriter", "value"] (spOf K (D_is_complete_in K)) := by
  obtain ⟨g_last_in, k_last_in, fd_last_in, G_last_in, b_last_in⟩ := ok_last_in (base := base) T
  obtain ⟨g_is_path_in, k_is_path_in, fd_is_path_in, G_is_path_in, b_is_path_in⟩ := ok_is_path_in (base := base) T
  obtain ⟨fd, F⟩ := T.fn_is_complete_in
  exact has_of T.g_is_complete_in F sc_is_complete_in (fun _ _ _ _ _ _ us hl => match us, hl with | [_, _], _ => rfl) (fun vs H Q E h => body_len h) (fun cdv A outer s H vs Q E hr h => ⟨ts_is_complete_in K, PSs.nox (
    (pss_one (ps_ret (by exact (pe_and (pe_call (E := E0) G_is_path_in (hr.mono (by decide)) (by rfl) g_is_path_in k_is_path_in b_is_path_in .nil passX0 (pa_cons (pv 0) (pa_cons (pv 1) pa_nil))) (pe_one (pe_cmp (pc_xinW (w := Drw.wld) rfl T.sys hr.u65 (pe_call (E := E0) G_last_in (hr.mono (by decide)) (by rfl) g_last_in k_last_in b_last_in .nil passX0 (pa_cons (pv 1) pa_nil)) (pe_fldO (T.c_Rewriter).1 T.f_Rewriter_own_ends (pv 0)))))))))), body_ok (K := K) (E := E) (N := ["rewriter", "value"]) (ps := ["rewriter", "value"]) (ts := ts_is_complete_in K) (ts' := ts_is_complete_in K) rfl h⟩)
abbrev ts_is_row_between (K : PySem.W.Frag) : TS := tSeq (tIfS (tOr (tNot (tB (tCB (rIsi K) (tCons (tVar 3) (tCons (tC (V.ty "tuple")) tNil))))) (tTest (tOp (rEqE K) (tVar 3) (tTup tNil)))) (tRet (tC (V.bl false))) tNext) tNever
def D_is_row_between (K : PySem.W.Frag) : DefR := bodyR (K := K) ["rewriter", "state", "goal", "value", "here", "edge"] ["rewriter", "state", "goal", "value"] (ts_is_row_between K)
theorem ok_is_row_between (T : Tx K mg) : Has Drw.prog Drw.wld K mg base (L2.CX Drw.prog Drw.wld) 1 "is_row_between" ["rewriter", "state", "goal", "value"] (spOf K (D_is_row_between K)) := by
  obtain ⟨fd, F⟩ := T.fn_is_row_between
  exact has_of T.g_is_row_between F sc_is_row_between (fun _ _ _ _ _ _ us hl => match us, hl with | [_, _, _, _], _ => rfl) (fun vs H Q E h => body_len h) (fun cdv A outer s H vs Q E hr h => ⟨ts_is_row_between K, PSs.nox (
    (pss_cons (ps_if (PW.pt (pw_or (pt_not (pt_val (pe_callB (r := rIsi K) call_isi (by rfl) T.n_isinstance (by decide +kernel) (pa_cons (pv 3) (pa_cons (pe_bltn (v := .ty "tuple") (by rfl) T.n_tuple (by decide +kernel) rfl) pa_nil))))) (pw_or1 (pt_cmpR (r := rEqE K) (op_eqE hr.units0) (pv 3) (pe_tup pa_nil) (nomark _))))) (pss_one (ps_ret (by exact pe_bl))) pss_nil)
    pss_never)), body_ok (K := K) (E := E) (N := ["rewriter", "state", "goal", "value", "here", "edge"]) (ps := ["rewriter", "state", "goal", "value"]) (ts := ts_is_row_between K) (ts' := ts_is_row_between K) rfl h⟩)
abbrev ts_is_link (K : PySem.W.Frag) : TS := tSeq (tIfS (tOr (tNot (tB (tCB (rIsi K) (tCons (tVar 1) (tCons (tC (V.ty "tuple")) tNil))))) (tOr (tTest (tOp rNe (tCB (rLen K) (tCons (tVar 1) tNil)) (tC (V.int 3)))) (tNot (tB (tCall (spOf K (D_is_state_pair K)) [] E0 (tCons (tVar 0) (tCons (tSl (rSlT K) (tVar 1) tNoPart (tPart (tC (V.int 2)))) tNil))))))) (tRet (tC (V.bl false))) tNext) (tSeq (tAsg (tVar 1) (gTup K 3 (gCons (gName 2) (gCons (gName 3) (gCons (gName 4) gNil))))) (tSeq (tIfS (tOr (tTest (tOp rEq (tVar 2) (tVar 3))) (tOr (tNot (tB (tCB (rIsi K) (tCons (tVar 4) (tCons (tC (V.ty "str")) tNil))))) (tTest (tOp rEq (tVar 4) (tC (V.str (Str.ofString ""))))))) (tRet (tC (V.bl false))) tNext) tNever))
def D_is_link (K : PySem.W.Frag) : DefR := bodyR (K := K) ["rewriter", "value", "one", "other", "text", "ways", "begin", "goal"] ["rewriter", "value"] (ts_is_link K)
theorem ok_is_link (T : Tx K mg) : Has Drw.prog Drw.wld K mg base (L2.CX Drw.prog Drw.wld) 3 "is_link" ["rewriter", "value"] (spOf K (D_is_link K)) := by
  obtain ⟨t_TRIPLE_SIZE, c_TRIPLE_SIZE⟩ := T.v_TRIPLE_SIZE
  obtain ⟨g_is_state_pair, k_is_state_pair, fd_is_state_pair, G_is_state_pair, b_is_state_pair⟩ := ok_is_state_pair (base := base) T
  obtain ⟨fd, F⟩ := T.fn_is_link
  exact has_of T.g_is_link F sc_is_link (fun _ _ _ _ _ _ us hl => match us, hl with | [_, _], _ => rfl) (fun vs H Q E h => body_len h) (fun cdv A outer s H vs Q E hr h => ⟨ts_is_link K, PSs.nox (
    (pss_cons (ps_if (PW.pt (pw_or (pt_not (pt_val (pe_callB (r := rIsi K) call_isi (by rfl) T.n_isinstance (by decide +kernel) (pa_cons (pv 1) (pa_cons (pe_bltn (v := .ty "tuple") (by rfl) T.n_tuple (by decide +kernel) rfl) pa_nil))))) (pw_or (pt_cmpR op_ne (pe_callB (r := rLen K) call_len (by rfl) T.n_len (by decide +kernel) (pa_cons (pv 1) pa_nil)) (pe_glob (v := .int 3) rfl c_TRIPLE_SIZE ⟨_, rfl⟩) (nomark _)) (pw_or1 (pt_not (pt_val (pe_call (E := E0) G_is_state_pair (hr.mono (by decide)) (by rfl) g_is_state_pair k_is_state_pair b_is_state_pair .nil passX0 (pa_cons (pv 0) (pa_cons (pe_slice sl_tup (pv 1) po_none (po_some pe_int)) pa_nil))))))))) (pss_one (ps_ret (by exact pe_bl))) pss_nil)
    (pss_cons (ps_asg (pv 1) (pg_tup (n := 3) (by rfl) (pgs_cons (pg_name (i := 2) sc_is_link.nd rfl (Or.inl rfl)) (pgs_cons (pg_name (i := 3) sc_is_link.nd rfl (Or.inl rfl)) (pgs_cons (pg_name (i := 4) sc_is_link.nd rfl (Or.inr rfl)) pgs_nil)))))
    (pss_cons (ps_if (PW.pt (pw_or (pt_cmpR op_eq (pv 2) (pv 3) (nomark _)) (pw_or (pt_not (pt_val (pe_callB (r := rIsi K) call_isi (by rfl) T.n_isinstance (by decide +kernel) (pa_cons (pv 4) (pa_cons (pe_bltn (v := .ty "str") (by rfl) T.n_str (by decide +kernel) rfl) pa_nil))))) (pw_or1 (pt_cmpR op_eq (pv 4) pe_str (nomark _)))))) (pss_one (ps_ret (by exact pe_bl))) pss_nil)
    pss_never)))), body_ok (K := K) (E := E) (N := ["rewriter", "value", "one", "other", "text", "ways", "begin", "goal"]) (ps := ["rewriter", "value"]) (ts := ts_is_link K) (ts' := ts_is_link K) rfl h⟩)
abbrev ts_one_path_paper (K : PySem.W.Frag) (E : XK) : TS := tSeq (tDrop (tCall (spOf K (D_require_rewriter K)) [] E (tCons (tVar 0) tNil))) tNever
def D_one_path_paper (K : PySem.W.Frag) : DefR := bodyR (K := K) ["rewriter"] ["rewriter"] (ts_one_path_paper K EN)
theorem ok_one_path_paper (T : Tx K mg) : Has Drw.prog Drw.wld K mg base (L2.CX Drw.prog Drw.wld) 2 "one_path_paper" ["rewriter"] (spOf K (D_one_path_paper K)) := by
  obtain ⟨g_require_rewriter, k_require_rewriter, fd_require_rewriter, G_require_rewriter, b_require_rewriter⟩ := ok_require_rewriter (base := base) T
  obtain ⟨fd, F⟩ := T.fn_one_path_paper
  exact has_of T.g_one_path_paper F sc_one_path_paper (fun _ _ _ _ _ _ us hl => match us, hl with | [_], _ => rfl) (fun vs H Q E h => body_len h) (fun cdv A outer s H vs Q E hr h => ⟨ts_one_path_paper K E, (pss_cons (ps_expr (pe_call (E := E) G_require_rewriter (hr.mono (by decide)) (by rfl) g_require_rewriter k_require_rewriter b_require_rewriter .nil (passes_call (takes_of rfl rfl rfl rfl) (fun _ _ _ _ h => h)) (pa_cons (pv 0) pa_nil)))
    pss_never), body_ok (K := K) (E := E) (N := ["rewriter"]) (ps := ["rewriter"]) (ts := ts_one_path_paper K EN) (ts' := ts_one_path_paper K E) rfl h⟩)
abbrev ts_doubling_states (K : PySem.W.Frag) (E : XK) : TS := tSeq (tDrop (tCall (spOf K (D_require_rewriter K)) [] E (tCons (tVar 0) tNil))) tNever
def D_doubling_states (K : PySem.W.Frag) : DefR := bodyR (K := K) ["rewriter"] ["rewriter"] (ts_doubling_states K EN)
theorem ok_doubling_states (T : Tx K mg) : Has Drw.prog Drw.wld K mg base (L2.CX Drw.prog Drw.wld) 2 "doubling_states" ["rewriter"] (spOf K (D_doubling_states K)) := by
  obtain ⟨g_require_rewriter, k_require_rewriter, fd_require_rewriter, G_require_rewriter, b_require_rewriter⟩ := ok_require_rewriter (base := base) T
  obtain ⟨fd, F⟩ := T.fn_doubling_states
  exact has_of T.g_doubling_states F sc_doubling_states (fun _ _ _ _ _ _ us hl => match us, hl with | [_], _ => rfl) (fun vs H Q E h => body_len h) (fun cdv A outer s H vs Q E hr h => ⟨ts_doubling_states K E, (pss_cons (ps_expr (pe_call (E := E) G_require_rewriter (hr.mono (by decide)) (by rfl) g_require_rewriter k_require_rewriter b_require_rewriter .nil (passes_call (takes_of rfl rfl rfl rfl) (fun _ _ _ _ h => h)) (pa_cons (pv 0) pa_nil)))
    pss_never), body_ok (K := K) (E := E) (N := ["rewriter"]) (ps := ["rewriter"]) (ts := ts_doubling_states K EN) (ts' := ts_doubling_states K E) rfl h⟩)
end
end K7
set_option maxHeartbeats 4000000
set_option synthInstance.maxSize 100000
set_option synthInstance.maxHeartbeats 4000000
namespace K7
open PySem PySem.Spec PyProof.Rows L2 He Hx Hy PO RunX PB NKx
section
variable [Drw] [Cbv] {K : PySem.W.Frag} {mg : Str → Option Value} {base : Heap}
abbrev ts_are_worded (K : PySem.W.Frag) : TS := tRet (tAndV (tCB (rIsi K) (tCons (tVar 0) (tCons (tC (V.ty "dict")) tNil))) (tCB (rAll K) (tCons (tLockE (tLc (iItems (tVar 0)) (gTup K 2 (gCons (gName 1) (gCons (gName 2) gNil))) tYes (tAndV (tCall (spOf K (D_is_number K)) [] E0 (tCons (tVar 1) tNil)) (tCall (spOf K (D_is_short K)) [] E0 (tCons (tVar 2) tNil))) (List.map (fun x => x.snd) [(Str.ofString "state", 1), (Str.ofString "word", 2)]))) tNil)))
def D_are_worded (K : PySem.W.Frag) : DefR := bodyR (K := K) ["value", "state", "word"] ["value"] (ts_are_worded K)
theorem ok_are_worded (T : Tx K mg) : Has Drw.prog Drw.wld K mg base (L2.CX Drw.prog Drw.wld) 4 "are_worded" ["value"] (spOf K (D_are_worded K)) := by
  obtain ⟨g_is_short, k_is_short, fd_is_short, G_is_short, b_is_short⟩ := ok_is_short (base := base) T
  obtain ⟨g_is_number, k_is_number, fd_is_number, G_is_number, b_is_number⟩ := ok_is_number (base := base) T
  obtain ⟨fd, F⟩ := T.fn_are_worded
  exact has_of T.g_are_worded F sc_are_worded (fun _ _ _ _ _ _ us hl => match us, hl with | [_], _ => rfl) (fun vs H Q E h => body_len h) (fun cdv A outer s H vs Q E hr h => ⟨ts_are_worded K, PSs.nox (
    (pss_one (ps_ret (by exact (pe_and (pe_callB (r := rIsi K) call_isi (by rfl) T.n_isinstance (by decide +kernel) (pa_cons (pv 0) (pa_cons (pe_bltn (v := .ty "dict") (by rfl) T.n_dict (by decide +kernel) rfl) pa_nil))) (pe_one (pe_callB (r := rAll K) (cr_all rfl) (by rfl) T.n_all (by decide +kernel) (pa_cons (pe_lock (pe_lc (own := [("state", 1), ("word", 2)]) (g := gTup K 2 (gCons (gName 1) (gCons (gName 2) gNil))) (by rfl) sc_are_worded.nd (pi_items (pv 0)) (blkOk_by (own := [("state", 1), ("word", 2)]) (N := ["value", "state", "word"]) (sc := defScope s_are_worded) (by decide +kernel)) (fun _ _ _ _ _ => (pg_tup (n := 2) (by rfl) (pgs_cons (pg_name (i := 1) sc_are_worded.nd rfl (Or.inl rfl)) (pgs_cons (pg_name (i := 2) sc_are_worded.nd rfl (Or.inl rfl)) pgs_nil)))) (fun _ _ _ _ _ => pts_nil) (fun _ _ _ _ _ => (pe_and (pe_call (E := E0) G_is_number (hr.mono (by decide)) (by rfl) g_is_number k_is_number b_is_number .nil passX0 (pa_cons (pv 1) pa_nil)) (pe_one (pe_call (E := E0) G_is_short (hr.mono (by decide)) (by rfl) g_is_short k_is_short b_is_short .nil passX0 (pa_cons (pv 2) pa_nil))))))) pa_nil)))))))), body_ok (K := K) (E := E) (N := ["value", "state", "word"]) (ps := ["value"]) (ts := ts_are_worded K) (ts' := ts_are_worded K) rfl h⟩)
abbrev ts_is_edge (K : PySem.W.Frag) : TS := tSeq (tIfS (tOr (tNot (tB (tCB (rIsi K) (tCons (tVar 1) (tCons (tC (V.ty "tuple")) tNil))))) (tTest (tOp rNe (tCB (rLen K) (tCons (tVar 1) tNil)) (tC (V.int 4))))) (tRet (tC (V.bl false))) tNext) (tSeq (tAsg (tVar 1) (gTup K 4 (gCons (gName 2) (gCons (gName 3) (gCons (gName 4) (gCons (gName 5) gNil)))))) (tSeq (tIfS (tOr (tNot (tB (tCall (spOf K (D_is_number K)) [] E0 (tCons (tVar 2) tNil)))) (tOr (tNot (tB (tCall (spOf K (D_is_number K)) [] E0 (tCons (tVar 5) tNil)))) (tNot (tB (tCall (spOf K (D_is_short K)) [] E0 (tCons (tVar 4) tNil)))))) (tRet (tC (V.bl false))) tNext) (tRet (tAndV (tCB (rIsi K) (tCons (tVar 3) (tCons (tC (V.ty "str")) tNil))) (tAndV (tOp rEq (tCB (rLen K) (tCons (tVar 3) tNil)) (tC (V.int 1))) (tOp rInS (tVar 3) (tVar 0)))))))
def D_is_edge (K : PySem.W.Frag) : DefR := bodyR (K := K) ["letters", "value", "state", "letter", "word", "target"] ["letters", "value"] (ts_is_edge K)
theorem ok_is_edge (T : Tx K mg) : Has Drw.prog Drw.wld K mg base (L2.CX Drw.prog Drw.wld) 4 "is_edge" ["letters", "value"] (spOf K (D_is_edge K)) := by
  obtain ⟨g_is_short, k_is_short, fd_is_short, G_is_short, b_is_short⟩ := ok_is_short (base := base) T
  obtain ⟨g_is_number, k_is_number, fd_is_number, G_is_number, b_is_number⟩ := ok_is_number (base := base) T
  obtain ⟨fd, F⟩ := T.fn_is_edge
  exact has_of T.g_is_edge F sc_is_edge (fun _ _ _ _ _ _ us hl => match us, hl with | [_, _], _ => rfl) (fun vs H Q E h => body_len h) (fun cdv A outer s H vs Q E hr h => ⟨ts_is_edge K, PSs.nox (
    (pss_cons (ps_if (PW.pt (pw_or (pt_not (pt_val (pe_callB (r := rIsi K) call_isi (by rfl) T.n_isinstance (by decide +kernel) (pa_cons (pv 1) (pa_cons (pe_bltn (v := .ty "tuple") (by rfl) T.n_tuple (by decide +kernel) rfl) pa_nil))))) (pw_or1 (pt_cmpR op_ne (pe_callB (r := rLen K) call_len (by rfl) T.n_len (by decide +kernel) (pa_cons (pv 1) pa_nil)) pe_int (nomark _))))) (pss_one (ps_ret (by exact pe_bl))) pss_nil)
    (pss_cons (ps_asg (pv 1) (pg_tup (n := 4) (by rfl) (pgs_cons (pg_name (i := 2) sc_is_edge.nd rfl (Or.inl rfl)) (pgs_cons (pg_name (i := 3) sc_is_edge.nd rfl (Or.inl rfl)) (pgs_cons (pg_name (i := 4) sc_is_edge.nd rfl (Or.inl rfl)) (pgs_cons (pg_name (i := 5) sc_is_edge.nd rfl (Or.inl rfl)) pgs_nil))))))
    (pss_cons (ps_if (PW.pt (pw_or (pt_not (pt_val (pe_call (E := E0) G_is_number (hr.mono (by decide)) (by rfl) g_is_number k_is_number b_is_number .nil passX0 (pa_cons (pv 2) pa_nil)))) (pw_or (pt_not (pt_val (pe_call (E := E0) G_is_number (hr.mono (by decide)) (by rfl) g_is_number k_is_number b_is_number .nil passX0 (pa_cons (pv 5) pa_nil)))) (pw_or1 (pt_not (pt_val (pe_call (E := E0) G_is_short (hr.mono (by decide)) (by rfl) g_is_short k_is_short b_is_short .nil passX0 (pa_cons (pv 4) pa_nil)))))))) (pss_one (ps_ret (by exact pe_bl))) pss_nil)
    (pss_one (ps_ret (by exact (pe_and (pe_callB (r := rIsi K) call_isi (by rfl) T.n_isinstance (by decide +kernel) (pa_cons (pv 3) (pa_cons (pe_bltn (v := .ty "str") (by rfl) T.n_str (by decide +kernel) rfl) pa_nil))) (pe_and (pe_cmpR op_eq (pe_callB (r := rLen K) call_len (by rfl) T.n_len (by decide +kernel) (pa_cons (pv 3) pa_nil)) pe_int (nomark _)) (pe_one (pe_cmpR op_inS (pv 3) (pv 0) (by rfl)))))))))))), body_ok (K := K) (E := E) (N := ["letters", "value", "state", "letter", "word", "target"]) (ps := ["letters", "value"]) (ts := ts_is_edge K) (ts' := ts_is_edge K) rfl h⟩)
abbrev ts_require_rest (K : PySem.W.Frag) (E : XK) : TS := tSeq (tDrop (tCall (spOf K (D_require_text K)) [] E (tCons (tVar 1) tNil))) (tIfS (tNot (tB (tCB (rAll K) (tCons (tLc (iStr (tVar 1)) (gName 2) tYes (tOp rInS (tVar 2) (tFldO (ga K (Str.ofString "Rewriter")) (Str.ofString "own_letters") (tVar 0))) (List.map (fun x => x.snd) [(Str.ofString "letter", 2)])) tNil)))) (RunX.tRaise (ga K (Str.ofString "InvalidOperation")) E) tNext)
def D_require_rest (K : PySem.W.Frag) : DefR := bodyR (K := K) ["thing", "value", "letter"] ["thing", "value"] (ts_require_rest K EN)
theorem ok_require_rest (T : Tx K mg) : Has Drw.prog Drw.wld K mg base (L2.CX Drw.prog Drw.wld) 4 "require_rest" ["thing", "value"] (spOf K (D_require_rest K)) := by
  obtain ⟨g_require_text, k_require_text, fd_require_text, G_require_text, b_require_text⟩ := ok_require_text (base := base) T
  obtain ⟨fd, F⟩ := T.fn_require_rest
  exact has_of T.g_require_rest F sc_require_rest (fun _ _ _ _ _ _ us hl => match us, hl with | [_, _], _ => rfl) (fun vs H Q E h => body_len h) (fun cdv A outer s H vs Q E hr h => ⟨ts_require_rest K E, (pss_cons (ps_expr (pe_call (E := E) G_require_text (hr.mono (by decide)) (by rfl) g_require_text k_require_text b_require_text .nil (passes_call (takes_of rfl rfl rfl rfl) (fun _ _ _ _ h => h)) (pa_cons (pv 1) pa_nil)))
    (pss_one (ps_if (pt_not (pt_val (pe_callB (r := rAll K) (cr_all rfl) (by rfl) T.n_all (by decide +kernel) (pa_cons (pe_lc (own := [("letter", 2)]) (g := gName 2) (by rfl) sc_require_rest.nd (pi_str (pv 1)) (blkOk_by (own := [("letter", 2)]) (N := ["thing", "value", "letter"]) (sc := defScope s_require_rest) (by decide +kernel)) (fun _ _ _ _ _ => (pg_name (i := 2) sc_require_rest.nd rfl (Or.inl rfl))) (fun _ _ _ _ _ => pts_nil) (fun _ _ _ _ _ => (pe_cmpR op_inS (pv 2) (pe_fldO (T.c_Rewriter).1 T.f_Rewriter_own_letters (pv 0)) (by rfl)))) pa_nil)))) (pss_one (asRaise (C := ga K "InvalidOperation") (E := E) (ps_raise rfl (takes_of rfl rfl rfl rfl) (pmk_own PySem.F.excBase_ValueError (T.e_InvalidOperation).1 T.g_InvalidOperation (T.e_InvalidOperation).2.1 (raises_own (T.e_InvalidOperation).2.2.1 (T.e_InvalidOperation).2.2.2) (by rfl))))) pss_nil))), body_ok (K := K) (E := E) (N := ["thing", "value", "letter"]) (ps := ["thing", "value"]) (ts := ts_require_rest K EN) (ts' := ts_require_rest K E) rfl h⟩)
abbrev ts_links_in (K : PySem.W.Frag) : TS := tSeq (tAsg tDNewT (gName 1)) (tSeq (tFor (iTup K (tFldO (ga K (Str.ofString "Rewriter")) (Str.ofString "own_states") (tVar 0))) (gName 2) (tFor (iList K (tCB rSortedDI (tCons (tCall (spOf K (D_ahead_in K)) [] E0 (tCons (tVar 0) (tCons (tVar 2) tNil))) tNil))) (gName 3) (tIfS (tTest (tOp rNe (tVar 2) (tVar 3))) (tSeq (tAsg (tCall (spOf K (D_link_in K)) [] E0 (tCons (tVar 0) (tCons (tVar 2) (tCons (tVar 3) tNil)))) (gName 4)) (tIfS (tTest (tOp rNotN (tVar 4) (tC V.non))) (tAsg (tVar 4) (gSub (tVar 1) (tTup (tCons (tVar 2) (tCons (tVar 3) tNil))) (rSetX Drw.wld))) tNext)) tNext))) (tRet (tVar 1)))
def D_links_in (K : PySem.W.Frag) : DefR := bodyR (K := K) ["rewriter", "found", "one", "other", "text"] ["rewriter"] (ts_links_in K)
theorem ok_links_in (T : Tx K mg) : Has Drw.prog Drw.wld K mg base (L2.CX Drw.prog Drw.wld) 3 "links_in" ["rewriter"] (spOf K (D_links_in K)) := by
  obtain ⟨g_ahead_in, k_ahead_in, fd_ahead_in, G_ahead_in, b_ahead_in⟩ := ok_ahead_in (base := base) T
  obtain ⟨g_link_in, k_link_in, fd_link_in, G_link_in, b_link_in⟩ := ok_link_in (base := base) T
  obtain ⟨fd, F⟩ := T.fn_links_in
  exact has_of T.g_links_in F sc_links_in (fun _ _ _ _ _ _ us hl => match us, hl with | [_], _ => rfl) (fun vs H Q E h => body_len h) (fun cdv A outer s H vs Q E hr h => ⟨ts_links_in K, PSs.nox (
    (pss_cons (ps_set (i := 1) sc_links_in.nd rfl (Or.inl rfl) (by exact pe_dnewT))
    (pss_cons (ps_for PassesOwn.never rfl (pi_tup (pe_fldO (T.c_Rewriter).1 T.f_Rewriter_own_states (pv 0))) (pg_name (i := 2) sc_links_in.nd rfl (Or.inl rfl)) (pss_one (ps_for PassesOwn.never rfl (pi_list (pe_callB (r := rSortedDI) (cr_sortedDI rfl) (by rfl) T.n_sorted (by decide +kernel) (pa_cons (pe_call (E := E0) G_ahead_in (hr.mono (by decide)) (by rfl) g_ahead_in k_ahead_in b_ahead_in .nil passX0 (pa_cons (pv 0) (pa_cons (pv 2) pa_nil))) pa_nil))) (pg_name (i := 3) sc_links_in.nd rfl (Or.inl rfl)) (pss_one (ps_if (pt_cmpR op_ne (pv 2) (pv 3) (nomark _)) (pss_cons (ps_set (i := 4) sc_links_in.nd rfl (Or.inl rfl) (by exact (pe_call (E := E0) G_link_in (hr.mono (by decide)) (by rfl) g_link_in k_link_in b_link_in .nil passX0 (pa_cons (pv 0) (pa_cons (pv 2) (pa_cons (pv 3) pa_nil))))))
    (pss_one (ps_if (pt_cmpR (r := rNotN) op_notN (pv 4) pe_non (nomark _)) (pss_one (ps_asg (pv 4) (pg_sub (pv 1) (pe_tup (pa_cons (pv 2) (pa_cons (pv 3) pa_nil))) (set_xW (w := Drw.wld) rfl T.sys hr.u65)))) pss_nil))) pss_nil)))))
    (pss_one (ps_ret (by exact (pv 1))))))), body_ok (K := K) (E := E) (N := ["rewriter", "found", "one", "other", "text"]) (ps := ["rewriter"]) (ts := ts_links_in K) (ts' := ts_links_in K) rfl h⟩)
abbrev ts_is_one_path_paper_in (K : PySem.W.Frag) : TS := tSeq (tIfS (tOr (tNot (tB (tCB (rIsi K) (tCons (tVar 1) (tCons (tC (V.ty "tuple")) tNil))))) (tOr (tTest (tOp (rEqE K) (tVar 1) (tTup tNil))) (tNot (tB (tCB (rIsi K) (tCons (tOp (rIxT K) (tVar 1) (tC (V.int 0))) (tCons (tC (V.ty "str")) tNil))))))) (tRet (tC (V.bl false))) tNext) (tSeq (tIfS (tTest (tOp rEq (tOp (rIxT K) (tVar 1) (tC (V.int 0))) (tC (V.str (Str.ofString "one"))))) (tRet (tAndV (tOp rEq (tCB (rLen K) (tCons (tVar 1) tNil)) (tC (V.int 2))) (tCall (spOf K (D_are_closed K)) [] E0 (tCons (tVar 0) (tCons (tOp (rIxT K) (tVar 1) (tC (V.int 1))) tNil))))) tNext) (tSeq (tIfS (tOr (tTest (tOp rNe (tOp (rIxT K) (tVar 1) (tC (V.int 0))) (tC (V.str (Str.ofString "two"))))) (tOr (tTest (tOp rNe (tCB (rLen K) (tCons (tVar 1) tNil)) (tC (V.int 4)))) (tNot (tB (tCB (rIsi K) (tCons (tOp (rIxT K) (tVar 1) (tC (V.int 1))) (tCons (tC (V.ty "str")) tNil))))))) (tRet (tC (V.bl false))) tNext) (tSeq (tAsg (tSl (rSlT K) (tVar 1) (tPart (tC (V.int 1))) tNoPart) (gTup K 3 (gCons (gName 2) (gCons (gName 3) (gCons (gName 4) gNil))))) (tSeq (tIfS (tOr (tNot (tB (tCall (spOf K (D_is_complete_in K)) [] E0 (tCons (tVar 0) (tCons (tVar 3) tNil))))) (tNot (tB (tCall (spOf K (D_is_complete_in K)) [] E0 (tCons (tVar 0) (tCons (tVar 4) tNil)))))) (tRet (tC (V.bl false))) tNext) tNever))))
def D_is_one_path_paper_in (K : PySem.W.Frag) : DefR := bodyR (K := K) ["rewriter", "value", "text", "path", "other"] ["rewriter", "value"] (ts_is_one_path_paper_in K)
theorem ok_is_one_path_paper_in (T : Tx K mg) : Has Drw.prog Drw.wld K mg base (L2.CX Drw.prog Drw.wld) 4 "is_one_path_paper_in" ["rewriter", "value"] (spOf K (D_is_one_path_paper_in K)) := by
  obtain ⟨t_ONE, c_ONE⟩ := T.v_ONE
  obtain ⟨t_PAIR_SIZE, c_PAIR_SIZE⟩ := T.v_PAIR_SIZE
  obtain ⟨t_TWO_SIZE, c_TWO_SIZE⟩ := T.v_TWO_SIZE
  obtain ⟨t_TWO_growing, c_TWO_growing⟩ := T.v_TWO_growing
  obtain ⟨g_are_closed, k_are_closed, fd_are_closed, G_are_closed, b_are_closed⟩ := ok_are_closed (base := base) T
  obtain ⟨g_is_complete_in, k_is_complete_in, fd_is_complete_in, G_is_complete_in, b_is_complete_in⟩ := ok_is_complete_in (base := base) T
  obtain ⟨fd, F⟩ := T.fn_is_one_path_paper_in
  exact has_of T.g_is_one_path_paper_in F sc_is_one_path_paper_in (fun _ _ _ _ _ _ us hl => match us, hl with | [_, _], _ => rfl) (fun vs H Q E h => body_len h) (fun cdv A outer s H vs Q E hr h => ⟨ts_is_one_path_paper_in K, PSs.nox (
    (pss_cons (ps_if (PW.pt (pw_or (pt_not (pt_val (pe_callB (r := rIsi K) call_isi (by rfl) T.n_isinstance (by decide +kernel) (pa_cons (pv 1) (pa_cons (pe_bltn (v := .ty "tuple") (by rfl) T.n_tuple (by decide +kernel) rfl) pa_nil))))) (pw_or (pt_cmpR (r := rEqE K) (op_eqE hr.units0) (pv 1) (pe_tup pa_nil) (nomark _)) (pw_or1 (pt_not (pt_val (pe_callB (r := rIsi K) call_isi (by rfl) T.n_isinstance (by decide +kernel) (pa_cons (pe_ix (r := rIxT K) ix_tup (pv 1) pe_int (fun _ _ => rfl)) (pa_cons (pe_bltn (v := .ty "str") (by rfl) T.n_str (by decide +kernel) rfl) pa_nil))))))))) (pss_one (ps_ret (by exact pe_bl))) pss_nil)
    (pss_cons (ps_if (pt_cmpR op_eq (pe_ix (r := rIxT K) ix_tup (pv 1) pe_int (fun _ _ => rfl)) (pe_glob (v := .str "one") rfl c_ONE ⟨_, rfl⟩) (nomark _)) (pss_one (ps_ret (by exact (pe_and (pe_cmpR op_eq (pe_callB (r := rLen K) call_len (by rfl) T.n_len (by decide +kernel) (pa_cons (pv 1) pa_nil)) (pe_glob (v := .int 2) rfl c_PAIR_SIZE ⟨_, rfl⟩) (nomark _)) (pe_one (pe_call (E := E0) G_are_closed (hr.mono (by decide)) (by rfl) g_are_closed k_are_closed b_are_closed .nil passX0 (pa_cons (pv 0) (pa_cons (pe_ix (r := rIxT K) ix_tup (pv 1) pe_int (fun _ _ => rfl)) pa_nil)))))))) pss_nil)
    (pss_cons (ps_if (PW.pt (pw_or (pt_cmpR op_ne (pe_ix (r := rIxT K) ix_tup (pv 1) pe_int (fun _ _ => rfl)) (pe_glob (v := .str "two") rfl c_TWO_growing ⟨_, rfl⟩) (nomark _)) (pw_or (pt_cmpR op_ne (pe_callB (r := rLen K) call_len (by rfl) T.n_len (by decide +kernel) (pa_cons (pv 1) pa_nil)) (pe_glob (v := .int 4) rfl c_TWO_SIZE ⟨_, rfl⟩) (nomark _)) (pw_or1 (pt_not (pt_val (pe_callB (r := rIsi K) call_isi (by rfl) T.n_isinstance (by decide +kernel) (pa_cons (pe_ix (r := rIxT K) ix_tup (pv 1) pe_int (fun _ _ => rfl)) (pa_cons (pe_bltn (v := .ty "str") (by rfl) T.n_str (by decide +kernel) rfl) pa_nil))))))))) (pss_one (ps_ret (by exact pe_bl))) pss_nil)
    (pss_cons (ps_asg (pe_slice sl_tup (pv 1) (po_some pe_int) po_none) (pg_tup (n := 3) (by rfl) (pgs_cons (pg_name (i := 2) sc_is_one_path_paper_in.nd rfl (Or.inl rfl)) (pgs_cons (pg_name (i := 3) sc_is_one_path_paper_in.nd rfl (Or.inl rfl)) (pgs_cons (pg_name (i := 4) sc_is_one_path_paper_in.nd rfl (Or.inl rfl)) pgs_nil)))))
    (pss_cons (ps_if (PW.pt (pw_or (pt_not (pt_val (pe_call (E := E0) G_is_complete_in (hr.mono (by decide)) (by rfl) g_is_complete_in k_is_complete_in b_is_complete_in .nil passX0 (pa_cons (pv 0) (pa_cons (pv 3) pa_nil))))) (pw_or1 (pt_not (pt_val (pe_call (E := E0) G_is_complete_in (hr.mono (by decide)) (by rfl) g_is_complete_in k_is_complete_in b_is_complete_in .nil passX0 (pa_cons (pv 0) (pa_cons (pv 4) pa_nil)))))))) (pss_one (ps_ret (by exact pe_bl))) pss_nil)
    pss_never)))))), body_ok (K := K) (E := E) (N := ["rewriter", "value", "text", "path", "other"]) (ps := ["rewriter", "value"]) (ts := ts_is_one_path_paper_in K) (ts' := ts_is_one_path_paper_in K) rfl h⟩)
abbrev ts_are_double (K : PySem.W.Frag) : TS := tSeq (tIfS (tOr (tTest (tOp rNe (tCB (rLen K) (tCons (tVar 1) tNil)) (tC (V.int 4)))) (tOr (tNot (tB (tCall (spOf K (D_is_integer K)) [] E0 (tCons (tOp (rIxT K) (tVar 1) (tC (V.int 1))) tNil)))) (tTest (tOp (rIn K true) (tOp (rIxT K) (tVar 1) (tC (V.int 1))) (tFldO (ga K (Str.ofString "Rewriter")) (Str.ofString "own_states") (tVar 0)))))) (tRet (tC (V.bl false))) tNext) (tSeq (tAsg (tSl (rSlT K) (tVar 1) (tPart (tC (V.int 1))) tNoPart) (gTup K 3 (gCons (gName 2) (gCons (gName 3) (gCons (gName 4) gNil))))) (tSeq (tIfS (tNot (tB (tCB (rAll K) (tCons (tLc (iTup K (tTup (tCons (tVar 3) (tCons (tVar 4) tNil)))) (gName 5) tYes (tCall (spOf K (D_is_row_between K)) [] E0 (tCons (tVar 0) (tCons (tVar 2) (tCons (tVar 2) (tCons (tVar 5) tNil))))) (List.map (fun x => x.snd) [(Str.ofString "one", 5)])) tNil)))) (tRet (tC (V.bl false))) tNext) tNever))
def D_are_double (K : PySem.W.Frag) : DefR := bodyR (K := K) ["rewriter", "value", "state", "circle", "other", "one"] ["rewriter", "value"] (ts_are_double K)
theorem ok_are_double (T : Tx K mg) : Has Drw.prog Drw.wld K mg base (L2.CX Drw.prog Drw.wld) 2 "are_double" ["rewriter", "value"] (spOf K (D_are_double K)) := by
  obtain ⟨t_TWO_SIZE, c_TWO_SIZE⟩ := T.v_TWO_SIZE
  obtain ⟨g_is_integer, k_is_integer, fd_is_integer, G_is_integer, b_is_integer⟩ := ok_is_integer (base := base) T
  obtain ⟨g_is_row_between, k_is_row_between, fd_is_row_between, G_is_row_between, b_is_row_between⟩ := ok_is_row_between (base := base) T
  obtain ⟨fd, F⟩ := T.fn_are_double
  exact has_of T.g_are_double F sc_are_double (fun _ _ _ _ _ _ us hl => match us, hl with | [_, _], _ => rfl) (fun vs H Q E h => body_len h) (fun cdv A outer s H vs Q E hr h => ⟨ts_are_double K, PSs.nox (
    (pss_cons (ps_if (PW.pt (pw_or (pt_cmpR op_ne (pe_callB (r := rLen K) call_len (by rfl) T.n_len (by decide +kernel) (pa_cons (pv 1) pa_nil)) (pe_glob (v := .int 4) rfl c_TWO_SIZE ⟨_, rfl⟩) (nomark _)) (pw_or (pt_not (pt_val (pe_call (E := E0) G_is_integer (hr.mono (by decide)) (by rfl) g_is_integer k_is_integer b_is_integer .nil passX0 (pa_cons (pe_ix (r := rIxT K) ix_tup (pv 1) pe_int (fun _ _ => rfl)) pa_nil)))) (pw_or1 (pt_cmpR (r := rIn K true) op_notIn_seq (pe_ix (r := rIxT K) ix_tup (pv 1) pe_int (fun _ _ => rfl)) (pe_fldO (T.c_Rewriter).1 T.f_Rewriter_own_states (pv 0)) (by rfl)))))) (pss_one (ps_ret (by exact pe_bl))) pss_nil)
    (pss_cons (ps_asg (pe_slice sl_tup (pv 1) (po_some pe_int) po_none) (pg_tup (n := 3) (by rfl) (pgs_cons (pg_name (i := 2) sc_are_double.nd rfl (Or.inr rfl)) (pgs_cons (pg_name (i := 3) sc_are_double.nd rfl (Or.inl rfl)) (pgs_cons (pg_name (i := 4) sc_are_double.nd rfl (Or.inl rfl)) pgs_nil)))))
    (pss_cons (ps_if (pt_not (pt_val (pe_callB (r := rAll K) (cr_all rfl) (by rfl) T.n_all (by decide +kernel) (pa_cons (pe_lc (own := [("one", 5)]) (g := gName 5) (by rfl) sc_are_double.nd (pi_tup (pe_tup (pa_cons (pv 3) (pa_cons (pv 4) pa_nil)))) (blkOk_by (own := [("one", 5)]) (N := ["rewriter", "value", "state", "circle", "other", "one"]) (sc := defScope s_are_double) (by decide +kernel)) (fun _ _ _ _ _ => (pg_name (i := 5) sc_are_double.nd rfl (Or.inl rfl))) (fun _ _ _ _ _ => pts_nil) (fun _ _ _ _ _ => (pe_call (E := E0) G_is_row_between (hr.mono (by decide)) (by rfl) g_is_row_between k_is_row_between b_is_row_between .nil passX0 (pa_cons (pv 0) (pa_cons (pv 2) (pa_cons (pv 2) (pa_cons (pv 5) pa_nil))))))) pa_nil)))) (pss_one (ps_ret (by exact pe_bl))) pss_nil)
    pss_never)))), body_ok (K := K) (E := E) (N := ["rewriter", "value", "state", "circle", "other", "one"]) (ps := ["rewriter", "value"]) (ts := ts_are_double K) (ts' := ts_are_double K) rfl h⟩)
abbrev ts_is_chain (K : PySem.W.Frag) : TS := tSeq (tIfS (tOr (tNot (tB (tCB (rIsi K) (tCons (tVar 1) (tCons (tC (V.ty "tuple")) tNil))))) (tNot (tB (tCB (rAll K) (tCons (tLc (iTup K (tVar 1)) (gName 2) tYes (tCall (spOf K (D_is_link K)) [] E0 (tCons (tVar 0) (tCons (tVar 2) tNil))) (List.map (fun x => x.snd) [(Str.ofString "one", 2)])) tNil))))) (tRet (tC (V.bl false))) tNext) tNever
def D_is_chain (K : PySem.W.Frag) : DefR := bodyR (K := K) ["rewriter", "value", "one", "other"] ["rewriter", "value"] (ts_is_chain K)
theorem ok_is_chain (T : Tx K mg) : Has Drw.prog Drw.wld K mg base (L2.CX Drw.prog Drw.wld) 4 "is_chain" ["rewriter", "value"] (spOf K (D_is_chain K)) := by
  obtain ⟨g_is_link, k_is_link, fd_is_link, G_is_link, b_is_link⟩ := ok_is_link (base := base) T
  obtain ⟨fd, F⟩ := T.fn_is_chain
  exact has_of T.g_is_chain F sc_is_chain (fun _ _ _ _ _ _ us hl => match us, hl with | [_, _], _ => rfl) (fun vs H Q E h => body_len h) (fun cdv A outer s H vs Q E hr h => ⟨ts_is_chain K, PSs.nox (
    (pss_cons (ps_if (PW.pt (pw_or (pt_not (pt_val (pe_callB (r := rIsi K) call_isi (by rfl) T.n_isinstance (by decide +kernel) (pa_cons (pv 1) (pa_cons (pe_bltn (v := .ty "tuple") (by rfl) T.n_tuple (by decide +kernel) rfl) pa_nil))))) (pw_or1 (pt_not (pt_val (pe_callB (r := rAll K) (cr_all rfl) (by rfl) T.n_all (by decide +kernel) (pa_cons (pe_lc (own := [("one", 2)]) (g := gName 2) (by rfl) sc_is_chain.nd (pi_tup (pv 1)) (blkOk_by (own := [("one", 2)]) (N := ["rewriter", "value", "one", "other"]) (sc := defScope s_is_chain) (by decide +kernel)) (fun _ _ _ _ _ => (pg_name (i := 2) sc_is_chain.nd rfl (Or.inl rfl))) (fun _ _ _ _ _ => pts_nil) (fun _ _ _ _ _ => (pe_call (E := E0) G_is_link (hr.mono (by decide)) (by rfl) g_is_link k_is_link b_is_link .nil passX0 (pa_cons (pv 0) (pa_cons (pv 2) pa_nil))))) pa_nil))))))) (pss_one (ps_ret (by exact pe_bl))) pss_nil)
    pss_never)), body_ok (K := K) (E := E) (N := ["rewriter", "value", "one", "other"]) (ps := ["rewriter", "value"]) (ts := ts_is_chain K) (ts' := ts_is_chain K) rfl h⟩)
abbrev ts_linked_pairs (K : PySem.W.Frag) (E : XK) : TS := tSeq (tDrop (tCall (spOf K (D_require_rewriter K)) [] E (tCons (tVar 0) tNil))) tNever
def D_linked_pairs (K : PySem.W.Frag) : DefR := bodyR (K := K) ["rewriter"] ["rewriter"] (ts_linked_pairs K EN)
theorem ok_linked_pairs (T : Tx K mg) : Has Drw.prog Drw.wld K mg base (L2.CX Drw.prog Drw.wld) 2 "linked_pairs" ["rewriter"] (spOf K (D_linked_pairs K)) := by
  obtain ⟨g_require_rewriter, k_require_rewriter, fd_require_rewriter, G_require_rewriter, b_require_rewriter⟩ := ok_require_rewriter (base := base) T
  obtain ⟨fd, F⟩ := T.fn_linked_pairs
  exact has_of T.g_linked_pairs F sc_linked_pairs (fun _ _ _ _ _ _ us hl => match us, hl with | [_], _ => rfl) (fun vs H Q E h => body_len h) (fun cdv A outer s H vs Q E hr h => ⟨ts_linked_pairs K E, (pss_cons (ps_expr (pe_call (E := E) G_require_rewriter (hr.mono (by decide)) (by rfl) g_require_rewriter k_require_rewriter b_require_rewriter .nil (passes_call (takes_of rfl rfl rfl rfl) (fun _ _ _ _ h => h)) (pa_cons (pv 0) pa_nil)))
    pss_never), body_ok (K := K) (E := E) (N := ["rewriter"]) (ps := ["rewriter"]) (ts := ts_linked_pairs K EN) (ts' := ts_linked_pairs K E) rfl h⟩)
abbrev ts_growth (K : PySem.W.Frag) (E : XK) : TS := tSeq (tDrop (tCall (spOf K (D_require_rewriter K)) [] E (tCons (tVar 0) tNil))) tNever
def D_growth (K : PySem.W.Frag) : DefR := bodyR (K := K) ["rewriter"] ["rewriter"] (ts_growth K EN)
theorem ok_growth (T : Tx K mg) : Has Drw.prog Drw.wld K mg base (L2.CX Drw.prog Drw.wld) 2 "growth" ["rewriter"] (spOf K (D_growth K)) := by
  obtain ⟨g_require_rewriter, k_require_rewriter, fd_require_rewriter, G_require_rewriter, b_require_rewriter⟩ := ok_require_rewriter (base := base) T
  obtain ⟨fd, F⟩ := T.fn_growth
  exact has_of T.g_growth F sc_growth (fun _ _ _ _ _ _ us hl => match us, hl with | [_], _ => rfl) (fun vs H Q E h => body_len h) (fun cdv A outer s H vs Q E hr h => ⟨ts_growth K E, (pss_cons (ps_expr (pe_call (E := E) G_require_rewriter (hr.mono (by decide)) (by rfl) g_require_rewriter k_require_rewriter b_require_rewriter .nil (passes_call (takes_of rfl rfl rfl rfl) (fun _ _ _ _ h => h)) (pa_cons (pv 0) pa_nil)))
    pss_never), body_ok (K := K) (E := E) (N := ["rewriter"]) (ps := ["rewriter"]) (ts := ts_growth K EN) (ts' := ts_growth K E) rfl h⟩)
abbrev ts_growth_paper (K : PySem.W.Frag) (E : XK) : TS := tSeq (tDrop (tCall (spOf K (D_require_rewriter K)) [] E (tCons (tVar 0) tNil))) tNever
def D_growth_paper (K : PySem.W.Frag) : DefR := bodyR (K := K) ["rewriter"] ["rewriter"] (ts_growth_paper K EN)
theorem ok_growth_paper (T : Tx K mg) : Has Drw.prog Drw.wld K mg base (L2.CX Drw.prog Drw.wld) 2 "growth_paper" ["rewriter"] (spOf K (D_growth_paper K)) := by
  obtain ⟨g_require_rewriter, k_require_rewriter, fd_require_rewriter, G_require_rewriter, b_require_rewriter⟩ := ok_require_rewriter (base := base) T
  obtain ⟨fd, F⟩ := T.fn_growth_paper
  exact has_of T.g_growth_paper F sc_growth_paper (fun _ _ _ _ _ _ us hl => match us, hl with | [_], _ => rfl) (fun vs H Q E h => body_len h) (fun cdv A outer s H vs Q E hr h => ⟨ts_growth_paper K E, (pss_cons (ps_expr (pe_call (E := E) G_require_rewriter (hr.mono (by decide)) (by rfl) g_require_rewriter k_require_rewriter b_require_rewriter .nil (passes_call (takes_of rfl rfl rfl rfl) (fun _ _ _ _ h => h)) (pa_cons (pv 0) pa_nil)))
    pss_never), body_ok (K := K) (E := E) (N := ["rewriter"]) (ps := ["rewriter"]) (ts := ts_growth_paper K EN) (ts' := ts_growth_paper K E) rfl h⟩)
end
end K7
set_option maxHeartbeats 4000000
set_option synthInstance.maxSize 100000
set_option synthInstance.maxHeartbeats 4000000
namespace K7
open PySem PySem.Spec PyProof.Rows L2 He Hx Hy PO RunX PB NKx
section
variable [Drw] [Cbv] {K : PySem.W.Frag} {mg : Str → Option Value} {base : Heap}
abbrev ts_are_edges (K : PySem.W.Frag) : TS := tSeq (tIfS (tOr (tNot (tB (tCB (rIsi K) (tCons (tVar 1) (tCons (tC (V.ty "tuple")) tNil))))) (tNot (tB (tCB (rAll K) (tCons (tLc (iTup K (tVar 1)) (gName 2) tYes (tCall (spOf K (D_is_edge K)) [] E0 (tCons (tVar 0) (tCons (tVar 2) tNil))) (List.map (fun x => x.snd) [(Str.ofString "edge", 2)])) tNil))))) (tRet (tC (V.bl false))) tNext) (tRet (tOp (rI0 fun i j => V.bl (decide (i ≤ j))) (SX.tLenSetM K (tVar 1)) (tC (V.int 64))))
def D_are_edges (K : PySem.W.Frag) : DefR := bodyR (K := K) ["letters", "value", "edge"] ["letters", "value"] (ts_are_edges K)
theorem ok_are_edges (T : Tx K mg) : Has Drw.prog Drw.wld K mg base (L2.CX Drw.prog Drw.wld) 5 "are_edges" ["letters", "value"] (spOf K (D_are_edges K)) := by
  obtain ⟨t_MAX_EDGES, c_MAX_EDGES⟩ := T.v_MAX_EDGES
  obtain ⟨g_is_edge, k_is_edge, fd_is_edge, G_is_edge, b_is_edge⟩ := ok_is_edge (base := base) T
  obtain ⟨fd, F⟩ := T.fn_are_edges
  exact has_of T.g_are_edges F sc_are_edges (fun _ _ _ _ _ _ us hl => match us, hl with | [_, _], _ => rfl) (fun vs H Q E h => body_len h) (fun cdv A outer s H vs Q E hr h => ⟨ts_are_edges K, PSs.nox (
    (pss_cons (ps_if (PW.pt (pw_or (pt_not (pt_val (pe_callB (r := rIsi K) call_isi (by rfl) T.n_isinstance (by decide +kernel) (pa_cons (pv 1) (pa_cons (pe_bltn (v := .ty "tuple") (by rfl) T.n_tuple (by decide +kernel) rfl) pa_nil))))) (pw_or1 (pt_not (pt_val (pe_callB (r := rAll K) (cr_all rfl) (by rfl) T.n_all (by decide +kernel) (pa_cons (pe_lc (own := [("edge", 2)]) (g := gName 2) (by rfl) sc_are_edges.nd (pi_tup (pv 1)) (blkOk_by (own := [("edge", 2)]) (N := ["letters", "value", "edge"]) (sc := defScope s_are_edges) (by decide +kernel)) (fun _ _ _ _ _ => (pg_name (i := 2) sc_are_edges.nd rfl (Or.inl rfl))) (fun _ _ _ _ _ => pts_nil) (fun _ _ _ _ _ => (pe_call (E := E0) G_is_edge (hr.mono (by decide)) (by rfl) g_is_edge k_is_edge b_is_edge .nil passX0 (pa_cons (pv 0) (pa_cons (pv 2) pa_nil))))) pa_nil))))))) (pss_one (ps_ret (by exact pe_bl))) pss_nil)
    (pss_one (ps_ret (by exact (pe_cmpR op_le (SX.pe_lenSetM hr.u3 (by rfl) T.n_len (by rfl) T.n_set (pv 1)) (pe_glob (v := .int 64) rfl c_MAX_EDGES ⟨_, rfl⟩) (nomark _))))))), body_ok (K := K) (E := E) (N := ["letters", "value", "edge"]) (ps := ["letters", "value"]) (ts := ts_are_edges K) (ts' := ts_are_edges K) rfl h⟩)
abbrev ts_is_growth_paper_in (K : PySem.W.Frag) : TS := tSeq (tIfS (tOr (tNot (tB (tCB (rIsi K) (tCons (tVar 1) (tCons (tC (V.ty "tuple")) tNil))))) (tOr (tTest (tOp (rEqE K) (tVar 1) (tTup tNil))) (tNot (tB (tCB (rIsi K) (tCons (tOp (rIxT K) (tVar 1) (tC (V.int 0))) (tCons (tC (V.ty "str")) tNil))))))) (tRet (tC (V.bl false))) tNext) (tSeq (tIfS (tTest (tOp rEq (tOp (rIxT K) (tVar 1) (tC (V.int 0))) (tC (V.str (Str.ofString "doubling"))))) (tRet (tCall (spOf K (D_are_double K)) [] E0 (tCons (tVar 0) (tCons (tVar 1) tNil)))) tNext) (tSeq (tIfS (tOr (tTest (tOp rNe (tOp (rIxT K) (tVar 1) (tC (V.int 0))) (tC (V.str (Str.ofString "grows"))))) (tOr (tTest (tOp rNe (tCB (rLen K) (tCons (tVar 1) tNil)) (tC (V.int 3)))) (tNot (tB (tCall (spOf K (D_is_chain K)) [] E0 (tCons (tVar 0) (tCons (tOp (rIxT K) (tVar 1) (tC (V.int 1))) tNil))))))) (tRet (tC (V.bl false))) tNext) tNever))
def D_is_growth_paper_in (K : PySem.W.Frag) : DefR := bodyR (K := K) ["rewriter", "value"] ["rewriter", "value"] (ts_is_growth_paper_in K)
theorem ok_is_growth_paper_in (T : Tx K mg) : Has Drw.prog Drw.wld K mg base (L2.CX Drw.prog Drw.wld) 5 "is_growth_paper_in" ["rewriter", "value"] (spOf K (D_is_growth_paper_in K)) := by
  obtain ⟨t_DOUBLING, c_DOUBLING⟩ := T.v_DOUBLING
  obtain ⟨t_TRIPLE_SIZE, c_TRIPLE_SIZE⟩ := T.v_TRIPLE_SIZE
  obtain ⟨t_GROWS, c_GROWS⟩ := T.v_GROWS
  obtain ⟨g_are_double, k_are_double, fd_are_double, G_are_double, b_are_double⟩ := ok_are_double (base := base) T
  obtain ⟨g_is_chain, k_is_chain, fd_is_chain, G_is_chain, b_is_chain⟩ := ok_is_chain (base := base) T
  obtain ⟨fd, F⟩ := T.fn_is_growth_paper_in
  exact has_of T.g_is_growth_paper_in F sc_is_growth_paper_in (fun _ _ _ _ _ _ us hl => match us, hl with | [_, _], _ => rfl) (fun vs H Q E h => body_len h) (fun cdv A outer s H vs Q E hr h => ⟨ts_is_growth_paper_in K, PSs.nox (
    (pss_cons (ps_if (PW.pt (pw_or (pt_not (pt_val (pe_callB (r := rIsi K) call_isi (by rfl) T.n_isinstance (by decide +kernel) (pa_cons (pv 1) (pa_cons (pe_bltn (v := .ty "tuple") (by rfl) T.n_tuple (by decide +kernel) rfl) pa_nil))))) (pw_or (pt_cmpR (r := rEqE K) (op_eqE hr.units0) (pv 1) (pe_tup pa_nil) (nomark _)) (pw_or1 (pt_not (pt_val (pe_callB (r := rIsi K) call_isi (by rfl) T.n_isinstance (by decide +kernel) (pa_cons (pe_ix (r := rIxT K) ix_tup (pv 1) pe_int (fun _ _ => rfl)) (pa_cons (pe_bltn (v := .ty "str") (by rfl) T.n_str (by decide +kernel) rfl) pa_nil))))))))) (pss_one (ps_ret (by exact pe_bl))) pss_nil)
    (pss_cons (ps_if (pt_cmpR op_eq (pe_ix (r := rIxT K) ix_tup (pv 1) pe_int (fun _ _ => rfl)) (pe_glob (v := .str "doubling") rfl c_DOUBLING ⟨_, rfl⟩) (nomark _)) (pss_one (ps_ret (by exact (pe_call (E := E0) G_are_double (hr.mono (by decide)) (by rfl) g_are_double k_are_double b_are_double .nil passX0 (pa_cons (pv 0) (pa_cons (pv 1) pa_nil)))))) pss_nil)
    (pss_cons (ps_if (PW.pt (pw_or (pt_cmpR op_ne (pe_ix (r := rIxT K) ix_tup (pv 1) pe_int (fun _ _ => rfl)) (pe_glob (v := .str "grows") rfl c_GROWS ⟨_, rfl⟩) (nomark _)) (pw_or (pt_cmpR op_ne (pe_callB (r := rLen K) call_len (by rfl) T.n_len (by decide +kernel) (pa_cons (pv 1) pa_nil)) (pe_glob (v := .int 3) rfl c_TRIPLE_SIZE ⟨_, rfl⟩) (nomark _)) (pw_or1 (pt_not (pt_val (pe_call (E := E0) G_is_chain (hr.mono (by decide)) (by rfl) g_is_chain k_is_chain b_is_chain .nil passX0 (pa_cons (pv 0) (pa_cons (pe_ix (r := rIxT K) ix_tup (pv 1) pe_int (fun _ _ => rfl)) pa_nil))))))))) (pss_one (ps_ret (by exact pe_bl))) pss_nil)
    pss_never)))), body_ok (K := K) (E := E) (N := ["rewriter", "value"]) (ps := ["rewriter", "value"]) (ts := ts_is_growth_paper_in K) (ts' := ts_is_growth_paper_in K) rfl h⟩)
abbrev ts_is_one_path_paper (K : PySem.W.Frag) (E : XK) : TS := tSeq (tDrop (tCall (spOf K (D_require_rewriter K)) [] E (tCons (tVar 0) tNil))) (tRet (tCall (spOf K (D_is_one_path_paper_in K)) [] E (tCons (tVar 0) (tCons (tVar 1) tNil))))
def D_is_one_path_paper (K : PySem.W.Frag) : DefR := bodyR (K := K) ["rewriter", "value"] ["rewriter", "value"] (ts_is_one_path_paper K EN)
theorem ok_is_one_path_paper (T : Tx K mg) : Has Drw.prog Drw.wld K mg base (L2.CX Drw.prog Drw.wld) 5 "is_one_path_paper" ["rewriter", "value"] (spOf K (D_is_one_path_paper K)) := by
  obtain ⟨g_require_rewriter, k_require_rewriter, fd_require_rewriter, G_require_rewriter, b_require_rewriter⟩ := ok_require_rewriter (base := base) T
  obtain ⟨g_is_one_path_paper_in, k_is_one_path_paper_in, fd_is_one_path_paper_in, G_is_one_path_paper_in, b_is_one_path_paper_in⟩ := ok_is_one_path_paper_in (base := base) T
  obtain ⟨fd, F⟩ := T.fn_is_one_path_paper
  exact has_of T.g_is_one_path_paper F sc_is_one_path_paper (fun _ _ _ _ _ _ us hl => match us, hl with | [_, _], _ => rfl) (fun vs H Q E h => body_len h) (fun cdv A outer s H vs Q E hr h => ⟨ts_is_one_path_paper K E, (pss_cons (ps_expr (pe_call (E := E) G_require_rewriter (hr.mono (by decide)) (by rfl) g_require_rewriter k_require_rewriter b_require_rewriter .nil (passes_call (takes_of rfl rfl rfl rfl) (fun _ _ _ _ h => h)) (pa_cons (pv 0) pa_nil)))
    (pss_one (ps_ret (by exact (pe_call (E := E) G_is_one_path_paper_in (hr.mono (by decide)) (by rfl) g_is_one_path_paper_in k_is_one_path_paper_in b_is_one_path_paper_in .nil (passes_call (takes_of rfl rfl rfl rfl) (fun _ _ _ _ h => h)) (pa_cons (pv 0) (pa_cons (pv 1) pa_nil))))))), body_ok (K := K) (E := E) (N := ["rewriter", "value"]) (ps := ["rewriter", "value"]) (ts := ts_is_one_path_paper K EN) (ts' := ts_is_one_path_paper K E) rfl h⟩)
abbrev ts_count_paths (K : PySem.W.Frag) (E : XK) : TS := tSeq (tDrop (tCall (spOf K (D_require_rewriter K)) [] E (tCons (tVar 0) tNil))) (tSeq (tDrop (tCall (spOf K (D_require_rest K)) [] E (tCons (tVar 0) (tCons (tVar 1) tNil)))) tNever)
def D_count_paths (K : PySem.W.Frag) : DefR := bodyR (K := K) ["rewriter", "text", "row", "letter"] ["rewriter", "text"] (ts_count_paths K EN)
theorem ok_count_paths (T : Tx K mg) : Has Drw.prog Drw.wld K mg base (L2.CX Drw.prog Drw.wld) 5 "count_paths" ["rewriter", "text"] (spOf K (D_count_paths K)) := by
  obtain ⟨g_require_rewriter, k_require_rewriter, fd_require_rewriter, G_require_rewriter, b_require_rewriter⟩ := ok_require_rewriter (base := base) T
  obtain ⟨g_require_rest, k_require_rest, fd_require_rest, G_require_rest, b_require_rest⟩ := ok_require_rest (base := base) T
  obtain ⟨fd, F⟩ := T.fn_count_paths
  exact has_of T.g_count_paths F sc_count_paths (fun _ _ _ _ _ _ us hl => match us, hl with | [_, _], _ => rfl) (fun vs H Q E h => body_len h) (fun cdv A outer s H vs Q E hr h => ⟨ts_count_paths K E, (pss_cons (ps_expr (pe_call (E := E) G_require_rewriter (hr.mono (by decide)) (by rfl) g_require_rewriter k_require_rewriter b_require_rewriter .nil (passes_call (takes_of rfl rfl rfl rfl) (fun _ _ _ _ h => h)) (pa_cons (pv 0) pa_nil)))
    (pss_cons (ps_expr (pe_call (E := E) G_require_rest (hr.mono (by decide)) (by rfl) g_require_rest k_require_rest b_require_rest .nil (passes_call (takes_of rfl rfl rfl rfl) (fun _ _ _ _ h => h)) (pa_cons (pv 0) (pa_cons (pv 1) pa_nil))))
    pss_never)), body_ok (K := K) (E := E) (N := ["rewriter", "text", "row", "letter"]) (ps := ["rewriter", "text"]) (ts := ts_count_paths K EN) (ts' := ts_count_paths K E) rfl h⟩)
abbrev ts_counts_of (K : PySem.W.Frag) (E : XK) : TS := tSeq (tDrop (tCall (spOf K (D_require_rewriter K)) [] E (tCons (tVar 0) tNil))) (tSeq (tIfS (tNot (tB (tCall (spOf K (D_is_between K)) [] E (tCons (tVar 1) (tCons (tC (V.int 0)) (tCons (tC (V.int 8)) tNil)))))) (tRaiseI (ga K (Str.ofString "InvalidNumber")) (Str.ofString "value") (tCons (tVar 1) tNil) E) tNext) tNever)
def D_counts_of (K : PySem.W.Frag) : DefR := bodyR (K := K) ["rewriter", "length", "rows", "turn", "later", "row", "many", "letter", "there", "found", "number"] ["rewriter", "length"] (ts_counts_of K EN)
theorem ok_counts_of (T : Tx K mg) : Has Drw.prog Drw.wld K mg base (L2.CX Drw.prog Drw.wld) 3 "counts_of" ["rewriter", "length"] (spOf K (D_counts_of K)) := by
  obtain ⟨t_MOST_COUNTED, c_MOST_COUNTED⟩ := T.v_MOST_COUNTED
  obtain ⟨g_require_rewriter, k_require_rewriter, fd_require_rewriter, G_require_rewriter, b_require_rewriter⟩ := ok_require_rewriter (base := base) T
  obtain ⟨g_is_between, k_is_between, fd_is_between, G_is_between, b_is_between⟩ := ok_is_between (base := base) T
  obtain ⟨fd, F⟩ := T.fn_counts_of
  exact has_of T.g_counts_of F sc_counts_of (fun _ _ _ _ _ _ us hl => match us, hl with | [_, _], _ => rfl) (fun vs H Q E h => body_len h) (fun cdv A outer s H vs Q E hr h => ⟨ts_counts_of K E, (pss_cons (ps_expr (pe_call (E := E) G_require_rewriter (hr.mono (by decide)) (by rfl) g_require_rewriter k_require_rewriter b_require_rewriter .nil (passes_call (takes_of rfl rfl rfl rfl) (fun _ _ _ _ h => h)) (pa_cons (pv 0) pa_nil)))
    (pss_cons (ps_if (pt_not (pt_val (pe_call (E := E) G_is_between (hr.mono (by decide)) (by rfl) g_is_between k_is_between b_is_between .nil (passes_call (takes_of rfl rfl rfl rfl) (fun _ _ _ _ h => h)) (pa_cons (pv 1) (pa_cons pe_int (pa_cons (pe_glob (v := .int 8) rfl c_MOST_COUNTED ⟨_, rfl⟩) pa_nil)))))) (pss_one (asRaiseI (C := ga K "InvalidNumber") (f := "value") (E := E) (ps_raise rfl (takes_of rfl rfl rfl rfl) (pmk_excI T.i_InvalidNumber PySem.XT.nt_value T.g_InvalidNumber (raises_own (T.exC "InvalidNumber" (memb (by decide +kernel))).hs (PB.clsT_ty T.i_InvalidNumber)) hr (pa_cons (pv 1) pa_nil))))) pss_nil)
    pss_never)), body_ok (K := K) (E := E) (N := ["rewriter", "length", "rows", "turn", "later", "row", "many", "letter", "there", "found", "number"]) (ps := ["rewriter", "length"]) (ts := ts_counts_of K EN) (ts' := ts_counts_of K E) rfl h⟩)
abbrev ts_paths_with (K : PySem.W.Frag) (E : XK) : TS := tSeq (tDrop (tCall (spOf K (D_require_rewriter K)) [] E (tCons (tVar 0) tNil))) (tSeq (tDrop (tCall (spOf K (D_require_length K)) [] E (tCons (tVar 1) tNil))) tNever)
def D_paths_with (K : PySem.W.Frag) : DefR := bodyR (K := K) ["rewriter", "length", "state", "here", "turn", "later", "edge", "number"] ["rewriter", "length"] (ts_paths_with K EN)
theorem ok_paths_with (T : Tx K mg) : Has Drw.prog Drw.wld K mg base (L2.CX Drw.prog Drw.wld) 4 "paths_with" ["rewriter", "length"] (spOf K (D_paths_with K)) := by
  obtain ⟨g_require_rewriter, k_require_rewriter, fd_require_rewriter, G_require_rewriter, b_require_rewriter⟩ := ok_require_rewriter (base := base) T
  obtain ⟨g_require_length, k_require_length, fd_require_length, G_require_length, b_require_length⟩ := ok_require_length (base := base) T
  obtain ⟨fd, F⟩ := T.fn_paths_with
  exact has_of T.g_paths_with F sc_paths_with (fun _ _ _ _ _ _ us hl => match us, hl with | [_, _], _ => rfl) (fun vs H Q E h => body_len h) (fun cdv A outer s H vs Q E hr h => ⟨ts_paths_with K E, (pss_cons (ps_expr (pe_call (E := E) G_require_rewriter (hr.mono (by decide)) (by rfl) g_require_rewriter k_require_rewriter b_require_rewriter .nil (passes_call (takes_of rfl rfl rfl rfl) (fun _ _ _ _ h => h)) (pa_cons (pv 0) pa_nil)))
    (pss_cons (ps_expr (pe_call (E := E) G_require_length (hr.mono (by decide)) (by rfl) g_require_length k_require_length b_require_length .nil (passes_call (takes_of rfl rfl rfl rfl) (fun _ _ _ _ h => h)) (pa_cons (pv 1) pa_nil)))
    pss_never)), body_ok (K := K) (E := E) (N := ["rewriter", "length", "state", "here", "turn", "later", "edge", "number"]) (ps := ["rewriter", "length"]) (ts := ts_paths_with K EN) (ts' := ts_paths_with K E) rfl h⟩)
end
end K7
set_option maxHeartbeats 4000000
set_option synthInstance.maxSize 100000
set_option synthInstance.maxHeartbeats 4000000
namespace K7
open PySem PySem.Spec PyProof.Rows L2 He Hx Hy PO RunX PB NKx
section
variable [Drw] [Cbv] {K : PySem.W.Frag} {mg : Str → Option Value} {base : Heap}
abbrev ts_rwInit (K : PySem.W.Frag) : TS := tSeq (tIfS (tOr (tNot (tB (tCall (spOf K (D_are_letters K)) [] E0 (tCons (tVar 1) tNil)))) (tOr (tNot (tB (tCall (spOf K (D_are_worded K)) [] E0 (tCons (tVar 2) tNil)))) (tOr (tNot (tB (tCall (spOf K (D_are_edges K)) [] E0 (tCons (tVar 1) (tCons (tVar 3) tNil))))) (tNot (tB (tCall (spOf K (D_are_worded K)) [] E0 (tCons (tVar 4) tNil))))))) tNever tNext) (tSeq (tAsg (tCall (spOf K (D_useful_in K)) [] E0 (tCons (tVar 2) (tCons (tVar 3) (tCons (tVar 4) tNil)))) (gName 5)) (tSeq (tAsg (DCT.tDcB Drw.wld true (iTup K (tVar 3)) (gName 6) (tAnd (tTest (tOp (rIn K false) (tOp (rIxT K) (tVar 6) (tC (V.int 0))) (tVar 5))) (tTest (tOp (rIn K false) (tOp (rIxT K) (tVar 6) (tC (V.int 3))) (tVar 5)))) (tVar 6) (tC (V.bl true)) (List.map (fun x => x.snd) [(Str.ofString "edge", 6)])) (gName 7)) (tSeq (sFldO (ga K (Str.ofString "Rewriter")) (Str.ofString "own_letters") (tVar 0) (tVar 1)) (tSeq (sFldO (ga K (Str.ofString "Rewriter")) (Str.ofString "own_states") (tVar 0) (tCB (rTupleO K) (tCons (tVar 5) tNil))) (tSeq (sFldO (ga K (Str.ofString "Rewriter")) (Str.ofString "own_starts") (tVar 0) (tCall (spOf K (D_kept_words K)) [] E0 (tCons (tVar 2) (tCons (tVar 5) tNil)))) (tSeq (sFldO (ga K (Str.ofString "Rewriter")) (Str.ofString "own_edges") (tVar 0) (tCB (rTupleO K) (tCons (tCB (SM.rSortM K) (tCons (tCB rListKT (tCons (tVar 7) tNil)) tNil)) tNil))) (tSeq (sFldO (ga K (Str.ofString "Rewriter")) (Str.ofString "own_ends") (tVar 0) (tCall (spOf K (D_kept_words K)) [] E0 (tCons (tVar 4) (tCons (tVar 5) tNil)))) (tSeq (sFldO (ga K (Str.ofString "Rewriter")) (Str.ofString "own_after") (tVar 0) (tCall (spOf K (D_edges_after K)) [] E0 (tCons (tFldO (ga K (Str.ofString "Rewriter")) (Str.ofString "own_edges") (tVar 0)) tNil))) (sFldO (ga K (Str.ofString "Rewriter")) (Str.ofString "own_before") (tVar 0) (tCall (spOf K (D_edges_before K)) [] E0 (tCons (tFldO (ga K (Str.ofString "Rewriter")) (Str.ofString "own_edges") (tVar 0)) tNil)))))))))))
def D_rwInit (K : PySem.W.Frag) : DefR := bodyR (K := K) ["self", "letters", "starts", "edges", "ends", "states", "edge", "useful"] ["self", "letters", "starts", "edges", "ends"] (ts_rwInit K)
theorem ok_rwInit (T : Tx K mg) : HasA Drw.prog Drw.wld K mg base (L2.CX Drw.prog Drw.wld) 6 (ma K (ga K "Rewriter") "__init__") ["self", "letters", "starts", "edges", "ends"] (spOf K (D_rwInit K)) := by
  obtain ⟨g_are_worded, k_are_worded, fd_are_worded, G_are_worded, b_are_worded⟩ := ok_are_worded (base := base) T
  obtain ⟨g_are_edges, k_are_edges, fd_are_edges, G_are_edges, b_are_edges⟩ := ok_are_edges (base := base) T
  obtain ⟨g_are_letters, k_are_letters, fd_are_letters, G_are_letters, b_are_letters⟩ := ok_are_letters (base := base) T
  obtain ⟨g_useful_in, k_useful_in, fd_useful_in, G_useful_in, b_useful_in⟩ := ok_useful_in (base := base) T
  obtain ⟨g_kept_words, k_kept_words, fd_kept_words, G_kept_words, b_kept_words⟩ := ok_kept_words (base := base) T
  obtain ⟨g_edges_after, k_edges_after, fd_edges_after, G_edges_after, b_edges_after⟩ := ok_edges_after (base := base) T
  obtain ⟨g_edges_before, k_edges_before, fd_edges_before, G_edges_before, b_edges_before⟩ := ok_edges_before (base := base) T
  obtain ⟨fd, F⟩ := T.fn_rwInit
  exact hasA_of F sc_rwInit (fun _ _ _ _ _ _ us hl => match us, hl with | [_, _, _, _, _], _ => rfl) (fun vs H Q E h => body_len h) (fun cdv A outer s H vs Q E hr h => ⟨ts_rwInit K, PSs.nox (
    (pss_cons (ps_if (PW.pt (pw_or (pt_not (pt_val (pe_call (E := E0) G_are_letters (hr.mono (by decide)) (by rfl) g_are_letters k_are_letters b_are_letters .nil passX0 (pa_cons (pv 1) pa_nil)))) (pw_or (pt_not (pt_val (pe_call (E := E0) G_are_worded (hr.mono (by decide)) (by rfl) g_are_worded k_are_worded b_are_worded .nil passX0 (pa_cons (pv 2) pa_nil)))) (pw_or (pt_not (pt_val (pe_call (E := E0) G_are_edges (hr.mono (by decide)) (by rfl) g_are_edges k_are_edges b_are_edges .nil passX0 (pa_cons (pv 1) (pa_cons (pv 3) pa_nil))))) (pw_or1 (pt_not (pt_val (pe_call (E := E0) G_are_worded (hr.mono (by decide)) (by rfl) g_are_worded k_are_worded b_are_worded .nil passX0 (pa_cons (pv 4) pa_nil))))))))) (pss_one ps_never) pss_nil)
    (pss_cons (ps_set (i := 5) sc_rwInit.nd rfl (Or.inr rfl) (by exact (pe_call (E := E0) G_useful_in (hr.mono (by decide)) (by rfl) g_useful_in k_useful_in b_useful_in .nil passX0 (pa_cons (pv 2) (pa_cons (pv 3) (pa_cons (pv 4) pa_nil))))))
    (pss_cons (DCT.ps_setDcB (i := 7) (own := [("edge", 6)]) (g := gName 6) true T.sys hr.u65 (by rfl) sc_rwInit.nd rfl rfl (DCT.sw_dc rfl rfl rfl (by decide +kernel)) (pi_tup (pv 3)) (blkOk_by (own := [("edge", 6)]) (N := ["self", "letters", "starts", "edges", "ends", "states", "edge", "useful"]) (sc := defScope s_rwInit) (by decide +kernel)) (fun _ _ _ _ _ => (pg_name (i := 6) sc_rwInit.nd rfl (Or.inl rfl))) (fun _ _ _ _ _ => (pts_one (PW.pt (pw_and (pt_cmpR (r := rIn K false) op_in_seq (pe_ix (r := rIxT K) ix_tup (pv 6) pe_int (fun _ _ => rfl)) (pv 5) (by rfl)) (pw_and1 (pt_cmpR (r := rIn K false) op_in_seq (pe_ix (r := rIxT K) ix_tup (pv 6) pe_int (fun _ _ => rfl)) (pv 5) (by rfl))))))) (fun _ _ _ _ _ => (pv 6)) (fun _ _ _ _ _ => pe_bl))
    (pss_cons (ps_fldO (T.c_Rewriter).1 T.f_Rewriter_own_letters (pv 0) (pv 1))
    (pss_cons (ps_fldO (T.c_Rewriter).1 T.f_Rewriter_own_states (pv 0) (pe_callTy (r := rTupleO K) call_tupleO (by rfl) T.n_tuple (by decide +kernel) (pa_cons (pv 5) pa_nil)))
    (pss_cons (ps_fldO (T.c_Rewriter).1 T.f_Rewriter_own_starts (pv 0) (pe_call (E := E0) G_kept_words (hr.mono (by decide)) (by rfl) g_kept_words k_kept_words b_kept_words .nil passX0 (pa_cons (pv 2) (pa_cons (pv 5) pa_nil))))
    (pss_cons (ps_fldO (T.c_Rewriter).1 T.f_Rewriter_own_edges (pv 0) (pe_callTy (r := rTupleO K) call_tupleO (by rfl) T.n_tuple (by decide +kernel) (pa_cons (pe_callB (r := SM.rSortM K) SM.cr_sortM (by rfl) T.n_sorted (by decide +kernel) (pa_cons (pe_callTy (r := rListKT) (call_listKT (by rfl)) (by rfl) T.n_list (by decide +kernel) (pa_cons (pv 7) pa_nil)) pa_nil)) pa_nil)))
    (pss_cons (ps_fldO (T.c_Rewriter).1 T.f_Rewriter_own_ends (pv 0) (pe_call (E := E0) G_kept_words (hr.mono (by decide)) (by rfl) g_kept_words k_kept_words b_kept_words .nil passX0 (pa_cons (pv 4) (pa_cons (pv 5) pa_nil))))
    (pss_cons (ps_fldO (T.c_Rewriter).1 T.f_Rewriter_own_after (pv 0) (pe_call (E := E0) G_edges_after (hr.mono (by decide)) (by rfl) g_edges_after k_edges_after b_edges_after .nil passX0 (pa_cons (pe_fldO (T.c_Rewriter).1 T.f_Rewriter_own_edges (pv 0)) pa_nil)))
    (pss_one (ps_fldO (T.c_Rewriter).1 T.f_Rewriter_own_before (pv 0) (pe_call (E := E0) G_edges_before (hr.mono (by decide)) (by rfl) g_edges_before k_edges_before b_edges_before .nil passX0 (pa_cons (pe_fldO (T.c_Rewriter).1 T.f_Rewriter_own_edges (pv 0)) pa_nil)))))))))))))), body_ok (K := K) (E := E) (N := ["self", "letters", "starts", "edges", "ends", "states", "edge", "useful"]) (ps := ["self", "letters", "starts", "edges", "ends"]) (ts := ts_rwInit K) (ts' := ts_rwInit K) rfl h⟩)
abbrev ts_is_growth_paper (K : PySem.W.Frag) (E : XK) : TS := tSeq (tDrop (tCall (spOf K (D_require_rewriter K)) [] E (tCons (tVar 0) tNil))) (tRet (tCall (spOf K (D_is_growth_paper_in K)) [] E (tCons (tVar 0) (tCons (tVar 1) tNil))))
def D_is_growth_paper (K : PySem.W.Frag) : DefR := bodyR (K := K) ["rewriter", "value"] ["rewriter", "value"] (ts_is_growth_paper K EN)
theorem ok_is_growth_paper (T : Tx K mg) : Has Drw.prog Drw.wld K mg base (L2.CX Drw.prog Drw.wld) 6 "is_growth_paper" ["rewriter", "value"] (spOf K (D_is_growth_paper K)) := by
  obtain ⟨g_require_rewriter, k_require_rewriter, fd_require_rewriter, G_require_rewriter, b_require_rewriter⟩ := ok_require_rewriter (base := base) T
  obtain ⟨g_is_growth_paper_in, k_is_growth_paper_in, fd_is_growth_paper_in, G_is_growth_paper_in, b_is_growth_paper_in⟩ := ok_is_growth_paper_in (base := base) T
  obtain ⟨fd, F⟩ := T.fn_is_growth_paper
  exact has_of T.g_is_growth_paper F sc_is_growth_paper (fun _ _ _ _ _ _ us hl => match us, hl with | [_, _], _ => rfl) (fun vs H Q E h => body_len h) (fun cdv A outer s H vs Q E hr h => ⟨ts_is_growth_paper K E, (pss_cons (ps_expr (pe_call (E := E) G_require_rewriter (hr.mono (by decide)) (by rfl) g_require_rewriter k_require_rewriter b_require_rewriter .nil (passes_call (takes_of rfl rfl rfl rfl) (fun _ _ _ _ h => h)) (pa_cons (pv 0) pa_nil)))
    (pss_one (ps_ret (by exact (pe_call (E := E) G_is_growth_paper_in (hr.mono (by decide)) (by rfl) g_is_growth_paper_in k_is_growth_paper_in b_is_growth_paper_in .nil (passes_call (takes_of rfl rfl rfl rfl) (fun _ _ _ _ h => h)) (pa_cons (pv 0) (pa_cons (pv 1) pa_nil))))))), body_ok (K := K) (E := E) (N := ["rewriter", "value"]) (ps := ["rewriter", "value"]) (ts := ts_is_growth_paper K EN) (ts' := ts_is_growth_paper K E) rfl h⟩)
end
end K7
set_option maxHeartbeats 4000000
/-! A lambda with one parameter, handed to a def behind other arguments and called there. -/
namespace LamX
open PySem PySem.Spec PyProof.Rows L2
/-- one parameter; otherwise captured names and globals -/
structure LamP (sc scope : Scope) (p : Str) : Prop where
  kind : scope.kind = .function
  co : scope.isCoroutine = false
  gen : scope.isGenerator = false
  par : scope.names.lookup p = some .local
  own : ∀ y ∈ scope.names, (y.2 = .local → y.1 = p) ∧ y.2 ≠ .cell
  free : ∀ y ∈ scope.names, y.2 = .free → sc.names.lookup y.1 = some .cell ∨ sc.names.lookup y.1 = some .free
def lamPB (sc scope : Scope) (p : Str) : Bool :=
  decide (scope.kind = .function) && !scope.isCoroutine && !scope.isGenerator && decide (scope.names.lookup p = some .local) && scope.names.all fun y => (!decide (y.2 = .local) || decide (y.1 = p)) && !decide (y.2 = .cell) && (!decide (y.2 = .free) || decide (sc.names.lookup y.1 = some .cell) || decide (sc.names.lookup y.1 = some .free))
theorem lamP_by {sc scope : Scope} {p : Str} (h : lamPB sc scope p = true) : LamP sc scope p := by
  unfold lamPB at h
  simp only [Bool.and_eq_true, Bool.or_eq_true, Bool.not_eq_true', decide_eq_true_eq, decide_eq_false_iff_not, List.all_eq_true] at h
  obtain ⟨⟨⟨⟨h1, h2⟩, h3⟩, hp⟩, h4⟩ := h
  refine ⟨h1, h2, h3, hp, fun y hy => ⟨fun e => ?_, (h4 y hy).1.2⟩, fun y hy e => ?_⟩
  · rcases (h4 y hy).1.1 with z | z
    · exact absurd e z
    · exact z
  · rcases (h4 y hy).2 with (z | z) | z
    · exact absurd e z
    · exact .inl z
    · exact .inr z
theorem LamP.has {X : Cx} {scope : Scope} {p : Str} (L : LamP X.env.scope scope p) (ok : X.Ok) : ∀ y ∈ scope.names, y.2 = .free → ∃ c, X.env.cells.lookup y.1 = some c := fun y hy e => by
  rcases L.free y hy e with k | k
  · exact ok.has _ (.inl k)
  · exact ok.has _ (.inr k)
/-- the context of the lambda's body: the maker's names and the parameter -/
abbrev lamCxP (X : Cx) (A : Around) (outer : List Env) (s : Shared) (H : Hp) (E : XK) (scope : Scope) (f c' : Addr) (p : Str) : Cx := { lamCx X A outer s H E scope f c' with N := X.N ++ [p] }
section
variable {X : Cx} {pins : List (Addr × Obj)} {σ : L2.St} {H HZ : Hp} {s s1 : Shared}
theorem lam_startP {A : Around} {outer : List Env} {E : XK} {scope : Scope} {f c' : Addr} {h₁ : Heap} {tk : Nat} {p : Str} {v : V} {u : Value} (I : Inv X pins σ H s) (L : LamP X.env.scope scope p) (hp : p ∉ X.N) (r : L2.RelV v u) (e0 : Env0 X.prog X.w X.K X.mg X.base A outer s1 HZ) (hd : A.handled = none)
    (un : Un (frs X.stack) [] H HZ s.heap s1.heap) (hns : h₁.Ns s1.heap.objs.size fun y => ([(p, u)] : List (Str × Value)).reverse.lookup y) (kp : ∀ b o, s1.heap.get? b = some o → h₁.get? b = some o) :
    Inv (lamCxP X A outer s1 HZ E scope f c' p) [] (σ ++ [some v]) HZ { s1 with heap := h₁, toks := tk } := by
  have hl : σ.length = X.N.length := I.len
  have hfree := L.has I.ok
  have cm : ∀ {y c}, (cloFrom X.env.cells scope.names []).lookup y = some c → X.env.cells.lookup y = some c := fun {y c} e => by
    rcases cloFrom_mem (PySem.mem_of_lookup e) with hm | ⟨h1, h2⟩
    · cases hm
    · obtain ⟨c1, hc⟩ := hfree _ h1 rfl
      have hc : X.env.cells.lookup y = some c1 := hc
      have e2 : c = c1 := by
        rw [h2, hc] <;> rfl
      rw [e2]
      exact hc
  have look : ∀ {y}, scope.names.lookup y = some .free → ∃ c, (cloFrom X.env.cells scope.names []).lookup y = some c := fun {y} hl => by
    have hy : (y, NameKind.free) ∈ scope.names := PySem.mem_of_lookup hl
    exact mem_lookup (cloFrom_has (cells := X.env.cells) (acc := []) hy)
  have cellK : ∀ {c : Addr} {v : Option Value}, H c = none → s.heap.IsCell c v → h₁.IsCell c v := fun {c v} n ⟨o, ho, hd⟩ => by
    obtain ⟨sl, q⟩ := un.any ho n (by simp)
    exact ⟨_, kp _ _ q, hd⟩
  have noA : ∀ b : Addr, b ∉ (lamCxP X A outer s1 HZ E scope f c' p).ex := fun b z => absurd (show b ∈ ([] : List Addr) from z) (by simp)
  refine ⟨⟨e0.mod, L.kind, rfl, rfl, Nat.le_refl _, fun y z c e1 e2 => I.ok.inj y z c (cm e1) (cm e2), fun y hy => ?_, fun y c z _ => ?_, fun _ => hd, Around.frames_deeper e0.frames, .inr ⟨rfl, rfl⟩, fun b z => absurd z (noA b), e0.bs, e0.bsz, fun b _ _ => noA b,
      fun b z => absurd z (noA b), e0.funs, e0.frf⟩,
    rfl, e0.bare, Un.kept kp, ⟨_, hns, fun i y v' e1 e2 e3 => ?_⟩, fun y c e => ?_, e0.hok.fresh (Nat.le_refl _), fun y c e => ?_, fun q hq => absurd (show q ∈ ([] : List (Addr × Obj)) ++ [] from hq) (by simp), e0.hok.kept kp, ?_⟩
  · have hy : scope.names.lookup y = some .cell ∨ scope.names.lookup y = some .free := hy
    rcases hy with hy | hy
    · exact absurd rfl (L.own _ (PySem.mem_of_lookup hy)).2
    · exact look hy
  · have z : false = true := z
    cases z
  · have e1 : (X.N ++ [p])[i]? = some y := e1
    have e3 : Vis scope y := e3
    by_cases hi : i < X.N.length
    · rw [List.getElem?_append_left hi] at e1
      rw [List.getElem?_append_left (by rw [hl]; exact hi)] at e2
      have hyp : y ≠ p := fun z => hp (z ▸ List.mem_of_getElem? e1)
      rcases e3 with k | k | k
      · exact absurd ((L.own _ (PySem.mem_of_lookup k)).1 rfl) hyp
      · exact absurd rfl (L.own _ (PySem.mem_of_lookup k)).2
      · obtain ⟨m, hn, hl⟩ := I.loc
        have hvis : Vis X.env.scope y := (L.free _ (PySem.mem_of_lookup k) rfl).elim (fun k => .inr (.inl k)) (fun k => .inr (.inr k))
        obtain ⟨w', r, q⟩ := hl i y v' e1 e2 hvis
        obtain ⟨c2, h2⟩ := look k
        refine ⟨w', r, .inr ⟨.inr k, c2, h2, ?_⟩⟩
        have c1 := cm h2
        rcases q with ⟨k', _⟩ | ⟨_, c3, e', z⟩
        · have k' : X.env.scope.names.lookup y = some .local := k'
          rcases L.free _ (PySem.mem_of_lookup k) rfl with k2 | k2 <;> rw [show X.env.scope.names.lookup y = _ from k2] at k' <;> cases k'
        · rw [c1] at e'
          cases e'
          exact cellK (I.freeC y _ c1) z
    · have hi := Nat.le_of_not_lt hi
      rw [List.getElem?_append_right hi] at e1
      rw [List.getElem?_append_right (by rw [hl]; exact hi), hl] at e2
      cases k : i - X.N.length with
      | zero =>
        rw [k] at e1 e2
        cases e1
        cases e2
        refine ⟨u, r, .inl ⟨L.par, ?_⟩⟩
        simp [List.lookup]
      | succ n =>
        rw [k] at e1
        cases e1
  · obtain ⟨w', z⟩ := I.cell y c (cm e)
    exact ⟨w', cellK (I.freeC y c (cm e)) z⟩
  · obtain ⟨v, o, ho, hd⟩ := I.cell y c (cm e)
    exact un.free c o ho (I.freeC y c (cm e)) (by simp)
  · have z := I.len
    simp only [List.length_append, List.length_cons, List.length_nil]
    omega
/-- x(e), in the def that got the lambda: its context is entered at s; nothing is raised -/
theorem pe_actP {Ng : List Str} {qg : Str} {sg : Scope} {g f c' : Addr} {cdg pm ctv : Value} {params : Arguments} {body : Expr} {scope : Scope} {k i : Nat} {a p : Str} {pn : List (Addr × Obj)} {xe : Value → Shared → Prop} {tb te : TE} {e : Expr} {p1 p2 : Pos}
    (I : Inv X pins σ H s) (L : LamP X.env.scope scope p) (hp : p ∉ X.N) (hf : s.heap.get? f = some (PySem.W.kla_obj "<lambda>" (X.env.qual ++ "<lambda>") params body scope (cloFrom X.env.cells scope.names []) pm c' ctv)) (hfn : H f = none) (hfr : f ∉ frs X.stack)
    (hbind : ∀ u : Value, bindArgs (PySem.W.kla_fn "<lambda>" (X.env.qual ++ "<lambda>") params body scope (cloFrom X.env.cells scope.names []) pm (.ref c') ctv) ⟨[u], []⟩ = pure [(p, u)])
    (hr : Room (k + 1) (X.A.deeper (envOfC qg sg s.heap.objs.size g cdg)))
    (hbody : ∀ (A : Around) (outer : List Env) (s : Shared) (H : Hp), Room k (A.deeper (lamEnv X scope s.heap.objs.size f c')) → PE (lamCxP X A outer s H C8.E0 scope f c' p) body tb)
    (he : PE ((cxOf C8.CX0 X.prog X.w X.K X.mg X.base Ng qg sg g cdg X.A X.stack s H C8.E0).tr pn xe) e te)
    (hN : Ng[i]? = some a) (hv : Vis sg a) (hst : starEach [e] (envOfC qg sg s.heap.objs.size g cdg) = (false, eval e (envOfC qg sg s.heap.objs.size g cdg)) :: starEach [] (envOfC qg sg s.heap.objs.size g cdg)) (hd : (a == ("__debug__" : Str)) = false := by decide) (hcd : (a == ("__classdict__" : Str)) = false := by decide) :
    PE ((cxOf C8.CX0 X.prog X.w X.K X.mg X.base Ng qg sg g cdg X.A X.stack s H C8.E0).tr pn xe) (.Call (.Name a p1) [e] [] p2)
      (fun σZ HZ Q => σZ[i]? = some (some (.ref f)) ∧ te σZ HZ fun v H1 => H1 c' = some (CodeO c' (X.env.qual ++ "<lambda>")) ∧ tb (σ ++ [some v]) H1 Q) := by
  refine ⟨fun pinsZ sZ σZ HZ Q IZ h => ?_⟩
  obtain ⟨hs, ht⟩ := h
  have fnAt : ∀ {σ1 : L2.St} {H1 : Hp} {s1 : Shared}, Inv ((cxOf C8.CX0 X.prog X.w X.K X.mg X.base Ng qg sg g cdg X.A X.stack s H C8.E0).tr pn xe) pinsZ σ1 H1 s1 → s1.heap.get? f = some (PySem.W.kla_obj "<lambda>" (X.env.qual ++ "<lambda>") params body scope (cloFrom X.env.cells scope.names []) pm c' ctv) :=
    fun I1 => I1.base.keep f _ hf hfn hfr (fun z => nomatch (show f ∈ ([] : List Addr) from z))
  refine wpAny_Call_Name_kw (thn ((pe_var (pos := p1) (i := i) hN hv hd hcd).run pinsZ sZ σZ HZ (fun v H1 => v = .ref f ∧ H1 = HZ) IZ ⟨.ref f, hs, rfl, rfl⟩) fun u s1 ⟨v, H1, I1, r1, q1⟩ => ?_)
  obtain ⟨ev, eH⟩ := q1
  subst ev
  rw [eH] at I1
  obtain rfl : u = Value.ref f := r1
  refine PySem.W.callWith_F ⟨_, _, _, _, fnAt I1⟩ (thn ((pa_cons he pa_nil hst).run p2 pinsZ s1 σZ HZ (fun vs H' => ∃ v, vs = [v] ∧ H' c' = some (CodeO c' (X.env.qual ++ "<lambda>")) ∧ tb (σ ++ [some v]) H' Q) I1 ?_) fun us s2 ⟨vs, H2, I2, r2, q2⟩ => ?_) hst rfl
  · have e1 : (fun v H1 => H1 c' = some (CodeO c' (X.env.qual ++ "<lambda>")) ∧ tb (σ ++ [some v]) H1 Q) = fun x H1 => tNil σZ H1 fun xs H2 => ∃ v, x :: xs = [v] ∧ H2 c' = some (CodeO c' (X.env.qual ++ "<lambda>")) ∧ tb (σ ++ [some v]) H2 Q := by
      funext x H1
      exact propext ⟨fun z => ⟨x, rfl, z⟩, fun ⟨v, e, z⟩ => by cases e; exact z⟩
    show te σZ HZ fun x H1 => tNil σZ H1 _
    rw [← e1]
    exact ht
  obtain ⟨v, rfl, hc, ht2⟩ := q2
  obtain ⟨u, rfl, rv⟩ : ∃ u, us = [u] ∧ L2.RelV v u := by
    cases r2 with
    | cons h1 h2 =>
      cases h2
      exact ⟨_, rfl, h1⟩
  have of2 := fnAt I2
  refine ⟨⟨_, _, _, _, of2⟩, ?_⟩
  have un : Un (frs X.stack) [] H H2 s.heap s2.heap := I2.base
  obtain ⟨⟨oc, ws, t, hoc, hdc, hvc⟩, _, _⟩ := I2.hok c' _ hc
  have rc : codeAny (model X.prog X.w) (X.A.deeper (envOfC qg sg s.heap.objs.size g cdg)) (.call (.ref f) ⟨[u], []⟩) (CR (L2.CX X.prog X.w) (envOfC qg sg s.heap.objs.size g cdg :: X.stack) X.prog X.w H2 s2 Q C8.E0) s2 := by
    refine PySem.W.kla_callFunE hr.depth of2 rfl L.co L.gen rfl ⟨c', oc, ws, t, rfl, hoc, hdc, hvc⟩ ?_
    rw [hbind]
    refine wpAny_pure (wpAny_newFunctionEnv (fun y hy => (L.own y hy).2) (fun y hy => by rw [List.mem_singleton.mp hy]; exact L.par) (fun h₁ hns hsb => ⟨I2.nolimit.fresh _ hsb, ?_⟩) L.kind)
    show codeAny _ _ (.expr body (lamEnv X scope s2.heap.objs.size f c')) _ _
    have kp : ∀ b o, s2.heap.get? b = some o → h₁.get? b = some o := fun b o e => hsb.extBut b o (Nat.ne_of_lt (Heap.lt_size e)) (Heap.get?_push_of_some _ e)
    have J : Inv (lamCxP X (X.A.deeper (envOfC qg sg s.heap.objs.size g cdg)) (envOfC qg sg s.heap.objs.size g cdg :: X.stack) s2 H2 C8.E0 scope f c' p) [] (σ ++ [some v]) H2 { s2 with heap := h₁, toks := s2.toks + ([(p, u)] : List (Str × Value)).length } :=
      lam_startP I L hp rv I2.env0 hr.hd un hns kp
    refine PySem.W.kla_codeExpr (wpAny_mono ((hbody _ _ s2 H2 (hr.deeper _)).run [] _ _ H2 Q J ht2) (fun v s' hq => ?_) fun e s' hq => hq)
    obtain ⟨w', H', J', rv, q⟩ := hq
    exact ⟨w', H', J'.os, J'.bare, J'.base, J'.hok, rv, q⟩
  have hx : Passes (L2.CX X.prog X.w) ((cxOf C8.CX0 X.prog X.w X.K X.mg X.base Ng qg sg g cdg X.A X.stack s H C8.E0).tr pn xe) C8.E0 := fun _ _ _ _ _ _ _ c => by
    obtain ⟨_, _, _, _, _, _, _, _, _, _, _, _, z⟩ := c
    exact z.elim
  refine wpAny_call (codeAny_mono rc fun r s' hq => ?_)
  cases r with
  | error e => exact hx pinsZ σZ H2 s2 e s' I2 hq
  | ok fl =>
    cases fl with
    | ret u => exact I2.after hq
    | next => exact False.elim hq
    | brk => exact False.elim hq
    | cont => exact False.elim hq
end
/-- the def that calls what it got behind vs: a calls it with one value; TT: what it makes of the lambda's reading -/
def GivesToP (X : Cx) (k : Nat) (Ng : List Str) (x : Str) (sg : Scope) (g : Addr) (cdg : Value) (bg : List Stmt) (a : Str) (i : Nat) (q : Str) (TT : (V → Hp → VK → Prop) → List V → Hp → VK → Prop) : Prop :=
  ∀ (f c' : Addr) (s : Shared) (H : Hp) (Q : VK) (vs : List V) (tl : V → Hp → VK → Prop), Room k (X.A.deeper (envOfC x sg s.heap.objs.size g cdg)) →
    (∀ (e : Expr) (te : TE) (p1 p2 : Pos), PE (cxOf C8.CX0 X.prog X.w X.K X.mg X.base Ng x sg g cdg X.A X.stack s H C8.E0).nox e te → (starEach [e] (envOfC x sg s.heap.objs.size g cdg) = (false, eval e (envOfC x sg s.heap.objs.size g cdg)) :: starEach [] (envOfC x sg s.heap.objs.size g cdg)) →
      PE (cxOf C8.CX0 X.prog X.w X.K X.mg X.base Ng x sg g cdg X.A X.stack s H C8.E0).nox (.Call (.Name a p1) [e] [] p2) (fun σZ HZ Q => σZ[i]? = some (some (.ref f)) ∧ te σZ HZ fun v H1 => H1 c' = some (CodeO c' q) ∧ tl v H1 Q)) →
    H c' = some (CodeO c' q) → vs.length = i → TT tl vs H Q →
    ∃ t, PSs (cxOf C8.CX0 X.prog X.w X.K X.mg X.base Ng x sg g cdg X.A X.stack s H C8.E0).nox bg t ∧ t { nx := fun _ H' => Q .non H', rt := Q } (L2.start Ng (vs ++ [.ref f])) H
def tLamP (T : List (Addr × Str)) (TT : (V → Hp → VK → Prop) → List V → Hp → VK → Prop) (ta : TA) (t : TE) : TE := fun σ H Q => ta σ H fun vs H1 => Tabs T H1 ∧ ∀ H2, ExtN H1 H2 → Tabs T H2 → TT (fun v H' Q' => t (σ ++ [some v]) H' Q') vs H2 Q
section
variable {X : Cx}
/-- x(e1, e2, lambda p: body) -/
theorem pe_lamP2 {T : List (Addr × Str)} {TT : (V → Hp → VK → Prop) → List V → Hp → VK → Prop} {x a b1 b2 pn : Str} {g c P : Addr} {k : Nat} {pg : Arguments} {bg : List Stmt} {sg : Scope} {dV kV doc pm cdv ct oc : Value} {an od : Option Addr} {osl : Array (Option Value)} {Ng : List Str}
    {params : Arguments} {body e1 e2 : Expr} {t1 t2 : TE} {scope : Scope} {t : TE} {p lpos pos : Pos} (hg : Gl X x) (hm : X.mg x = some (.ref g)) (hk : PySem.W.keepIn X.K (.ref g) = true)
    (lk : X.K.lookup g = some ⟨oc, od, .func (PySem.W.fnOf x x pg bg sg dV kV doc pm an cdv ct), osl⟩) (hcg : PySem.W.codeIn X.K cdv x = true) (hb : L2.Binds X.K (PySem.W.fnOf x x pg bg sg dV kV doc pm an cdv ct) [b1, b2, a] []) (Sg : FnScope Ng [b1, b2, a] sg) (hNg : Ng[2]? = some a) (hva : Vis sg a)
    (hG : GivesToP X (k + 1) Ng x sg g cdv bg a 2 (X.env.qual ++ "<lambda>") TT)
    (TB : TabB X.base X.mg c P) (hcode : X.env.code = .ref c) (hmT : (P, X.env.qual ++ "<lambda>") ∈ T) (hu : ∀ p ∈ T, p.1 = P → p.2 = X.env.qual ++ "<lambda>") (hr : Room (k + 2) X.A) (L : LamP X.env.scope scope pn) (hpn : pn ∉ X.N) (hdef : defaultsOf params X.env = ([], []))
    (hbind : ∀ (q : Str) (cl : List (Str × Addr)) (pm cv ctv u : Value), bindArgs (PySem.W.kla_fn "<lambda>" q params body scope cl pm cv ctv) ⟨[u], []⟩ = pure [(pn, u)])
    (he1 : PE X e1 t1) (he2 : PE X e2 t2)
    (hbody : ∀ (A : Around) (outer : List Env) (s : Shared) (H : Hp) (f c' : Addr), Room k (A.deeper (lamEnv X scope s.heap.objs.size f c')) → PE (lamCxP X A outer s H C8.E0 scope f c' pn) body t)
    (hs1 : starEach [e1, e2, .Lambda params body scope lpos] X.env = (false, eval e1 X.env) :: starEach [e2, .Lambda params body scope lpos] X.env := by rfl) (hs2 : starEach [e2, .Lambda params body scope lpos] X.env = (false, eval e2 X.env) :: starEach [.Lambda params body scope lpos] X.env := by rfl)
    (hpl : (backTo pos (starEach [e2, .Lambda params body scope lpos] X.env)).any (·.1) = false := by rfl)
    (hdb : (x == ("__debug__" : Str)) = false := by decide) (hd : (a == ("__debug__" : Str)) = false := by decide) (hcd : (a == ("__classdict__" : Str)) = false := by decide) :
    PE X (.Call (.Name x p) [e1, e2, .Lambda params body scope lpos] [] pos) (tLamP T TT (tCons t1 (tCons t2 tNil)) t) := by
  refine ⟨fun pins s σ H Q I h => ?_⟩
  have h : t1 σ H fun v1 H1 => t2 σ H1 fun v2 H2 => Tabs T H2 ∧ ∀ H3, ExtN H2 H3 → Tabs T H3 → TT (fun v H' Q' => t (σ ++ [some v]) H' Q') [v1, v2] H3 Q := h
  refine wpAny_Call_Name_kw (ld_glob I hg hm ?_ hdb)
  refine PySem.W.callWith_K (h₀ := X.base) I.ok.mod.kin hk ?_ hs1 hpl
  rw [hs1, hs2]
  show wpAny _ _ (spliced ((false, eval e1 X.env) :: (false, eval e2 X.env) :: (false, eval (.Lambda params body scope lpos) X.env) :: backTo pos (starEach [] X.env))) _ _ s
  refine Calls.spliced_cons (thn (he1.run pins s σ H _ I h) fun u1 s1 ⟨v1, H1, I1, r1, q1⟩ => ?_)
  refine Calls.spliced_cons (thn (he2.run pins s1 σ H1 _ I1 q1) fun u2 s2 ⟨v2, H2, I2, r2, q2⟩ => ?_)
  obtain ⟨hT, h⟩ := q2
  refine Calls.spliced_cons (lam_make2 I2 TB hcode hmT hu hT hdef (L.has I2.ok) fun f c' pm' ctv H3 s3 I3 eN T3 hf hfn hfr hco => ?_)
  refine Calls.spliced_nil ⟨I3.kIn, ?_⟩
  have rc : codeAny (model X.prog X.w) X.A (.call (.ref g) ⟨[u1, u2, .ref f], []⟩) (CR C8.CX0 X.stack X.prog X.w H3 s3 Q C8.E0) s3 := by
    refine run_ofS (N := Ng) (ps := [b1, b2, a]) (us := [u1, u2, .ref f]) (vs := [v1, v2, .ref f]) lk hcg Sg hr I3.env0 (hb s3 [u1, u2, .ref f] I3.kIn rfl) (.cons r1 (.cons r2 (.cons rfl .nil))) rfl fun hr' => ?_
    obtain ⟨t', ht', hq'⟩ := hG f c' s3 H3 Q [v1, v2] (fun v H' Q' => t (σ ++ [some v]) H' Q') hr' (fun e te p1 p2 he hst => pe_actP (i := 2) (pn := []) (xe := fun _ _ => False) I3 L hpn hf hfn hfr (hbind _ _ _ _ _) hr' (fun A outer s H hr2 => hbody A outer s H f c' hr2) he hNg hva hst hd hcd) hco rfl (h H3 eN T3)
    exact ⟨t', ht'.nox, hq'⟩
  refine wpAny_call (codeAny_mono rc fun r s2 hq => ?_)
  cases r with
  | error e => exact (show False from hq).elim
  | ok fl =>
    cases fl with
    | ret u => exact I3.after hq
    | next => exact False.elim hq
    | brk => exact False.elim hq
    | cont => exact False.elim hq
end
end LamX
set_option maxHeartbeats 4000000
/-! A def that calls a lambda with one parameter: how it runs. -/
namespace RunX
open PySem PySem.Spec PyProof.Rows L2 He
@[reducible] def Drw.lamT (D : Drw) : Drw := { D with lam := true }
@[reducible] def Cbv.withCb (C : Cbv) (f c : Addr) (q : Str) (ρ : List Addr) : Cbv := { cb := f, codes := (c, q) :: C.codes, pre := ρ }
section
variable {D : Drw} {C : Cbv} {f c : Addr} {q : Str} {ρ0 : List Addr} {K : PySem.W.Frag}
theorem cb_dV0 (hl : D.lam = false) {ρ : List Addr} {n : Nat} : ∀ {v : DV}, @wf0 D n v = true → @dV0 (C.withCb f c q ρ0) K ρ v = @dV0 C K ρ v
  | .cb, h => by
    rw [show @wf0 D n .cb = D.lam from rfl, hl] at h
    cases h
  | .non, _ => rfl
  | .bl _, _ => rfl
  | .int _, _ => rfl
  | .str _, _ => rfl
  | .ty _, _ => rfl
  | .glo _, _ => rfl
  | .ref _, _ => rfl
  | .drw _ _, _ => rfl
theorem cb_dV (hl : D.lam = false) {ρ : List Addr} {n : Nat} : ∀ {v : DV}, @wf D n v = true → @dV D.lamT (C.withCb f c q ρ0) K ρ v = @dV D C K ρ v
  | .cb, h => by
    rw [show @wf D n .cb = D.lam from rfl, hl] at h
    cases h
  | .drw i t, h => cb_dV0 hl (pick_wf h)
  | .non, _ => rfl
  | .bl _, _ => rfl
  | .int _, _ => rfl
  | .str _, _ => rfl
  | .ty _, _ => rfl
  | .glo _, _ => rfl
  | .ref _, _ => rfl
theorem cb_wf0 (hl : D.lam = false) {n : Nat} : ∀ {v : DV}, @wf0 D n v = true → @wf0 D.lamT n v = true
  | .cb, h => rfl
  | .drw i t, h => by cases h
  | .non, _ => rfl
  | .bl _, _ => rfl
  | .int _, _ => rfl
  | .str _, _ => rfl
  | .ty _, _ => rfl
  | .glo _, _ => rfl
  | .ref _, h => h
theorem cb_wf (hl : D.lam = false) {n : Nat} : ∀ {v : DV}, @wf D n v = true → @wf D.lamT n v = true
  | .cb, h => rfl
  | .drw i t, h => List.all_eq_true.mpr fun v hv => cb_wf0 hl (List.all_eq_true.mp (show (D.tab t).all (@wf0 D n) = true from h) v hv)
  | .non, _ => rfl
  | .bl _, _ => rfl
  | .int _, _ => rfl
  | .str _, _ => rfl
  | .ty _, _ => rfl
  | .glo _, _ => rfl
  | .ref _, h => h
theorem cb_wfs (hl : D.lam = false) {n : Nat} {vs : List DV} (h : vs.all (@wf D n) = true) : vs.all (@wf D.lamT n) = true := List.all_eq_true.mpr fun v hv => cb_wf hl (List.all_eq_true.mp h v hv)
theorem cb_dVs (hl : D.lam = false) {ρ : List Addr} {n : Nat} {vs : List DV} (h : vs.all (@wf D n) = true) : vs.map (@dV D.lamT (C.withCb f c q ρ0) K ρ) = vs.map (@dV D C K ρ) := List.map_congr_left fun v hv => cb_dV hl (List.all_eq_true.mp h v hv)
theorem cb_wfO (hl : D.lam = false) {n : Nat} : ∀ {o : DO}, @wfO D n o = true → @wfO D.lamT n o = true
  | .lst xs, h => cb_wfs hl h
  | .tup xs, h => cb_wfs hl h
  | .dK kvs, h => List.all_eq_true.mpr fun p hp => cb_wf hl (List.all_eq_true.mp h p hp)
  | .dT kvs, h => List.all_eq_true.mpr fun p hp => cb_wf hl (List.all_eq_true.mp h p hp)
  | .xd kvs, h => List.all_eq_true.mpr fun p hp => cb_wf hl (List.all_eq_true.mp h p hp)
  | .ins C dx fs, h => by
    obtain ⟨h1, h2⟩ := ba h
    show (decide (dx < n) && fs.all fun p => @wf D.lamT n p.2) = true
    rw [h1]
    exact List.all_eq_true.mpr fun p hp => cb_wf hl (List.all_eq_true.mp h2 p hp)
  | .own x, h => h
  | .frz kvs, h => List.all_eq_true.mpr fun p hp => cb_wf hl (List.all_eq_true.mp h p hp)
  | .frzT kvs, h => List.all_eq_true.mpr fun p hp => cb_wf hl (List.all_eq_true.mp h p hp)
  | .bag _, _ => rfl
  | .any, _ => rfl
  | .dN es, h => List.all_eq_true.mpr fun p hp => by
    obtain ⟨h1, h2⟩ := ba (List.all_eq_true.mp h p hp)
    show (decide (p.2.1 < n) && @wf D.lamT n p.2.2) = true
    rw [h1, cb_wf hl h2]
    rfl
  | .frzN es, h => List.all_eq_true.mpr fun p hp => by
    obtain ⟨h1, h2⟩ := ba (List.all_eq_true.mp h p hp)
    show (decide (p.2.1 < n) && @wf D.lamT n p.2.2) = true
    rw [h1, cb_wf hl h2]
    rfl
theorem cb_prs {α : Type} (hl : D.lam = false) {ρ : List Addr} {n : Nat} {kvs : List (α × DV)} (h : (kvs.all fun p => @wf D n p.2) = true) : kvs.map (fun p => (p.1, @dV D.lamT (C.withCb f c q ρ0) K ρ p.2)) = kvs.map fun p => (p.1, @dV D C K ρ p.2) :=
  List.map_congr_left fun p hp => by rw [cb_dV hl (List.all_eq_true.mp h p hp)]
theorem cb_es (hl : D.lam = false) {ρ : List Addr} {n : Nat} {es : List (NKx.NK × Nat × DV)} (h : (es.all fun p => decide (p.2.1 < n) && @wf D n p.2.2) = true) : @esV D.lamT (C.withCb f c q ρ0) K ρ es = @esV D C K ρ es :=
  List.map_congr_left fun p hp => by rw [cb_dV hl (ba (List.all_eq_true.mp h p hp)).2]
theorem cb_Sh (hl : D.lam = false) {ρ : List Addr} {n : Nat} {h : HO} : ∀ {o : DO}, @wfO D n o = true → (@Sh D.lamT (C.withCb f c q ρ0) K ρ o h ↔ @Sh D C K ρ o h)
  | .lst xs, w => by
    show (h = HO.lst (xs.map (@dV D.lamT (C.withCb f c q ρ0) K ρ))) ↔ _
    rw [cb_dVs hl w]
    exact Iff.rfl
  | .tup xs, w => by
    show (h = HO.tup (xs.map (@dV D.lamT (C.withCb f c q ρ0) K ρ))) ↔ _
    rw [cb_dVs hl w]
    exact Iff.rfl
  | .dK kvs, w => by
    show (h = HO.dK (kvs.map fun p => (p.1, @dV D.lamT (C.withCb f c q ρ0) K ρ p.2))) ↔ _
    rw [cb_prs hl w]
    exact Iff.rfl
  | .dT kvs, w => by
    show (h = HO.dT (kvs.map fun p => (p.1, @dV D.lamT (C.withCb f c q ρ0) K ρ p.2))) ↔ _
    rw [cb_prs hl w]
    exact Iff.rfl
  | .xd kvs, w => by
    show (h = HO.xd (kvs.map fun p => (p.1, @dV D.lamT (C.withCb f c q ρ0) K ρ p.2))) ↔ _
    rw [cb_prs hl w]
    exact Iff.rfl
  | .ins Cn dx fs, w => by
    show (h = HO.ins (ga K Cn) (ρ.getD dx 0) (fs.map fun p => (p.1, @dV D.lamT (C.withCb f c q ρ0) K ρ p.2))) ↔ _
    rw [cb_prs hl (ba w).2]
    exact Iff.rfl
  | .own x, w => Iff.rfl
  | .frz kvs, w => by
    show (∃ o, h = .frz o (.dK (kvs.map fun p => (p.1, @dV D.lamT (C.withCb f c q ρ0) K ρ p.2)))) ↔ _
    rw [cb_prs hl w]
    exact Iff.rfl
  | .frzT kvs, w => by
    show (∃ o, h = .frz o (.dT (kvs.map fun p => (p.1, @dV D.lamT (C.withCb f c q ρ0) K ρ p.2)))) ↔ _
    rw [cb_prs hl w]
    exact Iff.rfl
  | .bag k, w => Iff.rfl
  | .any, w => Iff.rfl
  | .dN es, w => by
    show (∃ a, h = NKx.NDo D.wld a (@esV D.lamT (C.withCb f c q ρ0) K ρ es)) ↔ _
    rw [cb_es hl w]
    exact Iff.rfl
  | .frzN es, w => by
    show (∃ o a, h = .frz o (NKx.NDo D.wld a (@esV D.lamT (C.withCb f c q ρ0) K ρ es))) ↔ _
    rw [cb_es hl w]
    exact Iff.rfl
theorem cb_to (hl : D.lam = false) {ρ : List Addr} {S : List DO} {H : Hp} (R : @Rep D C K ρ S H) (hc : H c = some (LamX.CodeO c q)) (hp : ∃ m, ρ = ρ0 ++ m) : @Rep D.lamT (C.withCb f c q ρ0) K ρ S H :=
  @Rep.mk D.lamT (C.withCb f c q ρ0) K ρ S H R.len R.nd (fun i o a hi ha => by
    obtain ⟨h, e, s⟩ := R.obj i o a hi ha
    exact ⟨h, e, (cb_Sh hl (R.wf o (List.mem_of_getElem? hi))).mpr s⟩) (fun o ho => cb_wfO hl (R.wf o ho)) (@Tb.mk D.lamT (C.withCb f c q ρ0) ρ H R.tb.tabs (fun p hp => by
      rcases List.mem_cons.mp hp with e | e
      · rw [e]
        exact hc
      · exact R.tb.codes p e) hp)
theorem cb_from (hl : D.lam = false) {ρ : List Addr} {S : List DO} {H : Hp} (R : @Rep D.lamT (C.withCb f c q ρ0) K ρ S H) (w : S.all (@wfO D S.length) = true) (hp : ∃ m, ρ0 = C.pre ++ m) : @Rep D C K ρ S H ∧ ∃ m, ρ = ρ0 ++ m := by
  let C' := C.withCb f c q ρ0
  have t := @Rep.tb D.lamT C' K ρ S H R
  obtain ⟨m, e⟩ : ∃ m, ρ = ρ0 ++ m := @Tb.pre D.lamT C' ρ H t
  refine ⟨@Rep.mk D C K ρ S H (@Rep.len D.lamT C' K ρ S H R) (@Rep.nd D.lamT C' K ρ S H R) (fun i o a hi ha => ?_) (fun o ho => List.all_eq_true.mp w o ho) (@Tb.mk D C ρ H (@Tb.tabs D.lamT C' ρ H t) (fun p hp => @Tb.codes D.lamT C' ρ H t p (List.mem_cons_of_mem _ hp)) ?_), m, e⟩
  · obtain ⟨h, e, s⟩ := @Rep.obj D.lamT (C.withCb f c q ρ0) K ρ S H R i o a hi ha
    exact ⟨h, e, (cb_Sh hl (List.all_eq_true.mp w o (List.mem_of_getElem? hi))).mp s⟩
  · obtain ⟨m2, e2⟩ := hp
    exact ⟨m2 ++ m, by rw [e, e2, List.append_assoc]⟩
/-! ### what the def calls -/
/-- the lambda in the air: v ↦ run v -/
class EvCb [Drw] [Cbv] (K : PySem.W.Frag) (f c : Addr) (q : Str) (tl : V → Hp → VK → Prop) where
  hf : Cbv.cb = f
  hc : (c, q) ∈ Cbv.codes
  run : DV → List DO → Option Res
  good : ∀ {v S r}, run v S = some r → wf S.length v = true → good S.length r = true
  ok : ∀ {v S r ρ H Q} {E : XK}, run v S = some r → wf S.length v = true → Rep K ρ S H → Post K E ρ H Q r → tl (dV K ρ v) H Q
def tCbk (i : Nat) (f c : Addr) (q : Str) (tl : V → Hp → VK → Prop) (te : TE) : TE := fun σ H Q => σ[i]? = some (some (.ref f)) ∧ te σ H fun v H1 => H1 c = some (LamX.CodeO c q) ∧ tl v H1 Q
section
variable [Drw] [Cbv] {E : XK}
instance (i : Nat) (f c : Addr) (q : Str) (tl : V → Hp → VK → Prop) (te : TE) [e : EvE K E te] [l : EvCb K f c q tl] : EvE K E (tCbk i f c q tl te) where
  run := fun σ S => match σ[i]? with
    | some (some .cb) => bindE (e.run σ S) fun v S1 => l.run v S1
    | _ => none
  good := fun {σ S r} h w => by
    split at h
    · exact bind_good (te := te) h w fun {v S1 r} _ wv h => l.good h wv
    · cases h
  ok := fun {σ S r ρ H Q} h w R p => by
    split at h
    · rename_i hx
      refine ⟨?_, bind_ok (te := te) h w R p fun {v S1 ρ1 H1} _ wv h R1 F1 eσ p => ⟨R1.tb.codes _ l.hc, l.ok (E := E) h wv R1 p⟩⟩
      unfold dSt
      rw [List.getElem?_map, hx, ← l.hf]
      rfl
    · cases h
/-- the lambda's run, asked at values and objects of the maker's world alone -/
def cbRun (cb : DV → List DO → Option Res) (v : DV) (S : List DO) : Option Res := if wf S.length v = true ∧ S.all (wfO S.length) = true then (match cb v S with
  | some (.ret u S1) => if good S.length (.ret u S1) = true ∧ S1.all (wfO S1.length) = true then some (.ret u S1) else none
  | _ => none) else none
theorem cbRun_eq {cb : DV → List DO → Option Res} {v : DV} {S : List DO} {r : Res} (h : cbRun cb v S = some r) : wf S.length v = true ∧ S.all (wfO S.length) = true ∧ ∃ u S1, cb v S = some (.ret u S1) ∧ r = .ret u S1 ∧ good S.length r = true ∧ S1.all (wfO S1.length) = true := by
  unfold cbRun at h
  split at h
  · rename_i c
    split at h
    · rename_i u S1 h1
      split at h
      · rename_i c2
        cases h
        exact ⟨c.1, c.2, u, S1, h1, rfl, c2.1, c2.2⟩
      · cases h
    · cases h
  · cases h
/-- a run's end, told in the maker's world -/
def finR (n : Nat) (r : Option Res) : Option Res := match r with
  | some (.ret v S) => if good n (.ret v S) = true ∧ S.all (wfO S.length) = true then some (.ret v S) else none
  | _ => none
theorem finR_eq {n : Nat} {r : Option Res} {q : Res} (h : finR n r = some q) : r = some q ∧ ∃ v S, q = .ret v S ∧ good n q = true ∧ S.all (wfO S.length) = true := by
  unfold finR at h
  split at h
  · rename_i v S
    split at h
    · rename_i c
      cases h
      exact ⟨rfl, v, S, rfl, c.1, c.2⟩
    · cases h
  · cases h
end
theorem cb_good (hl : D.lam = false) {n : Nat} {r : Res} (h : @good D n r = true) : @good D.lamT n r = true := by
  cases r with
  | ret v S =>
    obtain ⟨h1, h2⟩ := ba h
    show (decide (n ≤ S.length) && @wf D.lamT S.length v) = true
    rw [h1, cb_wf hl h2]
    rfl
  | exc C d S => exact h
/-- what is told in the maker's world is told in the other one -/
theorem cb_post (hl : D.lam = false) {E : XK} {ρ : List Addr} {H : Hp} {Q : VK} {n : Nat} {v : DV} {S : List DO} (hg : @good D n (.ret v S) = true) (hw : S.all (@wfO D S.length) = true) (hp : ∃ m, ρ0 = C.pre ++ m) (p : @Post D C K E ρ H Q (.ret v S)) : @Post D.lamT (C.withCb f c q ρ0) K E ρ H Q (.ret v S) := fun ρ' H' R F => by
  rw [cb_dV hl (ba hg).2]
  exact p ρ' H' (cb_from hl R hw hp).1 F
/-- and back, within reach of ρ0 -/
theorem cb_back (hl : D.lam = false) {E : XK} {ρ : List Addr} {H : Hp} {Q : VK} {n : Nat} {v : DV} {S S0 : List DO} (hg : @good D n (.ret v S) = true) (R0 : @Rep D.lamT (C.withCb f c q ρ0) K ρ S0 H) (p : @Post D.lamT (C.withCb f c q ρ0) K E ρ H Q (.ret v S)) : @Post D C K E ρ H Q (.ret v S) := fun ρ' H' R F => by
  have hc : H c = some (LamX.CodeO c q) := @Tb.codes D.lamT (C.withCb f c q ρ0) ρ H (@Rep.tb D.lamT (C.withCb f c q ρ0) K ρ S0 H R0) (c, q) List.mem_cons_self
  have hc' : H' c = some (LamX.CodeO c q) := F.out c _ (fun hb => by
    obtain ⟨o, sh, _⟩ := @Rep.sh_ D.lamT (C.withCb f c q ρ0) K ρ S0 H R0 c _ hb hc
    exact @sh_nocode D.lamT (C.withCb f c q ρ0) K ρ o c q sh) hc fun ps z => LamX.codeO_ne ps z
  have hp : ∃ m, ρ' = ρ0 ++ m := by
    obtain ⟨m, e⟩ : ∃ m, ρ = ρ0 ++ m := @Tb.pre D.lamT (C.withCb f c q ρ0) ρ H (@Rep.tb D.lamT (C.withCb f c q ρ0) K ρ S0 H R0)
    obtain ⟨m2, e2, _⟩ := F.pre
    exact ⟨m ++ m2, by rw [e2, e, List.append_assoc]⟩
  have z := p ρ' H' (cb_to hl R hc' hp) F
  rw [cb_dV hl (ba hg).2] at z
  exact z
@[reducible] def cbI (D : Drw) (C : Cbv) (hl : D.lam = false) (K : PySem.W.Frag) (f c : Addr) (q : Str) (ρ0 : List Addr) (tl : V → Hp → VK → Prop) (cb : DV → List DO → Option Res)
    (ok : ∀ {v S r ρ H Q} {E : XK}, @cbRun D cb v S = some r → @Rep D.lamT (C.withCb f c q ρ0) K ρ S H → @Post D.lamT (C.withCb f c q ρ0) K E ρ H Q r → tl (@dV D.lamT (C.withCb f c q ρ0) K ρ v) H Q) : @EvCb D.lamT (C.withCb f c q ρ0) K f c q tl :=
  @EvCb.mk D.lamT (C.withCb f c q ρ0) K f c q tl rfl List.mem_cons_self (@cbRun D cb) (fun {v S r} h _ => cb_good hl (cbRun_eq h).2.2.choose_spec.choose_spec.2.2.1) (fun {v S r ρ H Q E} h _ R p => ok h R p)
def T0 : V → Hp → VK → Prop := fun _ _ _ => True
@[reducible] def cbZ (D : Drw) (C : Cbv) (hl : D.lam = false) (K : PySem.W.Frag) (cb : DV → List DO → Option Res) : @EvCb D.lamT (C.withCb 0 0 "" []) K 0 0 "" T0 := cbI D C hl K 0 0 "" [] T0 cb fun _ _ _ => trivial
end
section
variable [D : Drw] [C : Cbv] {K : PySem.W.Frag} {E : XK}
/-- a def that calls its last argument, a lambda -/
structure CbR (K : PySem.W.Frag) where
  run : (DV → List DO → Option Res) → List DV → List DO → Option Res
  good : ∀ {cb ds S r}, run cb ds S = some r → good S.length r = true
  ret : ∀ {cb ds S r}, run cb ds S = some r → ∃ v S1, r = .ret v S1
def TTcb (K : PySem.W.Frag) (d : CbR K) : (V → Hp → VK → Prop) → List V → Hp → VK → Prop := fun tl vs H Q =>
  ∃ ρ S ds r cb, Rep K ρ S H ∧ vs = ds.map (dV K ρ) ∧ ds.all (wf S.length) = true ∧ d.run cb ds S = some r ∧ Post K EN ρ H Q r ∧
    ∀ {v S' r' ρ' H' Q'} {E : XK}, cbRun cb v S' = some r' → Rep K ρ' S' H' → (∃ m, ρ' = ρ ++ m) → Post K E ρ' H' Q' r' → tl (dV K ρ' v) H' Q'
def cbBody (K : PySem.W.Frag) (N : List Str) (ts : Drw → Cbv → Addr → Addr → Str → (V → Hp → VK → Prop) → TS) (ev : ∀ (D : Drw) (C : Cbv) f c q tl, @EvCb D C K f c q tl → @EvS D C K EN (ts D C f c q tl)) : CbR K where
  run := fun cb ds S => if h : D.lam = false then (if ds.all (wf S.length) = true then finR S.length (endR ((ev D.lamT (C.withCb 0 0 "" []) 0 0 "" T0 (cbZ D C h K cb)).run (startD N (ds ++ [.cb])) S)) else none) else none
  good := fun {cb ds S r} h => by
    split at h
    · split at h
      · obtain ⟨_, v, S1, rfl, hg, _⟩ := finR_eq h
        exact hg
      · cases h
    · cases h
  ret := fun {cb ds S r} h => by
    split at h
    · split at h
      · obtain ⟨_, v, S1, rfl, hg, _⟩ := finR_eq h
        exact ⟨v, S1, rfl⟩
      · cases h
    · cases h
theorem cb_gives {X : Cx} {k : Nat} {N : List Str} {nm a : Str} {sc : Scope} {g : Addr} {cdg : Value} {bg : List Stmt} {i : Nat} {q : Str} {ts : Drw → Cbv → Addr → Addr → Str → (V → Hp → VK → Prop) → TS} (ev : ∀ (D : Drw) (C : Cbv) f c q tl, @EvCb D C K f c q tl → @EvS D C K EN (ts D C f c q tl))
    (same : ∀ (hl : D.lam = false) (cb : DV → List DO → Option Res) f c q ρ0 tl ok, (ev D.lamT (C.withCb f c q ρ0) f c q tl (cbI D C hl K f c q ρ0 tl cb ok)).run = (ev D.lamT (C.withCb 0 0 "" []) 0 0 "" T0 (cbZ D C hl K cb)).run)
    (body : ∀ (f c : Addr) (ρ0 : List Addr) (s : Shared) (H : Hp) (tl : V → Hp → VK → Prop), Room k (X.A.deeper (envOfC nm sc s.heap.objs.size g cdg)) →
      (∀ (e : Expr) (te : TE) (p1 p2 : Pos), PE (cxOf C8.CX0 X.prog X.w X.K X.mg X.base N nm sc g cdg X.A X.stack s H C8.E0).nox e te → (starEach [e] (envOfC nm sc s.heap.objs.size g cdg) = (false, eval e (envOfC nm sc s.heap.objs.size g cdg)) :: starEach [] (envOfC nm sc s.heap.objs.size g cdg)) →
        PE (cxOf C8.CX0 X.prog X.w X.K X.mg X.base N nm sc g cdg X.A X.stack s H C8.E0).nox (.Call (.Name a p1) [e] [] p2) (tCbk i f c q tl te)) →
      PSs (cxOf C8.CX0 X.prog X.w X.K X.mg X.base N nm sc g cdg X.A X.stack s H C8.E0).nox bg (ts D.lamT (C.withCb f c q ρ0) f c q tl)) :
    LamX.GivesToP X k N nm sc g cdg bg a i q (TTcb K (cbBody K N ts ev)) := by
  intro f c s H Q vs tl hroom act hc hlen h
  obtain ⟨ρ, S, ds, r, cb, R, rfl, w, hr, p, hcb⟩ := h
  unfold cbBody at hr
  dsimp only at hr
  split at hr
  · rename_i hl
    obtain ⟨hr, v, S1, rfl, hg, hw⟩ := finR_eq hr
    refine ⟨ts D.lamT (C.withCb f c q ρ) f c q tl, body f c ρ s H tl hroom act, ?_⟩
    have R' : @Rep D.lamT (C.withCb f c q ρ) K ρ S H := cb_to hl R hc ⟨[], (List.append_nil ρ).symm⟩
    have okc : ∀ {v S r ρ1 H Q} {E : XK}, @cbRun D cb v S = some r → @Rep D.lamT (C.withCb f c q ρ) K ρ1 S H → @Post D.lamT (C.withCb f c q ρ) K E ρ1 H Q r → tl (@dV D.lamT (C.withCb f c q ρ) K ρ1 v) H Q := fun {v S r ρ1 H Q E} h R1 p1 => by
      obtain ⟨wv, wS, u, S2, _, rfl, g1, _⟩ := cbRun_eq h
      obtain ⟨R2, m, e⟩ := cb_from hl R1 wS R.tb.pre
      rw [cb_dV hl wv]
      exact hcb h R2 ⟨m, e⟩ (cb_back hl g1 R1 p1)
    have sm := same hl cb f c q ρ tl okc
    rw [← sm] at hr
    have w' : (ds ++ [DV.cb]).all (@wf D.lamT S.length) = true := by
      rw [List.all_append, cb_wfs hl w]
      rfl
    have e1 : L2.start N (ds.map (dV K ρ) ++ [.ref f]) = @dSt D.lamT (C.withCb f c q ρ) K ρ (startD N (ds ++ [DV.cb])) := by
      rw [@start_eq D.lamT (C.withCb f c q ρ), List.map_append, cb_dVs hl w]
      rfl
    rw [e1]
    have pv : @Post D.lamT (C.withCb f c q ρ) K EN ρ H Q (.ret v S1) := cb_post hl hg hw R.tb.pre p
    unfold endR at hr
    split at hr
    · rename_i v1 S2 h1
      cases hr
      exact @EvS.ok D.lamT (C.withCb f c q ρ) K EN _ (ev D.lamT (C.withCb f c q ρ) f c q tl (cbI D C hl K f c q ρ tl cb okc)) _ _ _ _ _ _ h1 (@start_wf D.lamT (C.withCb f c q ρ) _ _ _ w') R' pv
    · rename_i σ1 S2 h1
      cases hr
      exact @EvS.ok D.lamT (C.withCb f c q ρ) K EN _ (ev D.lamT (C.withCb f c q ρ) f c q tl (cbI D C hl K f c q ρ tl cb okc)) _ _ _ _ _ _ h1 (@start_wf D.lamT (C.withCb f c q ρ) _ _ _ w') R' pv
    · cases hr
    · cases hr
  · cases hr
/-- x(.., lambda p: body) -/
instance (d : CbR K) (ta : TA) (t : TE) [a : EvA K E ta] [e : EvE K EN t] : EvE K E (LamX.tLamP Drw.tabs (TTcb K d) ta t) where
  run := fun σ S => bindA (a.run σ S) fun vs S1 => d.run (fun v S2 => e.run (σ ++ [some v]) S2) vs S1
  good := fun {σ S r} h w => bindA_good (ta := ta) h w fun {vs S1 r} _ wv h => d.good h
  ok := fun {σ S r ρ H Q} h w R p => by
    refine bindA_ok (ta := ta) h w R p fun {vs S1 ρ1 H1} le wv h R1 F1 p => ⟨R1.tb.tabs, fun H2 e2 t2 => ?_⟩
    obtain ⟨R2, F2⟩ := R1.ext e2 t2
    obtain ⟨u, S3, rfl⟩ := d.ret h
    refine ⟨ρ1, S1, vs, _, _, R2, rfl, wv, h, Post.of p R2 F2, fun {v S' r' ρ' H' Q' E'} hcb R' ⟨m, em⟩ p' => ?_⟩
    obtain ⟨w1, w2, u2, S4, h4, rfl, _, _⟩ := cbRun_eq hcb
    have ws : wfS S1.length σ = true := wfS_le le w
    have l1 : S1.length ≤ S'.length := by
      rw [← R1.len, ← R'.len, em, List.length_append]
      omega
    have wσ : wfS S'.length (σ ++ [some v]) = true := by
      show ((σ ++ [some v]).all _) = true
      rw [List.all_append]
      rw [show (σ.all _) = true from wfS_le l1 ws]
      show (wf S'.length v && true) = true
      rw [w1]
      rfl
    have z := e.ok (Q := Q') h4 wσ R' p'
    have eσ : dSt K ρ' (σ ++ [some v]) = dSt K ρ σ ++ [some (dV K ρ' v)] := by
      have e3 : dSt K ρ' σ = dSt K ρ1 σ := by
        rw [em]
        exact dSt_app (by rw [R1.len]; exact ws)
      unfold dSt at e3 ⊢
      rw [List.map_append, e3]
      have e4 : dSt K ρ1 σ = dSt K ρ σ := F1.le R.len w
      unfold dSt at e4
      rw [e4]
      rfl
    rw [eσ] at z
    exact z
end
end RunX
set_option maxHeartbeats 4000000
/-! A def that makes lambdas: its code object is named. -/
namespace L2
open PySem PySem.Spec PyProof.Rows
theorem fn_at {P : Program} {w : World} {K : PySem.W.Frag} {mg : Str → Option Value} {base : Heap} {CX : CXT} {k : Nat} {x : Str} {f : Addr} {params : Arguments} {body : List Stmt} {scope : Scope} {fd : FuncData} {N ps : List Str} {sp : Sp} {cdv : Value}
    (F : FunD K x x params body scope [] [] f fd) (hc : fd.code = cdv) (S : FnScope N ps scope) (len : ∀ vs H Q E, sp vs H Q E → vs.length = ps.length)
    (hbody : ∀ (A : Around) (outer : List Env) (s : Shared) (H : Hp) (vs : List V) (Q : VK) (E : XK), Room k (A.deeper (envOfC x scope s.heap.objs.size f cdv)) → sp vs H Q E →
      ∃ t, PSs (cxOf CX P w K mg base N x scope f cdv A outer s H E) body t ∧ t { nx := fun _ H' => Q .non H', rt := Q } (start N vs) H) : FnOk P w K mg base CX (k + 1) f fd ps sp := by
  obtain ⟨oc, od, dV, kV, doc, pm, an, cdv', ct, osl, rfl, lk, hcd, _, _⟩ := F.ex
  have e : cdv' = cdv := hc
  subst e
  exact ⟨len, fun A outer s H args us vs Q E hr e0 hbd r h => LamX.run_ofS lk hcd S hr e0 hbd r (len _ _ _ _ h) fun hr' => hbody A outer s H vs Q E hr' h⟩
theorem code_ref {K : PySem.W.Frag} {v : Value} {q : Str} (h : PySem.W.codeIn K v q = true) : ∃ c, v = .ref c := by
  unfold PySem.W.codeIn at h
  split at h
  · exact ⟨_, rfl⟩
  · cases h
theorem lawCode_of {K : PySem.W.Frag} {x q : Str} {params : Arguments} {body : List Stmt} {scope : Scope} {fd : FuncData} {dvs : List V} {kws : List (Str × V)} (F : FunD K x q params body scope dvs kws (He.ga K x) fd) : fd.code = .ref (Hx.lawCode x K) := by
  obtain ⟨oc, od, dV, kV, doc, pm, an, cdv, ct, osl, hfd, lk, hcd, _, _⟩ := F.ex
  obtain ⟨c0, hc0⟩ := code_ref hcd
  have hcode : fd.code = .ref c0 := by
    rw [hfd]
    exact hc0
  have e1 : Hx.lawCode x K = c0 := by
    unfold Hx.lawCode
    have lk' : K.lookup (He.ga K x) = some ⟨oc, od, .func fd, osl⟩ := lk
    rw [lk']
    simp only [hcode]
  rw [e1]
  exact hcode
end L2
set_option maxHeartbeats 4000000
set_option synthInstance.maxSize 100000
set_option synthInstance.maxHeartbeats 4000000
namespace K7
open PySem PySem.Spec PyProof.Rows L2 He Hx Hy PO RunX PB NKx
abbrev ts_ways (D : Drw) (C : Cbv) (K : PySem.W.Frag) (f c : Addr) (q : Str) (tl : V → Hp → VK → Prop) : TS := tSeq (tPar3 4 5 6 (tCons (DCT.tDcB Drw.wld false (iList K (tVar 1)) (gName 3) tYes (tVar 3) (tC V.non) (List.map (fun x => x.snd) [(Str.ofString "begin", 3)])) (tCons (tCB (rListO K) (tCons (tVar 1) tNil)) (tCons (tC (V.int 0)) tNil)))) (tSeq (tWhile (tTest (tOp (rI0 fun i j => V.bl (decide (i < j))) (tVar 6) (tCB (rLen K) (tCons (tVar 5) tNil)))) (tSeq (tPar 7 6 (tCons (tOp (rIxL K) (tVar 5) (tVar 6)) (tCons (tOp (rI0 fun i j => V.int (i + j)) (tVar 6) (tC (V.int 1))) tNil))) (tSeq (tIfS (tAnd (tB (tOp (rIxT K) (tVar 7) (tC (V.int 1)))) (tB (tCbk 2 f c q tl (tOp (rIxT K) (tVar 7) (tC (V.int 0)))))) (tSeq (tAsg (tLst tNil) (gName 8)) (tSeq (tWhile (tTest (tOp rNotN (tXGet Drw.wld (tVar 4) (tVar 7)) (tC V.non))) (tSeq (tAsg (tXGet Drw.wld (tVar 4) (tVar 7)) (gTup K 3 (gCons (gName 7) (gCons (gName 9) (gCons (gName 10) gNil))))) (tDrop (tBM K "list" rAppend (tVar 8) (tCons (tTup (tCons (tVar 9) (tCons (tVar 10) tNil))) tNil))))) (tRet (tTup (tCons (tOp (rIxT K) (tVar 7) (tC (V.int 0))) (tCons (tCB (rTupleO K) (tCons (tLc (iList K (tRevL K (tVar 8))) (gName 11) tYes (tOp (rIxT K) (tVar 11) (tC (V.int 0))) (List.map (fun x => x.snd) [(Str.ofString "row", 11)])) tNil)) (tCons (tCB (rTupleO K) (tCons (tLc (iList K (tRevL K (tVar 8))) (gName 11) tYes (tOp (rIxT K) (tVar 11) (tC (V.int 1))) (List.map (fun x => x.snd) [(Str.ofString "row", 11)])) tNil)) tNil))))))) tNext) (tFor (iList K (tCall (spOf K (D_pair_targets K)) [] E0 (tCons (tVar 0) (tCons (tOp (rIxT K) (tVar 7) (tC (V.int 0))) tNil)))) (gTup K 3 (gCons (gName 9) (gCons (gName 10) (gCons (gName 12) gNil)))) (tSeq (tAsg (tTup (tCons (tVar 12) (tCons (tOrV (tOp (rIxT K) (tVar 7) (tC (V.int 1))) (tOp (rNeD K) (tVar 9) (tVar 10))) tNil))) (gName 13)) (tIfS (tB (tXIn Drw.wld true (tVar 13) (tVar 4))) (tSeq (tAsg (tTup (tCons (tVar 7) (tCons (tVar 9) (tCons (tVar 10) tNil)))) (gSub (tVar 4) (tVar 13) (rSetX Drw.wld))) (tDrop (tBM K "list" rAppend (tVar 5) (tCons (tVar 13) tNil)))) tNext)))))) (tRet (tC V.non)))
@[reducible] def ways_ev (K : PySem.W.Frag) : ∀ (D : Drw) (C : Cbv) f c q tl, @EvCb D C K f c q tl → @EvS D C K EN (ts_ways D C K f c q tl) := fun D C f c q tl i => inferInstance
section
variable [Drw] [Cbv] {K : PySem.W.Frag} {mg : Str → Option Value} {base : Heap}
theorem ways_body (T : Tx K mg) {A : Around} {outer : List Env} {s : Shared} {H : Hp} {cdg : Value} {f c : Addr} {q : Str} {tl : V → Hp → VK → Prop} (hr : Room 2 (A.deeper (envOfC "ways_from" (defScope s_ways_from) s.heap.objs.size (ga K "ways_from") cdg)))
    (act : ∀ (e : Expr) (te : TE) (p1 p2 : Pos), PE (cxOf C8.CX0 Drw.prog Drw.wld K mg base ["rewriter", "begins", "is_goal", "begin", "origin", "waiting", "at", "here", "rows", "edge", "other", "row", "target", "there"] "ways_from" (defScope s_ways_from) (ga K "ways_from") cdg A outer s H C8.E0).nox e te → (starEach [e] (envOfC "ways_from" (defScope s_ways_from) s.heap.objs.size (ga K "ways_from") cdg) = (false, eval e (envOfC "ways_from" (defScope s_ways_from) s.heap.objs.size (ga K "ways_from") cdg)) :: starEach [] (envOfC "ways_from" (defScope s_ways_from) s.heap.objs.size (ga K "ways_from") cdg)) →
      PE (cxOf C8.CX0 Drw.prog Drw.wld K mg base ["rewriter", "begins", "is_goal", "begin", "origin", "waiting", "at", "here", "rows", "edge", "other", "row", "target", "there"] "ways_from" (defScope s_ways_from) (ga K "ways_from") cdg A outer s H C8.E0).nox (.Call (.Name "is_goal" p1) [e] [] p2) (tCbk 2 f c q tl te)) : PSs (cxOf C8.CX0 Drw.prog Drw.wld K mg base ["rewriter", "begins", "is_goal", "begin", "origin", "waiting", "at", "here", "rows", "edge", "other", "row", "target", "there"] "ways_from" (defScope s_ways_from) (ga K "ways_from") cdg A outer s H C8.E0).nox (defBody s_ways_from) (ts_ways inferInstance inferInstance K f c q tl) := by
  obtain ⟨g_pair_targets, k_pair_targets, fd_pair_targets, G_pair_targets, b_pair_targets⟩ := ok_pair_targets (base := base) T
  exact (pss_cons (ps_par3 (i := 4) (j := 5) (l := 6) (by rfl) sc_ways_from.nd rfl rfl rfl (by decide) (by decide) (by decide) rfl rfl rfl (pa_cons (DCT.pe_dcB (own := [("begin", 3)]) (g := gName 3) false T.sys hr.u65 (by rfl) sc_ways_from.nd (pi_list (pv 1)) (blkOk_by (own := [("begin", 3)]) (N := ["rewriter", "begins", "is_goal", "begin", "origin", "waiting", "at", "here", "rows", "edge", "other", "row", "target", "there"]) (sc := defScope s_ways_from) (by decide +kernel)) (fun _ _ _ _ _ => (pg_name (i := 3) sc_ways_from.nd rfl (Or.inl rfl))) (fun _ _ _ _ _ => pts_nil) (fun _ _ _ _ _ => (pv 3)) (fun _ _ _ _ _ => pe_non)) (pa_cons (pe_callTy (r := rListO K) call_listO (by rfl) T.n_list (by decide +kernel) (pa_cons (pv 1) pa_nil)) (pa_cons pe_int pa_nil))) (by rfl))
    (pss_cons (ps_while PassesOwn.never (pt_cmpR op_lt (pv 6) (pe_callB (r := rLen K) call_len (by rfl) T.n_len (by decide +kernel) (pa_cons (pv 5) pa_nil)) (nomark _)) (pss_cons (ps_par (i := 7) (j := 6) (by rfl) sc_ways_from.nd rfl rfl (by decide) rfl rfl (pa_cons (pe_ix (r := rIxL K) ix_list (pv 5) (pv 6) (fun _ _ => rfl)) (pa_cons (pe_op op_add (pv 6) pe_int) pa_nil)) (by rfl))
    (pss_cons (ps_if (PW.pt (pw_and (pt_val (pe_ix (r := rIxT K) ix_tup (pv 7) pe_int (fun _ _ => rfl))) (pw_and1 (pt_val (act _ _ _ _ (pe_ix (r := rIxT K) ix_tup (pv 7) pe_int (fun _ _ => rfl)) (by rfl)))))) (pss_cons (ps_set (i := 8) sc_ways_from.nd rfl (Or.inl rfl) (by exact (pe_lst pa_nil)))
    (pss_cons (ps_while PassesOwn.never (pt_cmpR (r := rNotN) op_notN (pe_xgetW (w := Drw.wld) rfl T.sys hr.u65 (pv 4) (pv 7) (fun _ _ => rfl)) pe_non (nomark _)) (pss_cons (ps_asg (pe_xgetW (w := Drw.wld) rfl T.sys hr.u65 (pv 4) (pv 7) (fun _ _ => rfl)) (pg_tup (n := 3) (by rfl) (pgs_cons (pg_name (i := 7) sc_ways_from.nd rfl (Or.inl rfl)) (pgs_cons (pg_name (i := 9) sc_ways_from.nd rfl (Or.inl rfl)) (pgs_cons (pg_name (i := 10) sc_ways_from.nd rfl (Or.inl rfl)) pgs_nil)))))
    (pss_one (ps_expr (pe_bm PySem.F.plainAttrs_list PySem.F.slot_list_append PySem.F.type_list_append mt_append (pv 8) (pa_cons (pe_tup (pa_cons (pv 9) (pa_cons (pv 10) pa_nil))) pa_nil))))))
    (pss_one (ps_ret (by exact (pe_tup (pa_cons (pe_ix (r := rIxT K) ix_tup (pv 7) pe_int (fun _ _ => rfl)) (pa_cons (pe_callTy (r := rTupleO K) call_tupleO (by rfl) T.n_tuple (by decide +kernel) (pa_cons (pe_lc (own := [("row", 11)]) (g := gName 11) (by rfl) sc_ways_from.nd (pi_list (pe_revL (pv 8))) (blkOk_by (own := [("row", 11)]) (N := ["rewriter", "begins", "is_goal", "begin", "origin", "waiting", "at", "here", "rows", "edge", "other", "row", "target", "there"]) (sc := defScope s_ways_from) (by decide +kernel)) (fun _ _ _ _ _ => (pg_name (i := 11) sc_ways_from.nd rfl (Or.inl rfl))) (fun _ _ _ _ _ => pts_nil) (fun _ _ _ _ _ => (pe_ix (r := rIxT K) ix_tup (pv 11) pe_int (fun _ _ => rfl)))) pa_nil)) (pa_cons (pe_callTy (r := rTupleO K) call_tupleO (by rfl) T.n_tuple (by decide +kernel) (pa_cons (pe_lc (own := [("row", 11)]) (g := gName 11) (by rfl) sc_ways_from.nd (pi_list (pe_revL (pv 8))) (blkOk_by (own := [("row", 11)]) (N := ["rewriter", "begins", "is_goal", "begin", "origin", "waiting", "at", "here", "rows", "edge", "other", "row", "target", "there"]) (sc := defScope s_ways_from) (by decide +kernel)) (fun _ _ _ _ _ => (pg_name (i := 11) sc_ways_from.nd rfl (Or.inl rfl))) (fun _ _ _ _ _ => pts_nil) (fun _ _ _ _ _ => (pe_ix (r := rIxT K) ix_tup (pv 11) pe_int (fun _ _ => rfl)))) pa_nil)) pa_nil))))))))) pss_nil)
    (pss_one (ps_for PassesOwn.never rfl (pi_list (pe_call (E := E0) G_pair_targets (hr.mono (by decide)) (by rfl) g_pair_targets k_pair_targets b_pair_targets .nil passX0 (pa_cons (pv 0) (pa_cons (pe_ix (r := rIxT K) ix_tup (pv 7) pe_int (fun _ _ => rfl)) pa_nil)))) (pg_tup (n := 3) (by rfl) (pgs_cons (pg_name (i := 9) sc_ways_from.nd rfl (Or.inl rfl)) (pgs_cons (pg_name (i := 10) sc_ways_from.nd rfl (Or.inl rfl)) (pgs_cons (pg_name (i := 12) sc_ways_from.nd rfl (Or.inl rfl)) pgs_nil)))) (pss_cons (ps_set (i := 13) sc_ways_from.nd rfl (Or.inl rfl) (by exact (pe_tup (pa_cons (pv 12) (pa_cons (pe_or (pe_ix (r := rIxT K) ix_tup (pv 7) pe_int (fun _ _ => rfl)) (pe_one (pe_cmpR (r := rNeD K) (op_neD hr.units) (pv 9) (pv 10) (nomark _)))) pa_nil)))))
    (pss_one (ps_if (pt_cmp (pc_xnotinW (w := Drw.wld) rfl T.sys hr.u65 (pv 13) (pv 4))) (pss_cons (ps_asg (pe_tup (pa_cons (pv 7) (pa_cons (pv 9) (pa_cons (pv 10) pa_nil)))) (pg_sub (pv 4) (pv 13) (set_xW (w := Drw.wld) rfl T.sys hr.u65)))
    (pss_one (ps_expr (pe_bm PySem.F.plainAttrs_list PySem.F.slot_list_append PySem.F.type_list_append mt_append (pv 5) (pa_cons (pv 13) pa_nil))))) pss_nil))))))))
    (pss_one (ps_ret (by exact pe_non)))))

theorem ways_same (K : PySem.W.Frag) (D : Drw) (C : Cbv) (hl : D.lam = false) (cb : DV → List DO → Option Res) (f c : Addr) (q : Str) (ρ0 : List Addr) (tl : V → Hp → VK → Prop) (ok) : (ways_ev K D.lamT (C.withCb f c q ρ0) f c q tl (cbI D C hl K f c q ρ0 tl cb ok)).run = (ways_ev K D.lamT (C.withCb 0 0 "" []) 0 0 "" T0 (cbZ D C hl K cb)).run := by
  kernel_rfl
def R_ways (K : PySem.W.Frag) : CbR K := cbBody K ["rewriter", "begins", "is_goal", "begin", "origin", "waiting", "at", "here", "rows", "edge", "other", "row", "target", "there"] (fun D C f c q tl => ts_ways D C K f c q tl) (ways_ev K)
/-- the table of the lambdas that double_circles makes -/
structure DcT (K : PySem.W.Frag) (mg : Str → Option Value) (base : Heap) : Prop where
  tb : LamX.TabB base mg (lawCode "double_circles" K) (lawTab "double_circles" K)
  mem : (lawTab "double_circles" K, ("double_circles.<locals>.<lambda>" : Str)) ∈ Drw.tabs
  uni : ∀ p ∈ Drw.tabs, p.1 = lawTab "double_circles" K → p.2 = ("double_circles.<locals>.<lambda>" : Str)
abbrev ts_double_circles (K : PySem.W.Frag) : TS := tSeq (tAsg (LamX.tLamP Drw.tabs (TTcb K (R_ways K)) (tCons (tVar 0) (tCons (tLst (tCons (tTup (tCons (tTup (tCons (tVar 1) (tCons (tVar 1) tNil))) (tCons (tC (V.bl false)) tNil))) tNil)) tNil)) (tOp (rEqD K) (tVar 3) (tTup (tCons (tVar 1) (tCons (tVar 1) tNil))))) (gName 2)) (tRet (tIf (tTest (tOp rIsN (tVar 2) (tC V.non))) (tC V.non) (tSl (rSlT K) (tVar 2) (tPart (tC (V.int 1))) tNoPart)))
def D_double_circles (K : PySem.W.Frag) : DefR := bodyR (K := K) ["rewriter", "state", "found"] ["rewriter", "state"] (ts_double_circles K)
theorem ok_double_circles (T : Tx K mg) (TB : DcT K mg base) : Has Drw.prog Drw.wld K mg base (L2.CX Drw.prog Drw.wld) 4 "double_circles" ["rewriter", "state"] (spOf K (D_double_circles K)) := by
  obtain ⟨fd_w, F_w⟩ := T.fn_ways_from
  have k_w : PySem.W.keepIn K (.ref (ga K "ways_from")) = true := F_w.kp
  have b_w : L2.Binds K fd_w ["rewriter", "begins", "is_goal"] [] := F_w.bindsN (fun _ _ _ _ _ _ us hl => match us, hl with | [_, _, _], _ => rfl)
  obtain ⟨oc_w, od_w, dV_w, kV_w, doc_w, pm_w, an_w, cdv_w, ct_w, osl_w, e_w, lk_w, hcd_w, _, _⟩ := F_w.ex
  subst e_w
  obtain ⟨fd, F⟩ := T.fn_double_circles
  refine ⟨T.g_double_circles, F.kp, fd, fn_at F (lawCode_of F) sc_double_circles (fun vs H Q E h => body_len h) (fun A outer s H vs Q E hr h => ⟨_, PSs.nox (pss_cons
    (ps_set (i := 2) sc_double_circles.nd rfl (Or.inl rfl) (by exact (LamX.pe_lamP2 (T := Drw.tabs) (TT := TTcb K (R_ways K)) (k := 1) (a := "is_goal") (Ng := ["rewriter", "begins", "is_goal", "begin", "origin", "waiting", "at", "here", "rows", "edge", "other", "row", "target", "there"]) (b1 := "rewriter") (b2 := "begins") (pn := "pair") (by rfl) T.g_ways_from k_w lk_w hcd_w b_w sc_ways_from rfl (Or.inl rfl) (cb_gives (ways_ev K) (fun hl cb f c q ρ0 tl ok => ways_same K _ _ hl cb f c q ρ0 tl ok) (fun f c ρ0 s H tl hroom act => @ways_body (Drw.lamT inferInstance) (Cbv.withCb inferInstance f c _ ρ0) K mg base T _ _ _ _ _ f c _ tl hroom act)) TB.tb rfl TB.mem TB.uni (hr.mono (by decide)) (LamX.lamP_by (sc := defScope s_double_circles) (by decide +kernel)) (show ("pair" : Str) ∉ (["rewriter", "state", "found"] : List Str) by decide +kernel) rfl (fun _ _ _ _ _ _ => rfl) (pv 0) (pe_lst (pa_cons (pe_tup (pa_cons (pe_tup (pa_cons (pv 1) (pa_cons (pv 1) pa_nil))) (pa_cons pe_bl pa_nil))) pa_nil)) (fun A outer s H f c1 hr2 => (pe_cmpR (r := rEqD K) (op_eqD hr2.units) (pv 3) (pe_tup (pa_cons (pv 1) (pa_cons (pv 1) pa_nil))) (nomark _))))))
    (pss_one (ps_ret (by exact (pe_ifExp (pt_cmpR (r := rIsN) op_isN (pv 2) pe_non (nomark _)) pe_non (pe_slice sl_tup (pv 2) (po_some pe_int) po_none)))))), ?_⟩), F.bindsN (fun _ _ _ _ _ _ us hl => match us, hl with | [_, _], _ => rfl)⟩
  exact body_ok (K := K) (E := E) (N := ["rewriter", "state", "found"]) (ps := ["rewriter", "state"]) (ts := ts_double_circles K) (ts' := ts_double_circles K) rfl h
end
end K7
set_option maxHeartbeats 4000000
set_option synthInstance.maxSize 100000
set_option synthInstance.maxHeartbeats 4000000
namespace K7
open PySem PySem.Spec PyProof.Rows L2 He Hx Hy PO RunX PB NKx
section
variable [Drw] [Cbv] {K : PySem.W.Frag} {mg : Str → Option Value} {base : Heap}
abbrev ts_doubling_in (K : PySem.W.Frag) : TS := tRet (tLc (iTup K (tFldO (ga K (Str.ofString "Rewriter")) (Str.ofString "own_states") (tVar 0))) (gName 1) (tTest (tOp rNotN (tCall (spOf K (D_double_circles K)) [] E0 (tCons (tVar 0) (tCons (tVar 1) tNil))) (tC V.non))) (tVar 1) (List.map (fun x => x.snd) [(Str.ofString "state", 1)]))
def D_doubling_in (K : PySem.W.Frag) : DefR := bodyR (K := K) ["rewriter", "state"] ["rewriter"] (ts_doubling_in K)
theorem ok_doubling_in (T : Tx K mg) (TB : DcT K mg base) : Has Drw.prog Drw.wld K mg base (L2.CX Drw.prog Drw.wld) 5 "doubling_in" ["rewriter"] (spOf K (D_doubling_in K)) := by
  obtain ⟨g_double_circles, k_double_circles, fd_double_circles, G_double_circles, b_double_circles⟩ := ok_double_circles (base := base) T TB
  obtain ⟨fd, F⟩ := T.fn_doubling_in
  exact has_of T.g_doubling_in F sc_doubling_in (fun _ _ _ _ _ _ us hl => match us, hl with | [_], _ => rfl) (fun vs H Q E h => body_len h) (fun cdv A outer s H vs Q E hr h => ⟨ts_doubling_in K, PSs.nox (
    (pss_one (ps_ret (by exact (pe_lc (own := [("state", 1)]) (g := gName 1) (by rfl) sc_doubling_in.nd (pi_tup (pe_fldO (T.c_Rewriter).1 T.f_Rewriter_own_states (pv 0))) (blkOk_by (own := [("state", 1)]) (N := ["rewriter", "state"]) (sc := defScope s_doubling_in) (by decide +kernel)) (fun _ _ _ _ _ => (pg_name (i := 1) sc_doubling_in.nd rfl (Or.inl rfl))) (fun _ _ _ _ _ => (pts_one (pt_cmpR (r := rNotN) op_notN (pe_call (E := E0) G_double_circles (hr.mono (by decide)) (by rfl) g_double_circles k_double_circles b_double_circles .nil passX0 (pa_cons (pv 0) (pa_cons (pv 1) pa_nil))) pe_non (nomark _)))) (fun _ _ _ _ _ => (pv 1))))))), body_ok (K := K) (E := E) (N := ["rewriter", "state"]) (ps := ["rewriter"]) (ts := ts_doubling_in K) (ts' := ts_doubling_in K) rfl h⟩)
end
end K7
set_option maxHeartbeats 4000000
set_option synthInstance.maxSize 100000
set_option synthInstance.maxHeartbeats 4000000
namespace K7
open PySem PySem.Spec PyProof.Rows L2 He Hx Hy PO RunX PB NKx
section
variable [Drw] [Cbv] {K : PySem.W.Frag} {mg : Str → Option Value} {base : Heap}
abbrev ts_most_paths (K : PySem.W.Frag) (E : XK) : TS := tSeq (tDrop (tCall (spOf K (D_require_rewriter K)) [] E (tCons (tVar 0) tNil))) (tSeq (tIfS (tOr (tTest (tOp (rNeD K) (tCall (spOf K (D_doubling_in K)) [] E (tCons (tVar 0) tNil)) (tLst tNil))) (tTest (tOp rNeDT (tCall (spOf K (D_links_in K)) [] E (tCons (tVar 0) tNil)) tDNewK))) (RunX.tRaise (ga K (Str.ofString "InvalidOperation")) E) tNext) tNever)
def D_most_paths (K : PySem.W.Frag) : DefR := bodyR (K := K) ["rewriter", "texts", "layer", "later", "here", "letter", "there", "row", "most", "text"] ["rewriter"] (ts_most_paths K EN)
theorem ok_most_paths (T : Tx K mg) (TB : DcT K mg base) : Has Drw.prog Drw.wld K mg base (L2.CX Drw.prog Drw.wld) 6 "most_paths" ["rewriter"] (spOf K (D_most_paths K)) := by
  obtain ⟨g_require_rewriter, k_require_rewriter, fd_require_rewriter, G_require_rewriter, b_require_rewriter⟩ := ok_require_rewriter (base := base) T
  obtain ⟨g_links_in, k_links_in, fd_links_in, G_links_in, b_links_in⟩ := ok_links_in (base := base) T
  obtain ⟨g_doubling_in, k_doubling_in, fd_doubling_in, G_doubling_in, b_doubling_in⟩ := ok_doubling_in (base := base) T TB
  obtain ⟨fd, F⟩ := T.fn_most_paths
  exact has_of T.g_most_paths F sc_most_paths (fun _ _ _ _ _ _ us hl => match us, hl with | [_], _ => rfl) (fun vs H Q E h => body_len h) (fun cdv A outer s H vs Q E hr h => ⟨ts_most_paths K E, (pss_cons (ps_expr (pe_call (E := E) G_require_rewriter (hr.mono (by decide)) (by rfl) g_require_rewriter k_require_rewriter b_require_rewriter .nil (passes_call (takes_of rfl rfl rfl rfl) (fun _ _ _ _ h => h)) (pa_cons (pv 0) pa_nil)))
    (pss_cons (ps_if (PW.pt (pw_or (pt_cmpR (r := rNeD K) (op_neD hr.units) (pe_call (E := E) G_doubling_in (hr.mono (by decide)) (by rfl) g_doubling_in k_doubling_in b_doubling_in .nil (passes_call (takes_of rfl rfl rfl rfl) (fun _ _ _ _ h => h)) (pa_cons (pv 0) pa_nil)) (pe_lst pa_nil) (nomark _)) (pw_or1 (pt_cmpR (r := rNeDT) (op_neDT hr.units0) (pe_call (E := E) G_links_in (hr.mono (by decide)) (by rfl) g_links_in k_links_in b_links_in .nil (passes_call (takes_of rfl rfl rfl rfl) (fun _ _ _ _ h => h)) (pa_cons (pv 0) pa_nil)) pe_dnewK (nomark _))))) (pss_one (asRaise (C := ga K "InvalidOperation") (E := E) (ps_raise rfl (takes_of rfl rfl rfl rfl) (pmk_own PySem.F.excBase_ValueError (T.e_InvalidOperation).1 T.g_InvalidOperation (T.e_InvalidOperation).2.1 (raises_own (T.e_InvalidOperation).2.2.1 (T.e_InvalidOperation).2.2.2) (by rfl))))) pss_nil)
    pss_never)), body_ok (K := K) (E := E) (N := ["rewriter", "texts", "layer", "later", "here", "letter", "there", "row", "most", "text"]) (ps := ["rewriter"]) (ts := ts_most_paths K EN) (ts' := ts_most_paths K E) rfl h⟩)
end
end K7
set_option maxHeartbeats 4000000
namespace K7
open PySem PySem.Spec PyProof.Rows L2 He Hx Hy PO RunX PB
section
variable [Drw] [Cbv] {K : PySem.W.Frag} {mg : Str → Option Value} {base : Heap}
abbrev F7 : DrF := dipF 10000121 587
theorem ok_sack (T : Tx K mg) : Has Drw.prog Drw.wld K mg base (L2.CX Drw.prog Drw.wld) 1 "_law_sack" ["script", "spot"] (spStartB K) := by
  obtain ⟨fd, F⟩ := T.fn_sack
  refine has_of T.g_sack F sc_sack (fun _ _ _ _ _ _ us hl => match us, hl with | [_, _], _ => rfl) (fun vs H Q E h => ?_) (fun cdv A outer s H vs Q E hr h => ⟨_, PSs.nox (
    (pss_cons (ps_set (i := 2) sc_sack.nd rfl (Or.inl rfl) (by exact (pe_ifExp (pt_cmpR op_lt (pv 1) (pe_callB (r := rLen K) call_len (by rfl) T.n_len (by decide +kernel) (pa_cons (pv 0) pa_nil)) (nomark _)) (pe_callTy call_int1 (by rfl) T.n_int (by decide +kernel) (pa_cons (pe_ix (r := rIxL K) ix_list (pv 0) (pv 1) (fun _ _ => rfl)) pa_nil)) (pe_op op_add (pe_op op_mul pe_int (pv 1)) pe_int))))
    (pss_cons (ps_set (i := 3) sc_sack.nd rfl (Or.inl rfl) (by exact (pe_op op_modN (pe_callTy call_int1 (by rfl) T.n_int (by decide +kernel) (pa_cons (pe_callB call_abs (by rfl) T.n_abs (by decide +kernel) (pa_cons (pv 2) pa_nil)) pa_nil)) (pe_op op_powW (pe_op op_pow pe_int pe_int) pe_int))))
    (pss_cons (ps_set (i := 4) sc_sack.nd rfl (Or.inl rfl) (by exact (pe_op op_add (pe_op op_add (pe_op op_add (pe_op op_mul (pe_op op_modN (pv 3) pe_int) pe_int) (pe_op op_mul pe_int (pv 1))) (pe_op op_mul pe_int (pe_callTy call_int1 (by rfl) T.n_int (by decide +kernel) (pa_cons (pe_cmpR op_lt (pv 2) pe_int (nomark _)) pa_nil)))) pe_int)))
    (pss_one (ps_ret (by exact (pe_lst (pa_cons (pe_callB (call_max2 rfl) (by rfl) T.n_max (by decide +kernel) (pa_cons pe_int (pa_cons (pe_op op_sub (pv 3) (pe_op op_pow pe_int pe_int)) pa_nil))) (pa_cons (pv 4) (pa_cons pe_int pa_nil))))))))))), ?_⟩)
  · obtain ⟨l, ns, i, rfl, _⟩ := h
    rfl
  · obtain ⟨l, ns, i, rfl, hS, hl, hi, k⟩ := h
    refine ⟨_, rfl, _, rfl, _, _, rfl, Or.inl ⟨_, hS, rfl⟩, _, _, rfl, rfl, _, rfl, ite2 (fun c => ?_) (fun c => ?_)⟩
    · have c2 := of_decide_eq_true c
      have hlt : i < (ns.map V.int).length := by
        have z : ((i : Nat) : Int) < (((ns.map V.int).length : Nat) : Int) := c2
        omega
      have hn : i < ns.length := by simpa using hlt
      refine ⟨_, rfl, _, rfl, l, _, (i : Int), .int (ns[i]), rfl, rfl, hS, atI_nat (by simp [hn]), .inl ⟨_, rfl, ?_⟩⟩
      refine ⟨_, rfl, _, rfl, .inl ⟨_, rfl, ?_⟩⟩
      refine ⟨_, _, rfl, rfl, ⟨by decide, by decide, by decide⟩, _, _, rfl, rfl, ⟨by decide, by decide +kernel⟩, _, _, rfl, rfl, id (α := ((10 : Int) ^ Int.toNat 53) ^ Int.toNat 6 ≠ 0) (by decide +kernel), ?_⟩
      refine ⟨_, rfl, _, _, rfl, rfl, id (α := (2305843009213693951 : Int) ≠ 0) (by decide), _, _, rfl, rfl, .inr ⟨by decide, by decide⟩, ?_⟩
      refine ⟨_, rfl, _, _, rfl, rfl, .inl ⟨by decide, by decide⟩, _, _, rfl, rfl, ?_⟩
      refine ⟨_, rfl, _, _, rfl, rfl, .inr ⟨_, rfl, _, _, rfl, rfl, .inl ⟨by decide, by decide⟩, _, _, rfl, rfl, _, _, rfl, rfl, ?_⟩⟩
      refine ⟨_, rfl, _, _, rfl, rfl, ⟨by decide, by decide, by decide⟩, _, _, rfl, rfl, _, _, rfl, ?_⟩
      exact ⟨_, rfl, (by show 3 ≤ sizeLine; decide), fun p hp => k p (_, _, _) hp⟩
    · refine ⟨_, rfl, _, _, rfl, rfl, .inl ⟨by decide, by decide⟩, _, _, rfl, rfl, ?_⟩
      refine ⟨_, rfl, _, rfl, .inl ⟨_, rfl, ?_⟩⟩
      refine ⟨_, _, rfl, rfl, ⟨by decide, by decide, by decide⟩, _, _, rfl, rfl, ⟨by decide, by decide +kernel⟩, _, _, rfl, rfl, id (α := ((10 : Int) ^ Int.toNat 53) ^ Int.toNat 6 ≠ 0) (by decide +kernel), ?_⟩
      refine ⟨_, rfl, _, _, rfl, rfl, id (α := (2305843009213693951 : Int) ≠ 0) (by decide), _, _, rfl, rfl, .inr ⟨by decide, by decide⟩, ?_⟩
      refine ⟨_, rfl, _, _, rfl, rfl, .inl ⟨by decide, by decide⟩, _, _, rfl, rfl, ?_⟩
      refine ⟨_, rfl, _, _, rfl, rfl, .inr ⟨_, rfl, _, _, rfl, rfl, .inl ⟨by decide, by decide⟩, _, _, rfl, rfl, _, _, rfl, rfl, ?_⟩⟩
      refine ⟨_, rfl, _, _, rfl, rfl, ⟨by decide, by decide, by decide⟩, _, _, rfl, rfl, _, _, rfl, ?_⟩
      exact ⟨_, rfl, (by show 3 ≤ sizeLine; decide), fun p hp => k p (_, _, _) hp⟩
theorem ok_dip (T : Tx K mg) : Has Drw.prog Drw.wld K mg base (L2.CX Drw.prog Drw.wld) 1 "_law_dip" ["sack", "total"] (spDipF F7) := by
  obtain ⟨fd, F⟩ := T.fn_dip
  refine has_of T.g_dip F sc_dip (fun _ _ _ _ _ _ us hl => match us, hl with | [_, _], _ => rfl) (fun vs H Q E h => ?_) (fun cdv A outer s H vs Q E hr h => ⟨_, PSs.nox (
    (pss_cons (ps_if (pt_cmpR op_gt (pe_ix (r := rIxL K) ix_list (pv 0) pe_int (fun _ _ => rfl)) pe_int (nomark _)) (pss_cons (ps_set (i := 2) sc_dip.nd rfl (Or.inl rfl) (by exact (pe_op op_modN (pe_callTy call_int1 (by rfl) T.n_int (by decide +kernel) (pa_cons (pe_ix (r := rIxL K) ix_list (pv 0) pe_int (fun _ _ => rfl)) pa_nil)) (pv 1))))
    (pss_cons (ps_asg (pe_op op_fdivN (pe_ix (r := rIxL K) ix_list (pv 0) pe_int (fun _ _ => rfl)) (pv 1)) (pg_sub (pv 0) pe_int set_list))
    (pss_one (ps_ret (by exact (pv 2)))))) pss_nil)
    (pss_cons (ps_asg (pe_op op_add (pe_ix (r := rIxL K) ix_list (pv 0) pe_int (fun _ _ => rfl)) pe_int) (pg_sub (pv 0) pe_int set_list))
    (pss_cons (ps_set (i := 3) sc_dip.nd rfl (Or.inl rfl) (by exact (pe_op op_modN (pe_callTy call_int1 (by rfl) T.n_int (by decide +kernel) (pa_cons (pe_op op_add (pe_ix (r := rIxL K) ix_list (pv 0) pe_int (fun _ _ => rfl)) (pe_op op_mul pe_int (pe_ix (r := rIxL K) ix_list (pv 0) pe_int (fun _ _ => rfl)))) pa_nil)) pe_int)))
    (pss_cons (ps_set (i := 4) sc_dip.nd rfl (Or.inl rfl) (by exact (pe_op op_add (pe_op op_mul (pe_op op_modN (pe_callTy call_int1 (by rfl) T.n_int (by decide +kernel) (pa_cons (pe_op op_add (pe_op op_mul (pv 3) (pv 3)) (pe_op op_mul pe_int (pe_ix (r := rIxL K) ix_list (pv 0) pe_int (fun _ _ => rfl)))) pa_nil)) pe_int) pe_int) (pv 3))))
    (pss_one (ps_ret (by exact (pe_op op_modN (pe_callTy call_int1 (by rfl) T.n_int (by decide +kernel) (pa_cons (pe_op op_fdivN (pv 4) pe_int) pa_nil)) (pv 1)))))))))), ?_⟩)
  · obtain ⟨p, n, b, rfl, _⟩ := h
    rfl
  · obtain ⟨p, nn, ⟨b0, b1, b2⟩, rfl, hb, hnn, hnn2, k⟩ := h
    obtain ⟨n, en⟩ : ∃ n : Int, n = (nn : Int) := ⟨_, rfl⟩
    have hn : 0 < n := by omega
    have hn2 : n < 1000000000 := by omega
    have hb : H p = some (.lst [.int b0, .int b1, .int b2]) := hb
    rw [← en]
    have nz : n ≠ 0 := by omega
    have na : n.natAbs < 1073741824 := by omega
    have hS : SqL K H p [.int b0, .int b1, .int b2] := SqL.of hb
    refine ⟨_, rfl, p, _, _, _, rfl, rfl, hS, rfl, _, _, rfl, rfl, _, rfl, ite2 (fun c => ?_) (fun c => ?_)⟩
    · refine ⟨_, rfl, p, _, _, _, rfl, rfl, hS, rfl, .inl ⟨_, rfl, _, rfl, _, _, rfl, rfl, nz, ?_⟩⟩
      refine ⟨_, rfl, p, _, _, _, rfl, rfl, hS, rfl, _, rfl, _, _, rfl, rfl, ⟨nz, na⟩, ?_⟩
      refine ⟨_, rfl, p, _, _, _, rfl, rfl, hb, rfl, _, rfl, ?_⟩
      have c2 : b0 > 0 := of_decide_eq_true c
      have e : F7 (b0, b1, b2) nn = ((b0.fmod n).toNat, (b0.fdiv n, b1, b2)) := by
        rw [en]
        exact if_pos c2
      rw [e] at k
      have e2 : (((b0.fmod n).toNat : Nat) : Int) = b0.fmod n := Int.toNat_of_nonneg (Int.fmod_nonneg_of_pos _ hn)
      have k : Q (.int (((b0.fmod n).toNat : Nat) : Int)) (upd H p (.lst [.int (b0.fdiv n), .int b1, .int b2])) := k
      rw [e2] at k
      exact k
    · refine ⟨_, rfl, p, _, _, _, rfl, rfl, hS, rfl, _, _, rfl, rfl, _, rfl, p, _, _, _, rfl, rfl, hb, rfl, ?_⟩
      have hb2 : upd H p (.lst [.int b0, .int b1, .int (b2 + 1)]) p = some (.lst [.int b0, .int b1, .int (b2 + 1)]) := upd_same
      have hS2 : SqL K (upd H p (.lst [.int b0, .int b1, .int (b2 + 1)])) p [.int b0, .int b1, .int (b2 + 1)] := SqL.of hb2
      refine ⟨_, rfl, p, _, _, _, rfl, rfl, hS2, rfl, _, rfl, p, _, _, _, rfl, rfl, hS2, rfl, _, _, rfl, rfl, .inl ⟨by decide, by decide⟩, _, _, rfl, rfl, .inl ⟨_, rfl, _, _, rfl, rfl, id (α := (2305843009213693951 : Int) ≠ 0) (by decide), ?_⟩⟩
      have hM : ∀ x : Int, -(2 ^ 64) < x.fmod 2305843009213693951 ∧ x.fmod 2305843009213693951 < 2 ^ 64 := fun x => by
        have a1 := Int.fmod_nonneg_of_pos x (b := 2305843009213693951) (by decide)
        have a2 := Int.fmod_lt_of_pos x (b := 2305843009213693951) (by decide)
        omega
      refine ⟨_, rfl, _, rfl, _, _, rfl, rfl, .inl (hM _), _, rfl, p, _, _, _, rfl, rfl, hS2, rfl, _, _, rfl, rfl, .inl ⟨by decide, by decide⟩, _, _, rfl, rfl, .inl ⟨_, rfl, _, _, rfl, rfl, id (α := (2305843009213693951 : Int) ≠ 0) (by decide), ?_⟩⟩
      refine ⟨_, _, rfl, rfl, .inl (hM _), _, rfl, _, _, rfl, rfl, ?_⟩
      refine ⟨_, rfl, _, _, rfl, rfl, ⟨by decide, by decide⟩, .inl ⟨_, rfl, _, rfl, _, _, rfl, rfl, nz, ?_⟩⟩
      have c2 : ¬ b0 > 0 := fun z => c (decide_eq_true z)
      have e : F7 (b0, b1, b2) nn = (((((((b1 + 10000121 * (b2 + 1)).fmod 2305843009213693951) * ((b1 + 10000121 * (b2 + 1)).fmod 2305843009213693951) + 587 * (b2 + 1)).fmod 2305843009213693951 * 8589934609 + (b1 + 10000121 * (b2 + 1)).fmod 2305843009213693951).fdiv 131072).fmod n).toNat, (b0, b1, b2 + 1)) := by
        rw [en]
        exact if_neg c2
      rw [e] at k
      have e2 : ∀ z : Int, (((z.fmod n).toNat : Nat) : Int) = z.fmod n := fun z => Int.toNat_of_nonneg (Int.fmod_nonneg_of_pos _ hn)
      have k := k
      dsimp only at k
      rw [e2] at k
      have eu : upd (upd H p (.lst [.int b0, .int b1, .int (b2 + 1)])) p (.lst [.int b0, .int b1, .int (b2 + 1)]) = upd H p (.lst [.int b0, .int b1, .int (b2 + 1)]) := by
        funext b
        unfold upd
        split <;> rfl
      exact k
theorem ok_lone (T : Tx K mg) : Has Drw.prog Drw.wld K mg base (L2.CX Drw.prog Drw.wld) 2 "_law_one" ["sack", "items"] (spPickF K F7) := by
  obtain ⟨g_dip, k_dip, fd_dip, G_dip, b_dip⟩ := ok_dip (base := base) T
  obtain ⟨fd, F⟩ := T.fn_lone
  refine has_of T.g_lone F sc_lone (fun _ _ _ _ _ _ us hl => match us, hl with | [_, _], _ => rfl) (fun vs H Q E h => ?_) (fun cdv A outer s H vs Q E hr h => ⟨_, PSs.nox (
    (pss_one (ps_ret (by exact (pe_ix (r := rIxL K) ix_list (pv 1) (pe_call (E := E0) G_dip (hr.mono (by decide)) (by rfl) g_dip k_dip b_dip .nil passX0 (pa_cons (pv 0) (pa_cons (pe_callB (r := rLen K) call_len (by rfl) T.n_len (by decide +kernel) (pa_cons (pv 1) pa_nil)) pa_nil))) (fun _ _ => rfl)))))), ?_⟩)
  · obtain ⟨p, l, xs, b, v, rfl, _⟩ := h
    rfl
  · obtain ⟨p, l, xs, b, v, rfl, hb, hlp, hS, hne, hl, hv, k⟩ := h
    have hpos : 0 < xs.length := List.length_pos_iff.mpr hne
    refine ⟨_, rfl, _, rfl, _, rfl, _, _, rfl, Or.inl ⟨_, hS, rfl⟩, p, xs.length, b, rfl, hb, hpos, by omega, ?_⟩
    have hS2 : SqL K (upd H p (bagB (F7 b xs.length).2)) l xs := SqL.updL hS hlp
    exact ⟨l, xs, (((F7 b xs.length).1 : Nat) : Int), v, rfl, rfl, hS2, atI_nat hv, k⟩
end
end K7
set_option maxHeartbeats 4000000
/-! The laws' def that tells what a call tells or what it raises. -/
namespace MetX
open PySem PySem.Spec PyProof.Rows L2 He
inductive ArmD where
  | word (C w : Str)
  | rais (C w : Str)
  | pair (C f w : Str)
  | trip (C f w : Str)
  | dead (n : Bool) (C : Str)
def ArmD.cls : ArmD → Str
  | .word C _ => C
  | .rais C _ => C
  | .pair C _ _ => C
  | .trip C _ _ => C
  | .dead _ C => C
def tupQ (vs : List V) (H : Hp) (Q : VK) : Prop := ∀ a, H a = none → Q (.ref a) (upd H a (.tup vs))
def armQ (d : Option Addr) (H : Hp) (Q : VK) : ArmD → Prop
  | .word _ w => Q (.str w) H
  | .rais _ w => tupQ [.str "raised", .str w] H Q
  | .pair _ f w => ∃ dd v, d = some dd ∧ H dd = some (.xd [(f, v)]) ∧ tupQ [.str w, v] H Q
  | .trip _ f w => ∃ dd v, d = some dd ∧ H dd = some (.xd [(f, v)]) ∧ tupQ [.str "raised", .str w, v] H Q
  | .dead _ _ => False
def armFor (x : Str) : List ArmD → Option ArmD
  | [] => none
  | A :: r => if A.cls = x then some A else armFor x r
def XM (K : PySem.W.Frag) (rs : List Str) (arms : List ArmD) (cls : Value) (d : Option Addr) (H : Hp) (Q : VK) : Prop := ∃ x ∈ rs, cls = .ref (ga K x) ∧ ∃ A, armFor x arms = some A ∧ armQ d H Q A
def TTof (K : PySem.W.Frag) (rs : List Str) (arms : List ArmD) : (XK → Hp → VK → Prop) → Hp → VK → Prop := fun tl H Q =>
  tl (fun cls d H' => XM K rs arms cls d H' Q) H fun v H' => tupQ [.str "told", v] H' Q
def tsFld (K : PySem.W.Frag) (C f : Str) (vs : V → List V) : Addr → Value → Option Addr → TS := fun a cls d D σ H => (1 < σ.length → σ[1]? = some (some (.ref a))) ∧
  (cls = .ref (ga K C) ∧ ∃ (dd : Addr) (fs : List (Str × V)) (v : V), d = some dd ∧ H dd = some (.xd fs) ∧ fs.lookup f = some v ∧ (vs v).length ≤ sizeLine ∧ ∀ a, H a = none → D.rt (.ref a) (upd H a (.tup (vs v))))
def armArm (K : PySem.W.Frag) : ArmD → TM.Arm
  | .word C w => ⟨.ref (ga K C), none, fun _ _ _ => tRet (tC (.str w))⟩
  | .rais C w => ⟨.ref (ga K C), none, fun _ _ _ => tRet (tTup (tCons (tC (.str "raised")) (tCons (tC (.str w)) tNil)))⟩
  | .pair C f w => ⟨.ref (ga K C), some 1, tsFld K C f fun v => [.str w, v]⟩
  | .trip C f w => ⟨.ref (ga K C), some 1, tsFld K C f fun v => [.str "raised", .str w, v]⟩
  | .dead true C => ⟨.ref (ga K C), some 1, fun _ _ _ => tNever⟩
  | .dead false C => ⟨.ref (ga K C), none, fun _ _ _ => tNever⟩
theorem arm_c {K : PySem.W.Frag} (A : ArmD) : (armArm K A).c = .ref (ga K A.cls) := by
  cases A with
  | dead n C => cases n <;> rfl
  | _ => rfl
theorem look1 {f : Str} {v : V} : List.lookup f [(f, v)] = some v := by simp [List.lookup]
theorem wish_arm {K : PySem.W.Frag} {A : ArmD} {a : Addr} {d : Option Addr} {H : Hp} {Q : VK} {D : Ends} {σ : L2.St} (hD : D.rt = Q) (hq : armQ d H Q A) : TM.wArm (armArm K A) a (.ref (ga K A.cls)) d D σ H := by
  have set1 : ∀ {τ : L2.St}, 1 < (τ.set 1 (some (V.ref a))).length → (τ.set 1 (some (V.ref a)))[1]? = some (some (.ref a)) := fun h => by
    rw [List.length_set] at h
    simp [h]
  subst hD
  cases A with
  | word C w => exact hq
  | rais C w => exact ⟨szd (by simp), fun b hb => hq b hb⟩
  | pair C f w =>
    obtain ⟨dd, v, h1, h2, h3⟩ := hq
    exact ⟨set1, rfl, dd, _, v, h1, h2, look1, szd (by simp), h3⟩
  | trip C f w =>
    obtain ⟨dd, v, h1, h2, h3⟩ := hq
    exact ⟨set1, rfl, dd, _, v, h1, h2, look1, szd (by simp), h3⟩
  | dead n C => exact (show False from hq).elim
theorem wish_arms {K : PySem.W.Frag} {x : Str} {d : Option Addr} {H : Hp} {Q : VK} {D : Ends} {σ : L2.St} {Wout : WX} (hD : D.rt = Q) : ∀ {arms : List ArmD} {A : ArmD}, (∀ B ∈ arms, PySem.W.exmOne K (.ref (ga K x)) (.ref (ga K B.cls)) = some (decide (x = B.cls))) → armFor x arms = some A → armQ d H Q A →
    TM.wManyA K Wout D (arms.map (armArm K)) (.ref (ga K x)) d σ H
  | [], A, _, h, _ => by cases h
  | B :: r, A, he, h, hq => by
    have e := he B List.mem_cons_self
    unfold armFor at h
    split at h
    · rename_i c
      cases h
      subst c
      rw [decide_eq_true rfl] at e
      exact ⟨true, by rw [arm_c]; exact e, fun _ a _ => wish_arm hD hq, fun z => nomatch z⟩
    · rename_i c
      rw [decide_eq_false fun z => c z.symm] at e
      exact ⟨false, by rw [arm_c]; exact e, fun z => (nomatch z), fun _ => wish_arms hD (fun C hC => he C (List.mem_cons_of_mem _ hC)) h hq⟩
theorem wish {K : PySem.W.Frag} {rs : List Str} {arms : List ArmD} {cls : Value} {d : Option Addr} {H : Hp} {Q : VK} {D : Ends} {σ : L2.St} {Wout : WX} (hD : D.rt = Q) (he : ∀ x ∈ rs, ∀ B ∈ arms, PySem.W.exmOne K (.ref (ga K x)) (.ref (ga K B.cls)) = some (decide (x = B.cls))) (h : XM K rs arms cls d H Q) :
    TM.wManyA K Wout D (arms.map (armArm K)) cls d σ H := by
  obtain ⟨x, hx, rfl, A, h1, h2⟩ := h
  exact wish_arms hD (he x hx) h1 h2
/-- try: return ("told", call()) / except .. -/
theorem gives {X : Cx} {N : List Str} {nm a : Str} {sc : Scope} {g : Addr} {cdg : Value} {q : Str} {rs : List Str} {arms : List ArmD} {h₀ : ExceptHandler} {hds : List ExceptHandler} {j j2 : Nat} {p1 p2 p3 p4 p5 p6 : Pos} {K : PySem.W.Frag} (hK : X.K = K)
    (nd : N.Nodup) (he : ∀ x ∈ rs, ∀ B ∈ arms, PySem.W.exmOne K (.ref (ga K x)) (.ref (ga K B.cls)) = some (decide (x = B.cls)))
    (h0 : ∀ f : Addr, (L2.start N [V.ref f])[0]? = some (some (V.ref f)))
    (hh : ∀ (s : Shared) (H : Hp), TM.HdsA (cxOf C8.CX0 X.prog X.w X.K X.mg X.base N nm sc g cdg X.A X.stack s H C8.E0).nox (h₀ :: hds) (arms.map (armArm K))) :
    LamX.GivesTo X N nm sc g cdg [.Try [.Return (some (.Tuple [.Constant (.str "told") j p1, .Call (.Name a p2) [] [] p3] j2 p4)) p5] (h₀ :: hds) [] [] p6] a q (TTof K rs arms) := by
  subst hK
  intro f c' s H Q tl act hc h
  refine ⟨_, pss_one (TM.ps_try_arms (X := (cxOf C8.CX0 X.prog X.w X.K X.mg X.base N nm sc g cdg X.A X.stack s H C8.E0).nox) (l := arms.map (armArm X.K))
      (tb := fun W D σ H => ∃ Ech : XK, (∀ cls d σ' H', Ech cls d H' → W cls d σ' H') ∧ σ[0]? = some (some (.ref f)) ∧ H c' = some (LamX.CodeO c' q) ∧ tl Ech H (fun v H1 => tupQ [.str "told", v] H1 D.rt))
      rfl rfl nd LamX.takes0 (fun W pn xe tk _ => ?_) (hh s H)), ?_⟩
  · refine ⟨fun pins s' σ H' D I h' => ?_⟩
    obtain ⟨Ech, hW, h1, h2, h3⟩ := h'
    exact PSs.run (pss_one (ps_ret (pe_tup (pa_cons pe_str (pa_cons (act W pn xe Ech _ _ tk hW) pa_nil))))) pins s' σ H' D I ⟨h1, h2, by
      have e : (fun (v : V) (H1 : Hp) => [V.str "told", v].length ≤ sizeLine ∧ ∀ a, H1 a = none → D.rt (.ref a) (upd H1 a (.tup [.str "told", v]))) = fun v H1 => tupQ [.str "told", v] H1 D.rt := by
        funext v H1
        exact propext ⟨fun z => z.2, fun z => ⟨szd (by simp), z⟩⟩
      show tl Ech H' (fun (v : V) (H1 : Hp) => [V.str "told", v].length ≤ sizeLine ∧ ∀ a, H1 a = none → D.rt (.ref a) (upd H1 a (.tup [.str "told", v])))
      rw [e]
      exact h3⟩
  · exact ⟨_, fun cls d σ' H' hE => wish rfl he hE, h0 f, hc, h⟩
end MetX
namespace RunX
open PySem PySem.Spec PyProof.Rows L2 He MetX
variable [Drw] [Cbv]
variable {K : PySem.W.Frag} {E : XK}
/-- the one value that an exception keeps -/
def keptD (d : Option Nat) (S : List DO) (f : Str) : Option DV := match d with
  | some m => (match S[m]? with
    | some (.xd [(g, v)]) => if g = f then some v else none
    | _ => none)
  | none => none
theorem keptD_ok {ρ : List Addr} {S : List DO} {H : Hp} {d : Option Nat} {f : Str} {v : DV} (R : Rep K ρ S H) (h : keptD d S f = some v) : wf S.length v = true ∧ ∃ m, d = some m ∧ H (ρ.getD m 0) = some (.xd [(f, dV K ρ v)]) := by
  unfold keptD at h
  split at h
  · rename_i m
    split at h
    · rename_i g u e
      split at h
      · rename_i c
        subst c
        cases h
        obtain ⟨a, b⟩ := R.get e
        have b : (wf S.length v && true) = true := b
        rw [Bool.and_true] at b
        exact ⟨b, m, rfl, a⟩
      · cases h
    · cases h
  · cases h
theorem keptD_wf {S : List DO} {d : Option Nat} {f : Str} {v : DV} (h : keptD d S f = some v) : ∃ m, d = some m ∧ S[m]? = some (.xd [(f, v)]) := by
  unfold keptD at h
  split at h
  · rename_i m
    split at h
    · rename_i g u e
      split at h
      · rename_i c
        subst c
        cases h
        exact ⟨m, rfl, e⟩
      · cases h
    · cases h
  · cases h
def armRun (d : Option Nat) (S : List DO) : ArmD → Option Res
  | .word _ w => retS (.str w) S
  | .rais _ w => alloc S (.tup [.str "raised", .str w])
  | .pair _ f w => (keptD d S f).bind fun v => alloc S (.tup [.str w, v])
  | .trip _ f w => (keptD d S f).bind fun v => alloc S (.tup [.str "raised", .str w, v])
  | .dead _ _ => none
theorem tup_post {ρ : List Addr} {S : List DO} {H : Hp} {Q : VK} {r : Res} {xs : List DV} (h : alloc S (.tup xs) = some r) (w : xs.all (wf S.length) = true) (R : Rep K ρ S H) (p : Post K E ρ H Q r) : tupQ (xs.map (dV K ρ)) H Q :=
  fun a ha => alloc_post (E := E) (o := .tup xs) h w R p ha
theorem armRun_good {A : ArmD} {d : Option Nat} {S : List DO} {r : Res} (h : armRun d S A = some r) : good S.length r = true := by
  cases A with
  | word C w => exact ret_good h rfl
  | rais C w => exact alloc_good h
  | pair C f w =>
    obtain ⟨v, hv, h2⟩ := Option.bind_eq_some_iff.mp h
    exact alloc_good h2
  | trip C f w =>
    obtain ⟨v, hv, h2⟩ := Option.bind_eq_some_iff.mp h
    exact alloc_good h2
  | dead n C => cases h
theorem armRun_ok {A : ArmD} {d : Option Nat} {S : List DO} {r : Res} {ρ : List Addr} {H : Hp} {Q : VK} (h : armRun d S A = some r) (R : Rep K ρ S H) (p : Post K E ρ H Q r) : armQ (d.map fun n => ρ.getD n 0) H Q A := by
  cases A with
  | word C w => exact ret_post (E := E) h R p
  | rais C w => exact tup_post (E := E) h rfl R p
  | pair C f w =>
    obtain ⟨v, hv, h2⟩ := Option.bind_eq_some_iff.mp h
    obtain ⟨wv, m, rfl, e⟩ := keptD_ok R hv
    exact ⟨_, _, rfl, e, tup_post (E := E) (xs := [.str w, v]) h2 (by show (true && (wf _ v && true)) = true; rw [wv]; rfl) R p⟩
  | trip C f w =>
    obtain ⟨v, hv, h2⟩ := Option.bind_eq_some_iff.mp h
    obtain ⟨wv, m, rfl, e⟩ := keptD_ok R hv
    exact ⟨_, _, rfl, e, tup_post (E := E) (xs := [.str "raised", .str w, v]) h2 (by show (true && (true && (wf _ v && true))) = true; rw [wv]; rfl) R p⟩
  | dead n C => cases h
def metRun (rs : List Str) (arms : List ArmD) : Res → Option Res
  | .ret v S => alloc S (.tup [.str "told", v])
  | .exc C d S => if (rs.any fun x => decide (x = C)) = true then (match armFor C arms with
    | some A => armRun d S A
    | none => none) else none
instance (rs : List Str) (arms : List ArmD) : EvTT K (TTof K rs arms) where
  run := metRun rs arms
  good := fun {n r q} h g => by
    unfold metRun at h
    split at h
    · obtain ⟨l, _⟩ := ba g
      exact good_le (of_decide_eq_true l) (alloc_good h)
    · split at h
      · split at h
        · exact good_le (of_decide_eq_true g) (armRun_good h)
        · cases h
      · cases h
  ok := fun {r q S ρ H Q tl E} h g R p k => by
    refine k (fun cls d H' => XM K rs arms cls d H' Q) (fun v H' => tupQ [.str "told", v] H' Q) ?_
    unfold metRun at h
    split at h
    · rename_i v S1
      obtain ⟨l, wv⟩ := ba g
      intro ρ' H' R' F
      exact tup_post (E := E) (xs := [.str "told", v]) h (by show (true && (wf _ v && true)) = true; rw [wv]; rfl) R' (Post.of p R' F)
    · rename_i C d S1
      split at h
      · rename_i hc
        split at h
        · rename_i A hA
          intro ρ' H' R' F
          obtain ⟨x, hx, ex⟩ := List.any_eq_true.mp hc
          have ex := of_decide_eq_true ex
          subst ex
          exact ⟨x, hx, rfl, A, hA, armRun_ok h R' (Post.of p R' F)⟩
        · cases h
      · cases h
end RunX
set_option maxHeartbeats 4000000
namespace K7
open PySem PySem.Spec PyProof.Rows L2 He Hx Hy PO RunX PB MetX
section
variable {K : PySem.W.Frag} {mg : Str → Option Value}
def arms7 : List ArmD := [.word "InvalidText" "text", .word "InvalidRewriter" "rewriter", .word "InvalidMachine" "machine", .word "InvalidOperation" "operation", .pair "InvalidNumber" "value" "number", .dead true "TooMany", .dead false "NotSingle"]
theorem met_exm (T : Tx K mg) : ∀ x ∈ raisN, ∀ B ∈ arms7, PySem.W.exmOne K (.ref (ga K x)) (.ref (ga K B.cls)) = some (decide (x = B.cls)) := fun x hx B hB => T.exm x B.cls hx (by
  have e : armN = arms7.map ArmD.cls := by decide +kernel
  rw [e]
  exact List.mem_map.mpr ⟨B, hB, rfl⟩)
theorem met_gives (T : Tx K mg) {X : Cx} {g : Addr} {cdg : Value} {q : Str} (hK : X.K = K) (hmg : X.mg = mg) : LamX.GivesTo X ["call", "e"] "_law_met" (defScope s_met) g cdg (defBody s_met) "call" q (TTof K raisN arms7) := by
  subst hK hmg
  have nv : PySem.W.findIn X.K (.ref (ga X.K "InvalidNumber")) "value" = some none := T.i_InvalidNumber.noN
  have xf : XfC X.K (ga X.K "InvalidNumber") := ⟨T.i_InvalidNumber.ga, T.i_InvalidNumber.gg, T.i_InvalidNumber.exC, T.i_InvalidNumber.hdC⟩
  refine MetX.gives (K := X.K) (rs := raisN) (arms := arms7) rfl sc_met.nd (met_exm T) (fun f => rfl) (fun s H => ?_)
  exact .cons ⟨rfl, by decide, .inl T.g_InvalidText⟩ (fun a oe cls d pn hz hd => pss_one (ps_ret pe_str)) (.cons ⟨rfl, by decide, .inl T.g_InvalidRewriter⟩ (fun a oe cls d pn hz hd => pss_one (ps_ret pe_str)) (.cons ⟨rfl, by decide, .inl T.g_InvalidMachine⟩ (fun a oe cls d pn hz hd => pss_one (ps_ret pe_str))
      (.cons ⟨rfl, by decide, .inl T.g_InvalidOperation⟩ (fun a oe cls d pn hz hd => pss_one (ps_ret pe_str)) (.as_ rfl rfl ⟨rfl, by decide, .inl T.g_InvalidNumber⟩ (fun a oe cls d pn hz hd => ⟨fun pins s' σ H' D I h' => PSs.run (pss_one (ps_ret (pe_tup (pa_cons pe_str (pa_cons (pe_xf (X := (cxOf C8.CX0 X.prog X.w X.K X.mg X.base ["call", "e"] "_law_met" (defScope s_met) g cdg X.A X.stack s H C8.E0).nox) (n := "value") xf nv hz hd (pv 1)) pa_nil))))) pins s' σ H' D I ⟨_, h'.1 (by have len : σ.length = 2 := I.len; omega), rfl, h'.2⟩⟩)
      (.as_ rfl rfl ⟨rfl, by decide, .inl T.g_TooMany⟩ (fun a oe cls d pn hz hd => pss_never) (.cons ⟨rfl, by decide, .inl T.g_NotSingle⟩ (fun a oe cls d pn hz hd => pss_never) .nil))))))
end
end K7
set_option maxHeartbeats 4000000
/-! a text times a number -/
namespace RunX
open PySem PySem.Spec PyProof.Rows L2 He
def repStr (z : Str) (k : Int) : Str := ⟨(List.replicate k.toNat z.cps).foldl (· ++ ·) #[]⟩
def rRepS : R2 := fun x y H Q => ∃ (z : Str) (k : Int), x = .str z ∧ y = .int k ∧ 2 ≤ k ∧ k ≤ 1000 ∧ 1 ≤ z.length ∧ z.length ≤ 1000 ∧ (repStr z k).length ≤ sizeLine ∧ Q (.str (repStr z k)) H
theorem op_repS {X : Cx} : OpR X (binaryOp .Mult) rRepS := by
  intro pins s σ H x y v u Q I rx ry h
  obtain ⟨z, k, rfl, rfl, h1, h2, h3, h4, h5, q⟩ := h
  obtain ⟨t, rfl⟩ := rx
  obtain ⟨t', rfl⟩ := ry
  have hm : ((z.length : Nat) : Int) * k ≤ 1000000 := by
    have a1 : ((z.length : Nat) : Int) * k ≤ 1000 * k := Int.mul_le_mul_of_nonneg_right (by omega) (by omega)
    omega
  have hk : z.length * k.toNat ≤ 1000000 := by
    have e : ((z.length * k.toNat : Nat) : Int) = (z.length : Int) * k := by
      rw [Int.natCast_mul, Int.toNat_of_nonneg (by omega)]
    omega
  refine PySem.P.mul_str ?_ (fun _ _ hb => ?_) (fun _ _ => ?_) ?_
  · rw [decide_eq_false (by omega), decide_eq_false (by omega)]
    rfl
  · have hd : (z.length : Int) ≤ (2 ^ 63 - 1) / k := by
      refine (Int.le_ediv_iff_mul_le (by omega)).mpr ?_
      omega
    omega
  · have : (1000000 : Nat) ≤ sizeLine := by decide
    show decide (z.length * k.toNat > sizeLine) = false
    exact decide_eq_false (by omega)
  · rw [if_neg (by omega), if_neg (by simp; omega)]
    exact ⟨h5, .str (repStr z k), H, I.tok _, ⟨_, rfl⟩, q⟩
variable [Drw] [Cbv]
variable {K : PySem.W.Frag} {E : XK}
instance : EvR K rRepS where
  run := fun S x y => match x, y with
    | .str z, .int k => if 2 ≤ k ∧ k ≤ 1000 ∧ 1 ≤ z.length ∧ z.length ≤ 1000 ∧ (repStr z k).length ≤ 1000000 then retS (.str (repStr z k)) S else none
    | _, _ => none
  good := fun {S x y q} h wx wy => by
    split at h
    · split at h
      · exact ret_good h rfl
      · cases h
    · cases h
  ok := fun {S x y q ρ H Q E} h wx wy R p => by
    split at h
    · split at h
      · rename_i c
        obtain ⟨h1, h2, h3, h4, h5⟩ := c
        exact ⟨_, _, rfl, rfl, h1, h2, h3, h4, Nat.le_trans h5 (by decide), ret_post (E := E) h R p⟩
      · cases h
    · cases h
end RunX
set_option maxHeartbeats 4000000
/-! repr(x) != repr(y) for lists that show the same data: their length is bounded, not told. -/
namespace RunX
open PySem PySem.Spec PyProof.Rows L2 He
mutual
def samP : PyData → PyData → Bool
  | .none, .none => true
  | .bool a, .bool b => decide (a = b)
  | .int a, .int b => decide (a = b)
  | .str a, .str b => decide (a = b)
  | .list a, .list b => samPs a b
  | .tuple a, .tuple b => samPs a b
  | _, _ => false
def samPs : List PyData → List PyData → Bool
  | [], [] => true
  | a :: r, b :: s => samP a b && samPs r s
  | _, _ => false
end
mutual
theorem samP_eq : ∀ {a b : PyData}, samP a b = true → a = b
  | .none, b, h => by cases b <;> first | rfl | (simp only [samP] at h; cases h)
  | .bool a, b, h => by cases b <;> first | (simp only [samP] at h; rw [of_decide_eq_true h]) | (simp only [samP] at h; cases h)
  | .int a, b, h => by cases b <;> first | (simp only [samP] at h; rw [of_decide_eq_true h]) | (simp only [samP] at h; cases h)
  | .str a, b, h => by cases b <;> first | (simp only [samP] at h; rw [of_decide_eq_true h]) | (simp only [samP] at h; cases h)
  | .list a, b, h => by cases b <;> first | (simp only [samP] at h; rw [samPs_eq h]) | (simp only [samP] at h; cases h)
  | .tuple a, b, h => by cases b <;> first | (simp only [samP] at h; rw [samPs_eq h]) | (simp only [samP] at h; cases h)
  | .dict a, b, h => by cases b <;> (simp only [samP] at h; cases h)
theorem samPs_eq : ∀ {a b : List PyData}, samPs a b = true → a = b
  | [], b, h => by cases b <;> first | rfl | (simp only [samPs] at h; cases h)
  | a :: r, b, h => by
    cases b with
    | nil => simp only [samPs] at h; cases h
    | cons b s =>
      simp only [samPs] at h
      obtain ⟨h1, h2⟩ := ba h
      rw [samP_eq h1, samPs_eq h2]
end
mutual
/-- a bound of what is shown -/
def bdP : PyData → Option Nat
  | .none => some 4
  | .bool _ => some 5
  | .int i => some (PyData.shown (.int i)).length
  | .str x => if x.cps.toList.all (fun c => decide (c < 4294967296)) = true then some (10 * x.length + 2) else none
  | .list xs => (bdPs xs).map (· + 2)
  | .tuple xs => (bdPs xs).map (· + 3)
  | .dict _ => none
def bdPs : List PyData → Option Nat
  | [] => some 0
  | x :: r => match bdP x, bdPs r with
    | some a, some b => some (a + 2 + b)
    | _, _ => none
end
theorem textFrom_le : ∀ (ts : List Str) (k : Nat) (acc : Str), (textFrom k acc ts).length ≤ acc.length + piled ts
  | [], k, acc => by
    show acc.length ≤ _
    omega
  | t :: r, k, acc => by
    have h := textFrom_le r (k + 1) (acc ++ (if k > 0 then ", " else "" : String) ++ t)
    have e : (acc ++ (if k > 0 then ", " else "" : String) ++ t).length = acc.length + (if k > 0 then 2 else 0) + t.length := by
      rw [strLen_append, strLen_append]
      split <;> rfl
    rw [e] at h
    rw [piled_cons]
    have e5 : (if k > 0 then 2 else 0) ≤ 2 := by split <;> omega
    show (textFrom (k + 1) (acc ++ (if k > 0 then ", " else "" : String) ++ t) r).length ≤ _
    omega
mutual
theorem bdP_ok : ∀ {d : PyData} {n : Nat}, bdP d = some n → d.shown.length ≤ n
  | .none, n, h => by
    simp only [bdP, Option.some.injEq] at h
    subst h
    exact Nat.le_refl 4
  | .bool b, n, h => by
    simp only [bdP, Option.some.injEq] at h
    subst h
    cases b
    · exact Nat.le_refl 5
    · exact (by decide : 4 ≤ 5)
  | .int i, n, h => by
    simp only [bdP, Option.some.injEq] at h
    subst h
    exact Nat.le_refl _
  | .str x, n, h => by
    simp only [bdP] at h
    split at h
    · rename_i c
      simp only [Option.some.injEq] at h
      subst h
      simp only [PyData.shown]
      exact StrLaws.reprText_len x fun c' hc => by
        have z := of_decide_eq_true (List.all_eq_true.mp c c' hc)
        omega
    · cases h
  | .list xs, n, h => by
    simp only [bdP] at h
    obtain ⟨m, h1, h2⟩ := Option.map_eq_some_iff.mp h
    subst h2
    have z := bdPs_ok h1
    simp only [PyData.shown]
    unfold listText
    rw [strLen_append]
    have t := textFrom_le (PyData.shownAll xs) 0 "["
    have e1 : (("[" : String) : Str).length = 1 := rfl
    have e2 : (("]" : String) : Str).length = 1 := rfl
    omega
  | .tuple xs, n, h => by
    simp only [bdP] at h
    obtain ⟨m, h1, h2⟩ := Option.map_eq_some_iff.mp h
    subst h2
    have z := bdPs_ok h1
    simp only [PyData.shown]
    unfold tupleText
    rw [strLen_append, strLen_append]
    have e1 : (("(" : String) : Str).length = 1 := rfl
    have e2 : ((if (PyData.shownAll xs).length == 1 then ",)" else ")" : String) : Str).length ≤ 2 := by
      split
      · exact Nat.le_refl 2
      · exact (by decide : 1 ≤ 2)
    have e3 : (Str.join ", " (PyData.shownAll xs)).length ≤ piled (PyData.shownAll xs) := by
      by_cases c : PyData.shownAll xs = []
      · rw [c]
        exact Nat.le_refl 0
      · have := join_length_add (PyData.shownAll xs) c
        omega
    omega
  | .dict _, n, h => by
    simp only [bdP] at h
    cases h
theorem bdPs_ok : ∀ {xs : List PyData} {n : Nat}, bdPs xs = some n → piled (PyData.shownAll xs) ≤ n
  | [], n, h => by
    simp only [bdPs, Option.some.injEq] at h
    subst h
    exact Nat.le_refl 0
  | x :: r, n, h => by
    simp only [bdPs] at h
    split at h
    · rename_i a b h1 h2
      cases h
      have z1 := bdP_ok h1
      have z2 := bdPs_ok h2
      simp only [PyData.shownAll]
      rw [piled_cons]
      omega
    · cases h
end
/-! ### the evaluator -/
variable [Drw] [Cbv]
variable {K : PySem.W.Frag} {E : XK}
def showsP (d : PyData) : Bool := d.showable && (decide (d.depth ≤ 50) && (match bdP d with
  | some n => decide (n ≤ 100000)
  | none => false))
def reprS (S : List DO) (x y : DV) (env : List (Nat × Nat)) : Option Bool := match datE env S 64 x, datE env S 64 y with
  | some d, some e => if samP d e = true ∧ showsP d = true then some true else none
  | _, _ => none
def reprRunS (neg : Bool) (i j : Nat) (σ : List (Option DV)) (S : List DO) : Option Res := match refsAt σ i j with
  | some (x, y) => (match onDraws S x y (reprS S x y) with
    | some b => retS (.bl (if neg = true then !b else b)) S
    | none => none)
  | none => none
theorem reprS_good {neg : Bool} {i j : Nat} {σ : List (Option DV)} {S : List DO} {r : Res} (h : reprRunS neg i j σ S = some r) : good S.length r = true := by
  unfold reprRunS at h
  split at h
  · split at h
    · exact ret_good h rfl
    · cases h
  · cases h
theorem reprS_ok (neg : Bool) (i j : Nat) {σ : List (Option DV)} {S : List DO} {r : Res} {ρ : List Addr} {H : Hp} {Q : VK} (h : reprRunS neg i j σ S = some r) (w : wfS S.length σ = true) (R : Rep K ρ S H) (p : Post K E ρ H Q r) : tOp (rReprs neg) (tCB rReprG (tCons (tVar i) tNil)) (tCB rReprG (tCons (tVar j) tNil)) (dSt K ρ σ) H Q := by
  unfold reprRunS at h
  split at h
  · rename_i x y hxy
    obtain ⟨⟨n, rfl⟩, ⟨m, rfl⟩, e1, e2⟩ := refsAt_eq hxy
    split at h
    · rename_i b hb
      have w1 : wf S.length (.ref n) = true := List.all_eq_true.mp w _ (List.mem_of_getElem? e1)
      have w2 : wf S.length (.ref m) = true := List.all_eq_true.mp w _ (List.mem_of_getElem? e2)
      obtain ⟨is, hb⟩ := onDraws_at hb
      unfold reprS at hb
      split at hb
      · rename_i d e hd he
        split at hb
        · rename_i c
          cases hb
          obtain ⟨c1, c2⟩ := c
          have ed := samP_eq c1
          subst ed
          obtain ⟨a1, a2⟩ := ba c2
          obtain ⟨a2, a3⟩ := ba a2
          have a4 : d.shown.length ≤ 100000 := by
            revert a3
            cases z : bdP d with
            | none => exact fun q => nomatch q
            | some n => exact fun q => Nat.le_trans (bdP_ok z) (of_decide_eq_true q)
          have g1 : (dSt K ρ σ)[i]? = some (some (dV K ρ (.ref n))) := by
            unfold dSt
            rw [List.getElem?_map, e1]
            rfl
          have g2 : (dSt K ρ σ)[j]? = some (some (dV K ρ (.ref m))) := by
            unfold dSt
            rw [List.getElem?_map, e2]
            rfl
          refine ⟨_, g1, _, d, rfl, (datE_ok R w1 hd).2, a1, of_decide_eq_true a2, Nat.le_trans a4 (by decide), ?_⟩
          refine ⟨_, g2, _, d, rfl, (datE_ok R w2 he).2, a1, of_decide_eq_true a2, Nat.le_trans a4 (by decide), ?_⟩
          have hd2 : decide (V.str d.shown = V.str d.shown) = true := decide_eq_true rfl
          have z := ret_post (E := E) h R p
          cases neg with
          | true =>
            refine ⟨rfl, ?_⟩
            rw [hd2]
            exact z
          | false =>
            refine ⟨rfl, ?_⟩
            rw [hd2]
            exact z
        · cases hb
      · cases hb
    · cases h
  · cases h
instance (priority := 1300) (i j : Nat) : EvE K E (tOp rNe (tCB rReprG (tCons (tVar i) tNil)) (tCB rReprG (tCons (tVar j) tNil))) := ⟨reprRunS true i j, fun h _ => reprS_good h, fun h w R p => reprS_ok (K := K) (E := E) true i j h w R p⟩
instance (priority := 1300) (i j : Nat) : EvE K E (tOp rEq (tCB rReprG (tCons (tVar i) tNil)) (tCB rReprG (tCons (tVar j) tNil))) := ⟨reprRunS false i j, fun h _ => reprS_good h, fun h w R p => reprS_ok (K := K) (E := E) false i j h w R p⟩
end RunX
set_option maxHeartbeats 16000000
set_option synthInstance.maxSize 100000
set_option synthInstance.maxHeartbeats 16000000
namespace K7
open PySem PySem.Spec PyProof.Rows L2 He Hx Hy PO RunX PB NKx MetX
section
variable [Drw] [Cbv] {K : PySem.W.Frag} {mg : Str → Option Value} {base : Heap}
/-- the table of the lambdas that _law_right makes -/
structure RtT (K : PySem.W.Frag) (mg : Str → Option Value) (base : Heap) : Prop where
  tb : LamX.TabB base mg (lawCode "_law_right" K) (lawTab "_law_right" K)
  mem : (lawTab "_law_right" K, ("_law_right.<locals>.<lambda>" : Str)) ∈ Drw.tabs
  uni : ∀ p ∈ Drw.tabs, p.1 = lawTab "_law_right" K → p.2 = ("_law_right.<locals>.<lambda>" : Str)
  hF : Drw.F = F7
def calls7 (K : PySem.W.Frag) : List (Str × DefR) := [("one_path_paper", D_one_path_paper K), ("doubling_states", D_doubling_states K), ("linked_pairs", D_linked_pairs K), ("growth", D_growth K), ("growth_paper", D_growth_paper K), ("most_paths", D_most_paths K), ("is_one_path_paper", D_is_one_path_paper K), ("is_growth_paper", D_is_growth_paper K)]
theorem ok_loneD (T : Tx K mg) (hF : Drw.F = F7) : Has Drw.prog Drw.wld K mg base (L2.CX Drw.prog Drw.wld) 2 "_law_one" ["sack", "items"] (spPickF K Drw.F) := by
  rw [hF]
  exact ok_lone T
theorem scall (T : Tx K mg) (TD : DcT K mg base) : ∀ f sp, SCallL K (calls7 K) f sp → ∃ j, j ≤ 9 ∧ ∃ ps, HasA Drw.prog Drw.wld K mg base (L2.CX Drw.prog Drw.wld) j f ps sp := fun f sp h => by
  obtain ⟨p, hp, rfl, rfl⟩ := h
  simp only [calls7, List.mem_cons, List.not_mem_nil, or_false] at hp
  rcases hp with rfl | rfl | rfl | rfl | rfl | rfl | rfl | rfl
  · exact ⟨_, by decide, _, (ok_one_path_paper (base := base) T).2⟩
  · exact ⟨_, by decide, _, (ok_doubling_states (base := base) T).2⟩
  · exact ⟨_, by decide, _, (ok_linked_pairs (base := base) T).2⟩
  · exact ⟨_, by decide, _, (ok_growth (base := base) T).2⟩
  · exact ⟨_, by decide, _, (ok_growth_paper (base := base) T).2⟩
  · exact ⟨_, by decide, _, (ok_most_paths (base := base) T TD).2⟩
  · exact ⟨_, by decide, _, (ok_is_one_path_paper (base := base) T).2⟩
  · exact ⟨_, by decide, _, (ok_is_growth_paper (base := base) T).2⟩
instance {E : XK} : EvE K E (LamX.tLam Drw.tabs (TTof K raisN arms7) fun E => tCall (spOf K (D_most_paths K)) [] E (tCons (tMake (ga K (Str.ofString "Rewriter")) (spOf K (D_rwInit K)) [] E (tCons (tC (V.str (Str.ofString "a"))) (tCons (tDisp [ (tC (V.int 0) , tC (V.str (Str.ofString ""))) ]) (tCons (tTup (tCons (tTup (tCons (tC (V.int 0)) (tCons (tC (V.str (Str.ofString "a"))) (tCons (tC (V.str (Str.ofString ""))) (tCons (tC (V.int 0)) tNil))))) (tCons (tTup (tCons (tC (V.int 0)) (tCons (tC (V.str (Str.ofString "a"))) (tCons (tC (V.str (Str.ofString ""))) (tCons (tC (V.int 1)) tNil))))) (tCons (tTup (tCons (tC (V.int 1)) (tCons (tC (V.str (Str.ofString "a"))) (tCons (tC (V.str (Str.ofString ""))) (tCons (tC (V.int 1)) tNil))))) tNil)))) (tCons (tDisp [ (tC (V.int 1) , tC (V.str (Str.ofString ""))) ]) tNil))))) tNil)) := letI u : ∀ E : XK, SameRun (inferInstance : EvE K E (tCall (spOf K (D_most_paths K)) [] E (tCons (tMake (ga K (Str.ofString "Rewriter")) (spOf K (D_rwInit K)) [] E (tCons (tC (V.str (Str.ofString "a"))) (tCons (tDisp [ (tC (V.int 0) , tC (V.str (Str.ofString ""))) ]) (tCons (tTup (tCons (tTup (tCons (tC (V.int 0)) (tCons (tC (V.str (Str.ofString "a"))) (tCons (tC (V.str (Str.ofString ""))) (tCons (tC (V.int 0)) tNil))))) (tCons (tTup (tCons (tC (V.int 0)) (tCons (tC (V.str (Str.ofString "a"))) (tCons (tC (V.str (Str.ofString ""))) (tCons (tC (V.int 1)) tNil))))) (tCons (tTup (tCons (tC (V.int 1)) (tCons (tC (V.str (Str.ofString "a"))) (tCons (tC (V.str (Str.ofString ""))) (tCons (tC (V.int 1)) tNil))))) tNil)))) (tCons (tDisp [ (tC (V.int 1) , tC (V.str (Str.ofString ""))) ]) tNil))))) tNil))).run (inferInstance : EvE K EN (tCall (spOf K (D_most_paths K)) [] EN (tCons (tMake (ga K (Str.ofString "Rewriter")) (spOf K (D_rwInit K)) [] EN (tCons (tC (V.str (Str.ofString "a"))) (tCons (tDisp [ (tC (V.int 0) , tC (V.str (Str.ofString ""))) ]) (tCons (tTup (tCons (tTup (tCons (tC (V.int 0)) (tCons (tC (V.str (Str.ofString "a"))) (tCons (tC (V.str (Str.ofString ""))) (tCons (tC (V.int 0)) tNil))))) (tCons (tTup (tCons (tC (V.int 0)) (tCons (tC (V.str (Str.ofString "a"))) (tCons (tC (V.str (Str.ofString ""))) (tCons (tC (V.int 1)) tNil))))) (tCons (tTup (tCons (tC (V.int 1)) (tCons (tC (V.str (Str.ofString "a"))) (tCons (tC (V.str (Str.ofString ""))) (tCons (tC (V.int 1)) tNil))))) tNil)))) (tCons (tDisp [ (tC (V.int 1) , tC (V.str (Str.ofString ""))) ]) tNil))))) tNil))).run := fun E => ⟨rfl⟩; inferInstance
instance {E : XK} : EvE K E (LamX.tLam Drw.tabs (TTof K raisN arms7) fun E => tCall (spOf K (D_most_paths K)) [] E (tCons (tMake (ga K (Str.ofString "Rewriter")) (spOf K (D_rwInit K)) [] E (tCons (tC (V.str (Str.ofString "a"))) (tCons (tDisp [ (tC (V.int 0) , tC (V.str (Str.ofString ""))) ]) (tCons (tTup (tCons (tTup (tCons (tC (V.int 0)) (tCons (tC (V.str (Str.ofString "a"))) (tCons (tC (V.str (Str.ofString ""))) (tCons (tC (V.int 0)) tNil))))) (tCons (tTup (tCons (tC (V.int 0)) (tCons (tC (V.str (Str.ofString "a"))) (tCons (tC (V.str (Str.ofString "a"))) (tCons (tC (V.int 0)) tNil))))) tNil))) (tCons (tDisp [ (tC (V.int 0) , tC (V.str (Str.ofString ""))) ]) tNil))))) tNil)) := letI u : ∀ E : XK, SameRun (inferInstance : EvE K E (tCall (spOf K (D_most_paths K)) [] E (tCons (tMake (ga K (Str.ofString "Rewriter")) (spOf K (D_rwInit K)) [] E (tCons (tC (V.str (Str.ofString "a"))) (tCons (tDisp [ (tC (V.int 0) , tC (V.str (Str.ofString ""))) ]) (tCons (tTup (tCons (tTup (tCons (tC (V.int 0)) (tCons (tC (V.str (Str.ofString "a"))) (tCons (tC (V.str (Str.ofString ""))) (tCons (tC (V.int 0)) tNil))))) (tCons (tTup (tCons (tC (V.int 0)) (tCons (tC (V.str (Str.ofString "a"))) (tCons (tC (V.str (Str.ofString "a"))) (tCons (tC (V.int 0)) tNil))))) tNil))) (tCons (tDisp [ (tC (V.int 0) , tC (V.str (Str.ofString ""))) ]) tNil))))) tNil))).run (inferInstance : EvE K EN (tCall (spOf K (D_most_paths K)) [] EN (tCons (tMake (ga K (Str.ofString "Rewriter")) (spOf K (D_rwInit K)) [] EN (tCons (tC (V.str (Str.ofString "a"))) (tCons (tDisp [ (tC (V.int 0) , tC (V.str (Str.ofString ""))) ]) (tCons (tTup (tCons (tTup (tCons (tC (V.int 0)) (tCons (tC (V.str (Str.ofString "a"))) (tCons (tC (V.str (Str.ofString ""))) (tCons (tC (V.int 0)) tNil))))) (tCons (tTup (tCons (tC (V.int 0)) (tCons (tC (V.str (Str.ofString "a"))) (tCons (tC (V.str (Str.ofString "a"))) (tCons (tC (V.int 0)) tNil))))) tNil))) (tCons (tDisp [ (tC (V.int 0) , tC (V.str (Str.ofString ""))) ]) tNil))))) tNil))).run := fun E => ⟨rfl⟩; inferInstance
abbrev st0 (K : PySem.W.Frag) : TS := tAsg (tCall (spPickF K Drw.F) [] E0 (tCons (tVar 0) (tCons (tLst (tCons (tC V.non) (tCons (tTup tNil) (tCons (tC (V.int 0)) (tCons (tC (V.str (Str.ofString "rewriter"))) (tCons (tTup (tCons (tC (V.str (Str.ofString "ab"))) (tCons tDNewK (tCons (tTup tNil) (tCons tDNewK tNil))))) (tCons (tLst (tCons (tC (V.int 1)) tNil)) (tCons tDNewK (tCons (tC (V.bl true)) tNil))))))))) tNil))) (gName 1)
def i_0 (K : PySem.W.Frag) : EvS K EN (st0 K) := inferInstance
abbrev st1 (K : PySem.W.Frag) : TS := tAsg (tMake (ga K (Str.ofString "Rewriter")) (spOf K (D_rwInit K)) [] E0 (tCons (tC (V.str (Str.ofString "ab"))) (tCons (tDisp [ (tC (V.int 0) , tC (V.str (Str.ofString ""))) ]) (tCons (tTup (tCons (tTup (tCons (tC (V.int 0)) (tCons (tC (V.str (Str.ofString "a"))) (tCons (tC (V.str (Str.ofString "ab"))) (tCons (tC (V.int 1)) tNil))))) (tCons (tTup (tCons (tC (V.int 1)) (tCons (tC (V.str (Str.ofString "b"))) (tCons (tC (V.str (Str.ofString ""))) (tCons (tC (V.int 0)) tNil))))) tNil))) (tCons (tDisp [ (tC (V.int 0) , tC (V.str (Str.ofString ""))) , (tC (V.int 1) , tC (V.str (Str.ofString "a"))) ]) tNil))))) (gName 2)
def i_1 (K : PySem.W.Frag) : EvS K EN (st1 K) := inferInstance
abbrev st2 (K : PySem.W.Frag) : TS := tAsg (tCall (spPickF K Drw.F) [] E0 (tCons (tVar 0) (tCons (tLst (tCons (tC V.non) (tCons (tC (V.int 5)) (tCons (tTup (tCons (tC (V.str (Str.ofString "a"))) tNil)) (tCons (tLst (tCons (tC (V.str (Str.ofString "a"))) tNil)) (tCons (tC (V.str (Str.ofString "A"))) (tCons (tC (V.str (Str.ofString "a b"))) (tCons (tOp rRepS (tC (V.str (Str.ofString "a"))) (tC (V.int 61))) (tCons (tC (V.str (Str.ofString "a-"))) (tCons tDNewK tNil)))))))))) tNil))) (gName 3)
def i_2 (K : PySem.W.Frag) : EvS K EN (st2 K) := inferInstance
abbrev st3 (K : PySem.W.Frag) : TS := tAsg (tTup (tCons (tCall (spPickF K Drw.F) [] E0 (tCons (tVar 0) (tCons (tLst (tCons (tC V.non) (tCons (tUn (rU fun i => V.int (-i)) (tC (V.int 1))) (tCons (tC (V.int 61)) (tCons (tC (V.bl true)) (tCons (tC (V.str (Str.ofString "3"))) (tCons (tTup (tCons (tC (V.int 3)) tNil)) (tCons (tOp (rI CPow fun i j => V.int (i ^ j.toNat)) (tC (V.int 10)) (tC (V.int 30))) tNil)))))))) tNil))) (tCons (tCall (spPickF K Drw.F) [] E0 (tCons (tVar 0) (tCons (tLst (tCons (tC V.non) (tCons (tUn (rU fun i => V.int (-i)) (tC (V.int 1))) (tCons (tC (V.int 9)) (tCons (tC (V.bl true)) (tCons (tC (V.str (Str.ofString "3"))) (tCons (tTup (tCons (tC (V.int 3)) tNil)) (tCons (tC (V.int 60)) tNil)))))))) tNil))) tNil))) (gTup K 2 (gCons (gName 4) (gCons (gName 5) gNil)))
def i_3 (K : PySem.W.Frag) : EvS K EN (st3 K) := inferInstance
abbrev st4 (K : PySem.W.Frag) : TS := tPar 6 7 (tCons (tLst tNil) (tCons (tLst tNil) tNil))
def i_4 (K : PySem.W.Frag) : EvS K EN (st4 K) := inferInstance
abbrev st5 (K : PySem.W.Frag) : TS := tFor (iTup K (tTup (tCons (tC (V.ref (ga K (Str.ofString "one_path_paper")))) (tCons (tC (V.ref (ga K (Str.ofString "doubling_states")))) (tCons (tC (V.ref (ga K (Str.ofString "linked_pairs")))) (tCons (tC (V.ref (ga K (Str.ofString "growth")))) (tCons (tC (V.ref (ga K (Str.ofString "growth_paper")))) (tCons (tC (V.ref (ga K (Str.ofString "most_paths")))) tNil)))))))) (gName 8) (tSeq (tDrop (tBM K "list" rAppend (tVar 6) (tCons (LamX.tLam Drw.tabs (TTof K raisN arms7) fun E => tCallZ 8 (SCallL K (calls7 K)) E (tCons (tVar 1) tNil)) tNil))) (tDrop (tBM K "list" rAppend (tVar 7) (tCons (tC (V.str (Str.ofString "rewriter"))) tNil))))
def i_5 (K : PySem.W.Frag) : EvS K EN (st5 K) := inferInstance
abbrev st6 (K : PySem.W.Frag) : TS := tFor (iTup K (tTup (tCons (tC (V.ref (ga K (Str.ofString "is_one_path_paper")))) (tCons (tC (V.ref (ga K (Str.ofString "is_growth_paper")))) tNil)))) (gName 8) (tSeq (tDrop (tBM K "list" rAppend (tVar 6) (tCons (LamX.tLam Drw.tabs (TTof K raisN arms7) fun E => tCallZ 8 (SCallL K (calls7 K)) E (tCons (tVar 1) (tCons (tC V.non) tNil))) tNil))) (tDrop (tBM K "list" rAppend (tVar 7) (tCons (tC (V.str (Str.ofString "rewriter"))) tNil))))
def i_6 (K : PySem.W.Frag) : EvS K EN (st6 K) := inferInstance
abbrev st7 (K : PySem.W.Frag) : TS := tDrop (tBM K "list" rAppend (tVar 6) (tCons (LamX.tLam Drw.tabs (TTof K raisN arms7) fun E => tCall (spOf K (D_count_paths K)) [] E (tCons (tVar 1) (tCons (tVar 3) tNil))) tNil))
def i_7 (K : PySem.W.Frag) : EvS K EN (st7 K) := inferInstance
abbrev st8 (K : PySem.W.Frag) : TS := tDrop (tBM K "list" rAppend (tVar 6) (tCons (LamX.tLam Drw.tabs (TTof K raisN arms7) fun E => tCall (spOf K (D_count_paths K)) [] E (tCons (tVar 2) (tCons (tVar 3) tNil))) tNil))
def i_8 (K : PySem.W.Frag) : EvS K EN (st8 K) := inferInstance
abbrev st9 (K : PySem.W.Frag) : TS := tDrop (tBM K "list" rAppend (tVar 6) (tCons (LamX.tLam Drw.tabs (TTof K raisN arms7) fun E => tCall (spOf K (D_count_paths K)) [] E (tCons (tVar 2) (tCons (tC (V.str (Str.ofString "abc"))) tNil))) tNil))
def i_9 (K : PySem.W.Frag) : EvS K EN (st9 K) := inferInstance
abbrev st10 (K : PySem.W.Frag) : TS := tDrop (tBM K "list" rAppend (tVar 6) (tCons (LamX.tLam Drw.tabs (TTof K raisN arms7) fun E => tCall (spOf K (D_counts_of K)) [] E (tCons (tVar 1) (tCons (tVar 5) tNil))) tNil))
def i_10 (K : PySem.W.Frag) : EvS K EN (st10 K) := inferInstance
abbrev st11 (K : PySem.W.Frag) : TS := tDrop (tBM K "list" rAppend (tVar 6) (tCons (LamX.tLam Drw.tabs (TTof K raisN arms7) fun E => tCall (spOf K (D_counts_of K)) [] E (tCons (tVar 2) (tCons (tVar 5) tNil))) tNil))
def i_11 (K : PySem.W.Frag) : EvS K EN (st11 K) := inferInstance
abbrev st12 (K : PySem.W.Frag) : TS := tDrop (tBM K "list" rAppend (tVar 6) (tCons (LamX.tLam Drw.tabs (TTof K raisN arms7) fun E => tCall (spOf K (D_paths_with K)) [] E (tCons (tVar 1) (tCons (tVar 4) tNil))) tNil))
def i_12 (K : PySem.W.Frag) : EvS K EN (st12 K) := inferInstance
abbrev st13 (K : PySem.W.Frag) : TS := tDrop (tBM K "list" rAppend (tVar 6) (tCons (LamX.tLam Drw.tabs (TTof K raisN arms7) fun E => tCall (spOf K (D_paths_with K)) [] E (tCons (tVar 2) (tCons (tVar 4) tNil))) tNil))
def i_13 (K : PySem.W.Frag) : EvS K EN (st13 K) := inferInstance
abbrev st14 (K : PySem.W.Frag) : TS := tAsg (tOp rCat (tVar 7) (tLst (tCons (tC (V.str (Str.ofString "rewriter"))) (tCons (tC (V.str (Str.ofString "text"))) (tCons (tC (V.str (Str.ofString "operation"))) (tCons (tC (V.str (Str.ofString "rewriter"))) (tCons (tTup (tCons (tC (V.str (Str.ofString "number"))) (tCons (tVar 5) tNil))) (tCons (tC (V.str (Str.ofString "rewriter"))) (tCons (tTup (tCons (tC (V.str (Str.ofString "number"))) (tCons (tVar 4) tNil))) tNil))))))))) (gName 7)
def i_14 (K : PySem.W.Frag) : EvS K EN (st14 K) := inferInstance
abbrev st15 (K : PySem.W.Frag) : TS := tDrop (tBM K "list" rAppend (tVar 6) (tCons (LamX.tLam Drw.tabs (TTof K raisN arms7) fun E => tCall (spOf K (D_most_paths K)) [] E (tCons (tMake (ga K (Str.ofString "Rewriter")) (spOf K (D_rwInit K)) [] E (tCons (tC (V.str (Str.ofString "a"))) (tCons (tDisp [ (tC (V.int 0) , tC (V.str (Str.ofString ""))) ]) (tCons (tTup (tCons (tTup (tCons (tC (V.int 0)) (tCons (tC (V.str (Str.ofString "a"))) (tCons (tC (V.str (Str.ofString ""))) (tCons (tC (V.int 0)) tNil))))) (tCons (tTup (tCons (tC (V.int 0)) (tCons (tC (V.str (Str.ofString "a"))) (tCons (tC (V.str (Str.ofString ""))) (tCons (tC (V.int 1)) tNil))))) (tCons (tTup (tCons (tC (V.int 1)) (tCons (tC (V.str (Str.ofString "a"))) (tCons (tC (V.str (Str.ofString ""))) (tCons (tC (V.int 1)) tNil))))) tNil)))) (tCons (tDisp [ (tC (V.int 1) , tC (V.str (Str.ofString ""))) ]) tNil))))) tNil)) tNil))
def i_15 (K : PySem.W.Frag) : EvS K EN (st15 K) := inferInstance
abbrev st16 (K : PySem.W.Frag) : TS := tDrop (tBM K "list" rAppend (tVar 6) (tCons (LamX.tLam Drw.tabs (TTof K raisN arms7) fun E => tCall (spOf K (D_most_paths K)) [] E (tCons (tMake (ga K (Str.ofString "Rewriter")) (spOf K (D_rwInit K)) [] E (tCons (tC (V.str (Str.ofString "a"))) (tCons (tDisp [ (tC (V.int 0) , tC (V.str (Str.ofString ""))) ]) (tCons (tTup (tCons (tTup (tCons (tC (V.int 0)) (tCons (tC (V.str (Str.ofString "a"))) (tCons (tC (V.str (Str.ofString ""))) (tCons (tC (V.int 0)) tNil))))) (tCons (tTup (tCons (tC (V.int 0)) (tCons (tC (V.str (Str.ofString "a"))) (tCons (tC (V.str (Str.ofString "a"))) (tCons (tC (V.int 0)) tNil))))) tNil))) (tCons (tDisp [ (tC (V.int 0) , tC (V.str (Str.ofString ""))) ]) tNil))))) tNil)) tNil))
def i_16 (K : PySem.W.Frag) : EvS K EN (st16 K) := inferInstance
abbrev st17 (K : PySem.W.Frag) : TS := tAsg (tOp rCat (tVar 7) (tLst (tCons (tC (V.str (Str.ofString "operation"))) (tCons (tC (V.str (Str.ofString "operation"))) tNil)))) (gName 7)
def i_17 (K : PySem.W.Frag) : EvS K EN (st17 K) := inferInstance
abbrev st18 (K : PySem.W.Frag) : TS := tIfS (tTest (tOp rNe (tCB rReprG (tCons (tVar 6) tNil)) (tCB rReprG (tCons (tVar 7) tNil)))) (tRet (tC (V.bl false))) tNext
def i_18 (K : PySem.W.Frag) : EvS K EN (st18 K) := inferInstance
abbrev st19 (K : PySem.W.Frag) : TS := tAsg (tLst (tCons (tVar 1) (tCons (tVar 3) (tCons (tVar 4) (tCons tDNewK (tCons (tLst (tCons (tLst tNil) tNil)) (tCons (tDisp [ (tC (V.str (Str.ofString "a")) , tC (V.int 1)) ]) (tCons (tTup (tCons (tC (V.str (Str.ofString "one"))) (tCons tDNewK tNil))) (tCons (tTup (tCons (tC (V.str (Str.ofString "one"))) (tCons (tTup (tCons tDNewK tNil)) tNil))) (tCons (tTup (tCons (tC (V.str (Str.ofString "two"))) (tCons tDNewK (tCons (tTup tNil) (tCons (tTup tNil) tNil))))) (tCons (tTup (tCons (tC (V.str (Str.ofString "grows"))) (tCons tDNewK (tCons tDNewK tNil)))) (tCons (tTup (tCons (tC (V.str (Str.ofString "grows"))) (tCons (tTup (tCons tDNewK tNil)) (tCons (tDisp [ (tC (V.int 0) , tDNewK) ]) tNil)))) tNil)))))))))))) (gName 9)
def i_19 (K : PySem.W.Frag) : EvS K EN (st19 K) := inferInstance
abbrev st20 (K : PySem.W.Frag) : TS := tFor (iList K (tOp rCat (tVar 9) (tLst (tCons (tTup (tCons (tC (V.str (Str.ofString "doubling"))) (tCons (tC (V.int 0)) (tCons tDNewK (tCons tDNewK tNil))))) (tCons (tTup (tCons (tC (V.str (Str.ofString "two"))) (tCons (tC (V.str (Str.ofString "a"))) (tCons (tC V.non) (tCons (tC V.non) tNil))))) (tCons (tTup (tCons (tC (V.str (Str.ofString "grows"))) (tCons (tTup (tCons (tTup (tCons (tC (V.int 0)) (tCons (tC (V.int 1)) (tCons tDNewK tNil)))) tNil)) (tCons tDNewK tNil)))) tNil)))))) (gName 10) (tFor (iTup K (tTup (tCons (tC (V.ref (ga K (Str.ofString "is_one_path_paper")))) (tCons (tC (V.ref (ga K (Str.ofString "is_growth_paper")))) tNil)))) (gName 8) (tIfS (tTest (tOp (rNeD K) (LamX.tLam Drw.tabs (TTof K raisN arms7) fun E => tCallZ 8 (SCallL K (calls7 K)) E (tCons (tVar 2) (tCons (tVar 10) tNil))) (tTup (tCons (tC (V.str (Str.ofString "told"))) (tCons (tC (V.bl false)) tNil))))) (tRet (tC (V.bl false))) tNext))
def i_20 (K : PySem.W.Frag) : EvS K EN (st20 K) := inferInstance
abbrev st21 (K : PySem.W.Frag) : TS := tRet (tC (V.bl true))
def i_21 (K : PySem.W.Frag) : EvS K EN (st21 K) := inferInstance
def seqI {K : PySem.W.Frag} {E : XK} {t u : TS} (a : EvS K E t) (b : EvS K E u) : EvS K E (tSeq t u) := inferInstance
abbrev rest21 (K : PySem.W.Frag) : TS := st21 K
def r_21 (K : PySem.W.Frag) : EvS K EN (rest21 K) := i_21 K
abbrev rest20 (K : PySem.W.Frag) : TS := tSeq (st20 K) (rest21 K)
def r_20 (K : PySem.W.Frag) : EvS K EN (rest20 K) := seqI (i_20 K) (r_21 K)
abbrev rest19 (K : PySem.W.Frag) : TS := tSeq (st19 K) (rest20 K)
def r_19 (K : PySem.W.Frag) : EvS K EN (rest19 K) := seqI (i_19 K) (r_20 K)
abbrev rest18 (K : PySem.W.Frag) : TS := tSeq (st18 K) (rest19 K)
def r_18 (K : PySem.W.Frag) : EvS K EN (rest18 K) := seqI (i_18 K) (r_19 K)
abbrev rest17 (K : PySem.W.Frag) : TS := tSeq (st17 K) (rest18 K)
def r_17 (K : PySem.W.Frag) : EvS K EN (rest17 K) := seqI (i_17 K) (r_18 K)
abbrev rest16 (K : PySem.W.Frag) : TS := tSeq (st16 K) (rest17 K)
def r_16 (K : PySem.W.Frag) : EvS K EN (rest16 K) := seqI (i_16 K) (r_17 K)
abbrev rest15 (K : PySem.W.Frag) : TS := tSeq (st15 K) (rest16 K)
def r_15 (K : PySem.W.Frag) : EvS K EN (rest15 K) := seqI (i_15 K) (r_16 K)
abbrev rest14 (K : PySem.W.Frag) : TS := tSeq (st14 K) (rest15 K)
def r_14 (K : PySem.W.Frag) : EvS K EN (rest14 K) := seqI (i_14 K) (r_15 K)
abbrev rest13 (K : PySem.W.Frag) : TS := tSeq (st13 K) (rest14 K)
def r_13 (K : PySem.W.Frag) : EvS K EN (rest13 K) := seqI (i_13 K) (r_14 K)
abbrev rest12 (K : PySem.W.Frag) : TS := tSeq (st12 K) (rest13 K)
def r_12 (K : PySem.W.Frag) : EvS K EN (rest12 K) := seqI (i_12 K) (r_13 K)
abbrev rest11 (K : PySem.W.Frag) : TS := tSeq (st11 K) (rest12 K)
def r_11 (K : PySem.W.Frag) : EvS K EN (rest11 K) := seqI (i_11 K) (r_12 K)
abbrev rest10 (K : PySem.W.Frag) : TS := tSeq (st10 K) (rest11 K)
def r_10 (K : PySem.W.Frag) : EvS K EN (rest10 K) := seqI (i_10 K) (r_11 K)
abbrev rest9 (K : PySem.W.Frag) : TS := tSeq (st9 K) (rest10 K)
def r_9 (K : PySem.W.Frag) : EvS K EN (rest9 K) := seqI (i_9 K) (r_10 K)
abbrev rest8 (K : PySem.W.Frag) : TS := tSeq (st8 K) (rest9 K)
def r_8 (K : PySem.W.Frag) : EvS K EN (rest8 K) := seqI (i_8 K) (r_9 K)
abbrev rest7 (K : PySem.W.Frag) : TS := tSeq (st7 K) (rest8 K)
def r_7 (K : PySem.W.Frag) : EvS K EN (rest7 K) := seqI (i_7 K) (r_8 K)
abbrev rest6 (K : PySem.W.Frag) : TS := tSeq (st6 K) (rest7 K)
def r_6 (K : PySem.W.Frag) : EvS K EN (rest6 K) := seqI (i_6 K) (r_7 K)
abbrev rest5 (K : PySem.W.Frag) : TS := tSeq (st5 K) (rest6 K)
def r_5 (K : PySem.W.Frag) : EvS K EN (rest5 K) := seqI (i_5 K) (r_6 K)
abbrev rest4 (K : PySem.W.Frag) : TS := tSeq (st4 K) (rest5 K)
def r_4 (K : PySem.W.Frag) : EvS K EN (rest4 K) := seqI (i_4 K) (r_5 K)
abbrev rest3 (K : PySem.W.Frag) : TS := tSeq (st3 K) (rest4 K)
def r_3 (K : PySem.W.Frag) : EvS K EN (rest3 K) := seqI (i_3 K) (r_4 K)
abbrev rest2 (K : PySem.W.Frag) : TS := tSeq (st2 K) (rest3 K)
def r_2 (K : PySem.W.Frag) : EvS K EN (rest2 K) := seqI (i_2 K) (r_3 K)
abbrev rest1 (K : PySem.W.Frag) : TS := tSeq (st1 K) (rest2 K)
def r_1 (K : PySem.W.Frag) : EvS K EN (rest1 K) := seqI (i_1 K) (r_2 K)
abbrev rest0 (K : PySem.W.Frag) : TS := tSeq (st0 K) (rest1 K)
def r_0 (K : PySem.W.Frag) : EvS K EN (rest0 K) := seqI (i_0 K) (r_1 K)
abbrev ts_right (K : PySem.W.Frag) : TS := rest0 K
def D_right (K : PySem.W.Frag) : DefR := bodyR (K := K) ["sack", "none", "good", "text", "far", "few", "told", "due", "call", "odd", "value"] ["sack"] (ts_right K) (b := r_0 K)
theorem ok_right (T : Tx K mg) (TD : DcT K mg base) (TR : RtT K mg base) {fd : FuncData} (F : FunD K "_law_right" "_law_right" (defArgs s_right) (defBody s_right) (defScope s_right) [] [] (ga K "_law_right") fd) : FnG Drw.prog Drw.wld K mg base CX0 12 (ga K "_law_right") fd ["sack"] (fun vs H Q _ => spOf K (D_right K) vs H Q EN) := by
  obtain ⟨g_lone, k_lone, fd_lone, G_lone, b_lone⟩ := ok_loneD (base := base) T TR.hF
  obtain ⟨g_count_paths, k_count_paths, fd_count_paths, G_count_paths, b_count_paths⟩ := ok_count_paths (base := base) T
  obtain ⟨g_counts_of, k_counts_of, fd_counts_of, G_counts_of, b_counts_of⟩ := ok_counts_of (base := base) T
  obtain ⟨g_most_paths, k_most_paths, fd_most_paths, G_most_paths, b_most_paths⟩ := ok_most_paths (base := base) T TD
  obtain ⟨g_paths_with, k_paths_with, fd_paths_with, G_paths_with, b_paths_with⟩ := ok_paths_with (base := base) T
  obtain ⟨k_rwInit, fd_rwInit, G_rwInit, b_rwInit⟩ := ok_rwInit (base := base) T
  obtain ⟨fd_t, F_t⟩ := T.fn_met
  have k_t : PySem.W.keepIn K (.ref (ga K "_law_met")) = true := F_t.kp
  have b_t : L2.Binds K fd_t ["call"] [] := F_t.bindsN (fun _ _ _ _ _ _ us hl => match us, hl with | [_], _ => rfl)
  obtain ⟨oc_t, od_t, dV_t, kV_t, doc_t, pm_t, an_t, cdv_t, ct_t, osl_t, e_t, lk_t, hcd_t, _, _⟩ := F_t.ex
  subst e_t
  exact fnG_at F (lawCode_of F) sc_right (fun vs H Q E h => body_len h) (fun A outer s H vs Q E hg hr h => ⟨_, PSs.nox (
    (pss_cons (ps_set (i := 1) sc_right.nd rfl (Or.inr rfl) (by exact (pe_call (E := E0) G_lone (hr.mono (by decide)) (by rfl) g_lone k_lone b_lone .nil passX0 (pa_cons (pv 0) (pa_cons (pe_lst (pa_cons pe_non (pa_cons (pe_tup pa_nil) (pa_cons pe_int (pa_cons pe_str (pa_cons (pe_tup (pa_cons pe_str (pa_cons pe_dnewK (pa_cons (pe_tup pa_nil) (pa_cons pe_dnewK pa_nil))))) (pa_cons (pe_lst (pa_cons pe_int pa_nil)) (pa_cons pe_dnewK (pa_cons pe_bl pa_nil))))))))) pa_nil)))))
    (pss_cons (ps_set (i := 2) sc_right.nd rfl (Or.inr rfl) (by exact (pe_make (E := E0) (T.c_Rewriter).2 G_rwInit (hr.mono (by decide)) (by rfl) T.g_Rewriter b_rwInit .nil passX0 (pa_cons pe_str (pa_cons (pe_disp (pps_cons pe_int pe_str pps_nil) rfl rfl (by simp) (by decide)) (pa_cons (pe_tup (pa_cons (pe_tup (pa_cons pe_int (pa_cons pe_str (pa_cons pe_str (pa_cons pe_int pa_nil))))) (pa_cons (pe_tup (pa_cons pe_int (pa_cons pe_str (pa_cons pe_str (pa_cons pe_int pa_nil))))) pa_nil))) (pa_cons (pe_disp (pps_cons pe_int pe_str (pps_cons pe_int pe_str pps_nil)) rfl rfl (by simp) (by decide)) pa_nil)))))))
    (pss_cons (ps_set (i := 3) sc_right.nd rfl (Or.inr rfl) (by exact (pe_call (E := E0) G_lone (hr.mono (by decide)) (by rfl) g_lone k_lone b_lone .nil passX0 (pa_cons (pv 0) (pa_cons (pe_lst (pa_cons pe_non (pa_cons pe_int (pa_cons (pe_tup (pa_cons pe_str pa_nil)) (pa_cons (pe_lst (pa_cons pe_str pa_nil)) (pa_cons pe_str (pa_cons pe_str (pa_cons (pe_op op_repS pe_str pe_int) (pa_cons pe_str (pa_cons pe_dnewK pa_nil)))))))))) pa_nil)))))
    (pss_cons (ps_asg (pe_tup (pa_cons (pe_call (E := E0) G_lone (hr.mono (by decide)) (by rfl) g_lone k_lone b_lone .nil passX0 (pa_cons (pv 0) (pa_cons (pe_lst (pa_cons pe_non (pa_cons (pe_un un_neg pe_int) (pa_cons pe_int (pa_cons pe_bl (pa_cons pe_str (pa_cons (pe_tup (pa_cons pe_int pa_nil)) (pa_cons (pe_op op_pow pe_int pe_int) pa_nil)))))))) pa_nil))) (pa_cons (pe_call (E := E0) G_lone (hr.mono (by decide)) (by rfl) g_lone k_lone b_lone .nil passX0 (pa_cons (pv 0) (pa_cons (pe_lst (pa_cons pe_non (pa_cons (pe_un un_neg pe_int) (pa_cons pe_int (pa_cons pe_bl (pa_cons pe_str (pa_cons (pe_tup (pa_cons pe_int pa_nil)) (pa_cons pe_int pa_nil)))))))) pa_nil))) pa_nil))) (pg_tup (n := 2) (by rfl) (pgs_cons (pg_name (i := 4) sc_right.nd rfl (Or.inr rfl)) (pgs_cons (pg_name (i := 5) sc_right.nd rfl (Or.inr rfl)) pgs_nil))))
    (pss_cons (ps_par (i := 6) (j := 7) (by rfl) sc_right.nd rfl rfl (by decide) rfl rfl (pa_cons (pe_lst pa_nil) (pa_cons (pe_lst pa_nil) pa_nil)) (by rfl))
    (pss_cons (ps_for PassesOwn.never rfl (pi_tup (pe_tup (pa_cons (pe_glob (v := .ref (ga K "one_path_paper")) (by rfl) T.g_one_path_paper rfl) (pa_cons (pe_glob (v := .ref (ga K "doubling_states")) (by rfl) T.g_doubling_states rfl) (pa_cons (pe_glob (v := .ref (ga K "linked_pairs")) (by rfl) T.g_linked_pairs rfl) (pa_cons (pe_glob (v := .ref (ga K "growth")) (by rfl) T.g_growth rfl) (pa_cons (pe_glob (v := .ref (ga K "growth_paper")) (by rfl) T.g_growth_paper rfl) (pa_cons (pe_glob (v := .ref (ga K "most_paths")) (by rfl) T.g_most_paths rfl) pa_nil)))))))) (pg_name (i := 8) sc_right.nd rfl (Or.inr rfl)) (pss_cons (ps_expr (pe_bm PySem.F.plainAttrs_list PySem.F.slot_list_append PySem.F.type_list_append mt_append (pv 6) (pa_cons (LamX.pe_lamcall (T := Drw.tabs) (TT := TTof K raisN arms7) (Ng := ["call", "e"]) (a := "call") (k := 9) (by rfl) T.g_met k_t lk_t hcd_t b_t sc_met rfl (Or.inl rfl) (met_gives T rfl rfl) TR.tb rfl TR.mem TR.uni (hr.mono (by decide)) (LamX.lamS_by (sc := defScope s_right) (by decide +kernel)) rfl (fun _ _ _ _ _ => rfl) (fun A outer s H E f c' hr2 => (pe_callZ (i := 8) (E := E) (scall T TD) (hr2.mono (by decide)) rfl (Or.inr (Or.inr rfl)) (passes_call (takes_of rfl rfl rfl rfl) (fun _ _ _ _ h => h)) (pa_cons (pv 1) pa_nil)))) pa_nil)))
    (pss_one (ps_expr (pe_bm PySem.F.plainAttrs_list PySem.F.slot_list_append PySem.F.type_list_append mt_append (pv 7) (pa_cons pe_str pa_nil))))))
    (pss_cons (ps_for PassesOwn.never rfl (pi_tup (pe_tup (pa_cons (pe_glob (v := .ref (ga K "is_one_path_paper")) (by rfl) T.g_is_one_path_paper rfl) (pa_cons (pe_glob (v := .ref (ga K "is_growth_paper")) (by rfl) T.g_is_growth_paper rfl) pa_nil)))) (pg_name (i := 8) sc_right.nd rfl (Or.inr rfl)) (pss_cons (ps_expr (pe_bm PySem.F.plainAttrs_list PySem.F.slot_list_append PySem.F.type_list_append mt_append (pv 6) (pa_cons (LamX.pe_lamcall (T := Drw.tabs) (TT := TTof K raisN arms7) (Ng := ["call", "e"]) (a := "call") (k := 9) (by rfl) T.g_met k_t lk_t hcd_t b_t sc_met rfl (Or.inl rfl) (met_gives T rfl rfl) TR.tb rfl TR.mem TR.uni (hr.mono (by decide)) (LamX.lamS_by (sc := defScope s_right) (by decide +kernel)) rfl (fun _ _ _ _ _ => rfl) (fun A outer s H E f c' hr2 => (pe_callZ (i := 8) (E := E) (scall T TD) (hr2.mono (by decide)) rfl (Or.inr (Or.inr rfl)) (passes_call (takes_of rfl rfl rfl rfl) (fun _ _ _ _ h => h)) (pa_cons (pv 1) (pa_cons pe_non pa_nil))))) pa_nil)))
    (pss_one (ps_expr (pe_bm PySem.F.plainAttrs_list PySem.F.slot_list_append PySem.F.type_list_append mt_append (pv 7) (pa_cons pe_str pa_nil))))))
    (pss_cons (ps_expr (pe_bm PySem.F.plainAttrs_list PySem.F.slot_list_append PySem.F.type_list_append mt_append (pv 6) (pa_cons (LamX.pe_lamcall (T := Drw.tabs) (TT := TTof K raisN arms7) (Ng := ["call", "e"]) (a := "call") (k := 9) (by rfl) T.g_met k_t lk_t hcd_t b_t sc_met rfl (Or.inl rfl) (met_gives T rfl rfl) TR.tb rfl TR.mem TR.uni (hr.mono (by decide)) (LamX.lamS_by (sc := defScope s_right) (by decide +kernel)) rfl (fun _ _ _ _ _ => rfl) (fun A outer s H E f c' hr2 => (pe_call (E := E) G_count_paths (hr2.mono (by decide)) (by rfl) g_count_paths k_count_paths b_count_paths .nil (passes_call (takes_of rfl rfl rfl rfl) (fun _ _ _ _ h => h)) (pa_cons (pv 1) (pa_cons (pv 3) pa_nil))))) pa_nil)))
    (pss_cons (ps_expr (pe_bm PySem.F.plainAttrs_list PySem.F.slot_list_append PySem.F.type_list_append mt_append (pv 6) (pa_cons (LamX.pe_lamcall (T := Drw.tabs) (TT := TTof K raisN arms7) (Ng := ["call", "e"]) (a := "call") (k := 9) (by rfl) T.g_met k_t lk_t hcd_t b_t sc_met rfl (Or.inl rfl) (met_gives T rfl rfl) TR.tb rfl TR.mem TR.uni (hr.mono (by decide)) (LamX.lamS_by (sc := defScope s_right) (by decide +kernel)) rfl (fun _ _ _ _ _ => rfl) (fun A outer s H E f c' hr2 => (pe_call (E := E) G_count_paths (hr2.mono (by decide)) (by rfl) g_count_paths k_count_paths b_count_paths .nil (passes_call (takes_of rfl rfl rfl rfl) (fun _ _ _ _ h => h)) (pa_cons (pv 2) (pa_cons (pv 3) pa_nil))))) pa_nil)))
    (pss_cons (ps_expr (pe_bm PySem.F.plainAttrs_list PySem.F.slot_list_append PySem.F.type_list_append mt_append (pv 6) (pa_cons (LamX.pe_lamcall (T := Drw.tabs) (TT := TTof K raisN arms7) (Ng := ["call", "e"]) (a := "call") (k := 9) (by rfl) T.g_met k_t lk_t hcd_t b_t sc_met rfl (Or.inl rfl) (met_gives T rfl rfl) TR.tb rfl TR.mem TR.uni (hr.mono (by decide)) (LamX.lamS_by (sc := defScope s_right) (by decide +kernel)) rfl (fun _ _ _ _ _ => rfl) (fun A outer s H E f c' hr2 => (pe_call (E := E) G_count_paths (hr2.mono (by decide)) (by rfl) g_count_paths k_count_paths b_count_paths .nil (passes_call (takes_of rfl rfl rfl rfl) (fun _ _ _ _ h => h)) (pa_cons (pv 2) (pa_cons pe_str pa_nil))))) pa_nil)))
    (pss_cons (ps_expr (pe_bm PySem.F.plainAttrs_list PySem.F.slot_list_append PySem.F.type_list_append mt_append (pv 6) (pa_cons (LamX.pe_lamcall (T := Drw.tabs) (TT := TTof K raisN arms7) (Ng := ["call", "e"]) (a := "call") (k := 9) (by rfl) T.g_met k_t lk_t hcd_t b_t sc_met rfl (Or.inl rfl) (met_gives T rfl rfl) TR.tb rfl TR.mem TR.uni (hr.mono (by decide)) (LamX.lamS_by (sc := defScope s_right) (by decide +kernel)) rfl (fun _ _ _ _ _ => rfl) (fun A outer s H E f c' hr2 => (pe_call (E := E) G_counts_of (hr2.mono (by decide)) (by rfl) g_counts_of k_counts_of b_counts_of .nil (passes_call (takes_of rfl rfl rfl rfl) (fun _ _ _ _ h => h)) (pa_cons (pv 1) (pa_cons (pv 5) pa_nil))))) pa_nil)))
    (pss_cons (ps_expr (pe_bm PySem.F.plainAttrs_list PySem.F.slot_list_append PySem.F.type_list_append mt_append (pv 6) (pa_cons (LamX.pe_lamcall (T := Drw.tabs) (TT := TTof K raisN arms7) (Ng := ["call", "e"]) (a := "call") (k := 9) (by rfl) T.g_met k_t lk_t hcd_t b_t sc_met rfl (Or.inl rfl) (met_gives T rfl rfl) TR.tb rfl TR.mem TR.uni (hr.mono (by decide)) (LamX.lamS_by (sc := defScope s_right) (by decide +kernel)) rfl (fun _ _ _ _ _ => rfl) (fun A outer s H E f c' hr2 => (pe_call (E := E) G_counts_of (hr2.mono (by decide)) (by rfl) g_counts_of k_counts_of b_counts_of .nil (passes_call (takes_of rfl rfl rfl rfl) (fun _ _ _ _ h => h)) (pa_cons (pv 2) (pa_cons (pv 5) pa_nil))))) pa_nil)))
    (pss_cons (ps_expr (pe_bm PySem.F.plainAttrs_list PySem.F.slot_list_append PySem.F.type_list_append mt_append (pv 6) (pa_cons (LamX.pe_lamcall (T := Drw.tabs) (TT := TTof K raisN arms7) (Ng := ["call", "e"]) (a := "call") (k := 9) (by rfl) T.g_met k_t lk_t hcd_t b_t sc_met rfl (Or.inl rfl) (met_gives T rfl rfl) TR.tb rfl TR.mem TR.uni (hr.mono (by decide)) (LamX.lamS_by (sc := defScope s_right) (by decide +kernel)) rfl (fun _ _ _ _ _ => rfl) (fun A outer s H E f c' hr2 => (pe_call (E := E) G_paths_with (hr2.mono (by decide)) (by rfl) g_paths_with k_paths_with b_paths_with .nil (passes_call (takes_of rfl rfl rfl rfl) (fun _ _ _ _ h => h)) (pa_cons (pv 1) (pa_cons (pv 4) pa_nil))))) pa_nil)))
    (pss_cons (ps_expr (pe_bm PySem.F.plainAttrs_list PySem.F.slot_list_append PySem.F.type_list_append mt_append (pv 6) (pa_cons (LamX.pe_lamcall (T := Drw.tabs) (TT := TTof K raisN arms7) (Ng := ["call", "e"]) (a := "call") (k := 9) (by rfl) T.g_met k_t lk_t hcd_t b_t sc_met rfl (Or.inl rfl) (met_gives T rfl rfl) TR.tb rfl TR.mem TR.uni (hr.mono (by decide)) (LamX.lamS_by (sc := defScope s_right) (by decide +kernel)) rfl (fun _ _ _ _ _ => rfl) (fun A outer s H E f c' hr2 => (pe_call (E := E) G_paths_with (hr2.mono (by decide)) (by rfl) g_paths_with k_paths_with b_paths_with .nil (passes_call (takes_of rfl rfl rfl rfl) (fun _ _ _ _ h => h)) (pa_cons (pv 2) (pa_cons (pv 4) pa_nil))))) pa_nil)))
    (pss_cons (ps_set (i := 7) sc_right.nd rfl (Or.inl rfl) (by exact (pe_op op_cat (pv 7) (pe_lst (pa_cons pe_str (pa_cons pe_str (pa_cons pe_str (pa_cons pe_str (pa_cons (pe_tup (pa_cons pe_str (pa_cons (pv 5) pa_nil))) (pa_cons pe_str (pa_cons (pe_tup (pa_cons pe_str (pa_cons (pv 4) pa_nil))) pa_nil)))))))))))
    (pss_cons (ps_expr (pe_bm PySem.F.plainAttrs_list PySem.F.slot_list_append PySem.F.type_list_append mt_append (pv 6) (pa_cons (LamX.pe_lamcall (T := Drw.tabs) (TT := TTof K raisN arms7) (Ng := ["call", "e"]) (a := "call") (k := 9) (by rfl) T.g_met k_t lk_t hcd_t b_t sc_met rfl (Or.inl rfl) (met_gives T rfl rfl) TR.tb rfl TR.mem TR.uni (hr.mono (by decide)) (LamX.lamS_by (sc := defScope s_right) (by decide +kernel)) rfl (fun _ _ _ _ _ => rfl) (fun A outer s H E f c' hr2 => (pe_call (E := E) G_most_paths (hr2.mono (by decide)) (by rfl) g_most_paths k_most_paths b_most_paths .nil (passes_call (takes_of rfl rfl rfl rfl) (fun _ _ _ _ h => h)) (pa_cons (pe_make (E := E) (T.c_Rewriter).2 G_rwInit (hr2.mono (by decide)) (by rfl) T.g_Rewriter b_rwInit .nil (passes_call (takes_of rfl rfl rfl rfl) (fun _ _ _ _ h => h)) (pa_cons pe_str (pa_cons (pe_disp (pps_cons pe_int pe_str pps_nil) rfl rfl (by simp) (by decide)) (pa_cons (pe_tup (pa_cons (pe_tup (pa_cons pe_int (pa_cons pe_str (pa_cons pe_str (pa_cons pe_int pa_nil))))) (pa_cons (pe_tup (pa_cons pe_int (pa_cons pe_str (pa_cons pe_str (pa_cons pe_int pa_nil))))) (pa_cons (pe_tup (pa_cons pe_int (pa_cons pe_str (pa_cons pe_str (pa_cons pe_int pa_nil))))) pa_nil)))) (pa_cons (pe_disp (pps_cons pe_int pe_str pps_nil) rfl rfl (by simp) (by decide)) pa_nil))))) pa_nil)))) pa_nil)))
    (pss_cons (ps_expr (pe_bm PySem.F.plainAttrs_list PySem.F.slot_list_append PySem.F.type_list_append mt_append (pv 6) (pa_cons (LamX.pe_lamcall (T := Drw.tabs) (TT := TTof K raisN arms7) (Ng := ["call", "e"]) (a := "call") (k := 9) (by rfl) T.g_met k_t lk_t hcd_t b_t sc_met rfl (Or.inl rfl) (met_gives T rfl rfl) TR.tb rfl TR.mem TR.uni (hr.mono (by decide)) (LamX.lamS_by (sc := defScope s_right) (by decide +kernel)) rfl (fun _ _ _ _ _ => rfl) (fun A outer s H E f c' hr2 => (pe_call (E := E) G_most_paths (hr2.mono (by decide)) (by rfl) g_most_paths k_most_paths b_most_paths .nil (passes_call (takes_of rfl rfl rfl rfl) (fun _ _ _ _ h => h)) (pa_cons (pe_make (E := E) (T.c_Rewriter).2 G_rwInit (hr2.mono (by decide)) (by rfl) T.g_Rewriter b_rwInit .nil (passes_call (takes_of rfl rfl rfl rfl) (fun _ _ _ _ h => h)) (pa_cons pe_str (pa_cons (pe_disp (pps_cons pe_int pe_str pps_nil) rfl rfl (by simp) (by decide)) (pa_cons (pe_tup (pa_cons (pe_tup (pa_cons pe_int (pa_cons pe_str (pa_cons pe_str (pa_cons pe_int pa_nil))))) (pa_cons (pe_tup (pa_cons pe_int (pa_cons pe_str (pa_cons pe_str (pa_cons pe_int pa_nil))))) pa_nil))) (pa_cons (pe_disp (pps_cons pe_int pe_str pps_nil) rfl rfl (by simp) (by decide)) pa_nil))))) pa_nil)))) pa_nil)))
    (pss_cons (ps_set (i := 7) sc_right.nd rfl (Or.inl rfl) (by exact (pe_op op_cat (pv 7) (pe_lst (pa_cons pe_str (pa_cons pe_str pa_nil))))))
    (pss_cons (ps_if (pt_cmpR op_ne (pe_callB (r := rReprG) (call_reprG T.sys hg hr) (by rfl) T.n_repr (by decide +kernel) (pa_cons (pv 6) pa_nil)) (pe_callB (r := rReprG) (call_reprG T.sys hg hr) (by rfl) T.n_repr (by decide +kernel) (pa_cons (pv 7) pa_nil)) (nomark _)) (pss_one (ps_ret (by exact pe_bl))) pss_nil)
    (pss_cons (ps_set (i := 9) sc_right.nd rfl (Or.inl rfl) (by exact (pe_lst (pa_cons (pv 1) (pa_cons (pv 3) (pa_cons (pv 4) (pa_cons pe_dnewK (pa_cons (pe_lst (pa_cons (pe_lst pa_nil) pa_nil)) (pa_cons (pe_disp (pps_cons pe_str pe_int pps_nil) rfl rfl (by simp) (by decide)) (pa_cons (pe_tup (pa_cons pe_str (pa_cons pe_dnewK pa_nil))) (pa_cons (pe_tup (pa_cons pe_str (pa_cons (pe_tup (pa_cons pe_dnewK pa_nil)) pa_nil))) (pa_cons (pe_tup (pa_cons pe_str (pa_cons pe_dnewK (pa_cons (pe_tup pa_nil) (pa_cons (pe_tup pa_nil) pa_nil))))) (pa_cons (pe_tup (pa_cons pe_str (pa_cons pe_dnewK (pa_cons pe_dnewK pa_nil)))) (pa_cons (pe_tup (pa_cons pe_str (pa_cons (pe_tup (pa_cons pe_dnewK pa_nil)) (pa_cons (pe_disp (pps_cons pe_int pe_dnewK pps_nil) rfl rfl (by simp) (by decide)) pa_nil)))) pa_nil))))))))))))))
    (pss_cons (ps_for PassesOwn.never rfl (pi_list (pe_op op_cat (pv 9) (pe_lst (pa_cons (pe_tup (pa_cons pe_str (pa_cons pe_int (pa_cons pe_dnewK (pa_cons pe_dnewK pa_nil))))) (pa_cons (pe_tup (pa_cons pe_str (pa_cons pe_str (pa_cons pe_non (pa_cons pe_non pa_nil))))) (pa_cons (pe_tup (pa_cons pe_str (pa_cons (pe_tup (pa_cons (pe_tup (pa_cons pe_int (pa_cons pe_int (pa_cons pe_dnewK pa_nil)))) pa_nil)) (pa_cons pe_dnewK pa_nil)))) pa_nil)))))) (pg_name (i := 10) sc_right.nd rfl (Or.inr rfl)) (pss_one (ps_for PassesOwn.never rfl (pi_tup (pe_tup (pa_cons (pe_glob (v := .ref (ga K "is_one_path_paper")) (by rfl) T.g_is_one_path_paper rfl) (pa_cons (pe_glob (v := .ref (ga K "is_growth_paper")) (by rfl) T.g_is_growth_paper rfl) pa_nil)))) (pg_name (i := 8) sc_right.nd rfl (Or.inr rfl)) (pss_one (ps_if (pt_cmpR (r := rNeD K) (op_neD hr.units) (LamX.pe_lamcall (T := Drw.tabs) (TT := TTof K raisN arms7) (Ng := ["call", "e"]) (a := "call") (k := 9) (by rfl) T.g_met k_t lk_t hcd_t b_t sc_met rfl (Or.inl rfl) (met_gives T rfl rfl) TR.tb rfl TR.mem TR.uni (hr.mono (by decide)) (LamX.lamS_by (sc := defScope s_right) (by decide +kernel)) rfl (fun _ _ _ _ _ => rfl) (fun A outer s H E f c' hr2 => (pe_callZ (i := 8) (E := E) (scall T TD) (hr2.mono (by decide)) rfl (Or.inr (Or.inr rfl)) (passes_call (takes_of rfl rfl rfl rfl) (fun _ _ _ _ h => h)) (pa_cons (pv 2) (pa_cons (pv 10) pa_nil))))) (pe_tup (pa_cons pe_str (pa_cons pe_bl pa_nil))) (nomark _)) (pss_one (ps_ret (by exact pe_bl))) pss_nil)))))
    (pss_one (ps_ret (by exact pe_bl))))))))))))))))))))))))), body_ok (K := K) (E := EN) (N := ["sack", "none", "good", "text", "far", "few", "told", "due", "call", "odd", "value"]) (ps := ["sack"]) (ts := ts_right K) (ts' := ts_right K) (b := r_0 K) (c := r_0 K) rfl h⟩)
end
end K7
set_option maxHeartbeats 16000000
namespace K7
open PySem PySem.Spec PyProof.Rows L2 He Hx Hy PO RunX PB NKx MetX
def tabs7 (K : PySem.W.Frag) : List (Addr × Str) := [(lawTab "_law_right" K, "_law_right.<locals>.<lambda>"), (lawTab "double_circles" K, "double_circles.<locals>.<lambda>")]
def tab7 : Nat → List DV
  | 0 => [.non, .ref 1, .int 0, .str "rewriter", .ref 5, .ref 6, .ref 7, .bl true]
  | 1 => [.non, .int 5, .ref 93, .ref 94, .str "A", .str "a b", .str (repStr "a" 61), .str "a-", .ref 95]
  | 2 => [.non, .int (-1), .int 61, .bl true, .str "3", .ref 97, .int 1000000000000000000000000000000]
  | 3 => [.non, .int (-1), .int 9, .bl true, .str "3", .ref 99, .int 60]
  | _ => []
@[reducible] def drw7 (P : Program) (w : World) (K : PySem.W.Frag) (b : Int × Int × Int) : Drw where
  tab := tab7
  ntab := 4
  F := F7
  b0 := b
  fix := fun _ => none
  tabs := tabs7 K
  prog := P
  wld := w
  lam := false
  hF := fun b n h => dipF_lt _ _ b n h
  hfix := fun k j h => nomatch h
@[reducible] def cbv7 : Cbv := ⟨0, [], []⟩
def isT (r : Option Res) : Bool := match r with
  | some (.ret (.bl true) (.bag _ :: _)) => true
  | _ => false
theorem isT_eq {r : Option Res} (h : isT r = true) : ∃ k S, r = some (.ret (.bl true) (.bag k :: S)) := by
  unfold isT at h
  split at h
  · exact ⟨_, _, rfl⟩
  · cases h
end K7
set_option maxHeartbeats 16000000
namespace K7
open PySem PySem.Spec PyProof.Rows L2 He Hx Hy PO RunX PB NKx MetX
def sg0 : List (Option DV) := [some (.ref 0), none, none, none, none, none, none, none, none, none, none]
def so0 : List DO := [.bag 0]
def sg1 : List (Option DV) := [some (DV.ref 0), some (DV.drw 0 0), none, none, none, none, none, none, none, none, none]
def sa1_0 : List DO := [DO.tup [], DO.dK [], DO.tup [], DO.dK [], DO.tup [DV.str (Str.ofString "ab"), DV.ref 2, DV.ref 3, DV.ref 4], DO.lst [DV.int 1], DO.dK [], DO.lst [DV.non, DV.ref 1, DV.int 0, DV.str (Str.ofString "rewriter"), DV.ref 5, DV.ref 6, DV.ref 7, DV.bl true]]
def so1 : List DO := (so0.set 0 (DO.bag 1)) ++ (sa1_0)
def sg2 : List (Option DV) := [some (DV.ref 0), some (DV.drw 0 0), some (DV.ref 15), none, none, none, none, none, none, none, none]
def sa2_0 : List DO := [DO.dK [(Sum.inl 0, DV.str (Str.ofString ""))], DO.tup [DV.int 0, DV.str (Str.ofString "a"), DV.str (Str.ofString "ab"), DV.int 1], DO.tup [DV.int 1, DV.str (Str.ofString "b"), DV.str (Str.ofString ""), DV.int 0], DO.tup [DV.ref 10, DV.ref 11], DO.dK [(Sum.inl 0, DV.str (Str.ofString "")), (Sum.inl 1, DV.str (Str.ofString "a"))], DO.own 15, DO.ins (Str.ofString "Rewriter") 14 [((Str.ofString "own_letters"), DV.str (Str.ofString "ab")), ((Str.ofString "own_states"), DV.ref 65), ((Str.ofString "own_starts"), DV.ref 68), ((Str.ofString "own_edges"), DV.ref 73), ((Str.ofString "own_ends"), DV.ref 76), ((Str.ofString "own_after"), DV.ref 77), ((Str.ofString "own_before"), DV.ref 86)], DO.lst [DV.bl true, DV.bl true], DO.lst [DV.bl true], DO.tup [DV.str (Str.ofString "a"), DV.str (Str.ofString "b")], DO.lst [DV.bl true], DO.tup [DV.int 0, DV.str (Str.ofString "")], DO.lst [], DO.lst [DV.bl true, DV.bl true], DO.lst [DV.bl true, DV.bl true]]
def sa2_1 : List DO := [DO.lst [], DO.lst [DV.bl true, DV.bl true], DO.tup [DV.int 0, DV.str (Str.ofString "")], DO.lst [], DO.tup [DV.int 1, DV.str (Str.ofString "a")], DO.lst [DV.bl true], DO.lst [DV.int 0], DO.lst [DV.ref 32, DV.ref 33], DO.tup [DV.int 0, DV.int 1], DO.tup [DV.int 1, DV.int 0], DO.dK [(Sum.inl 0, DV.ref 36), (Sum.inl 1, DV.ref 38)], DO.lst [], DO.lst [DV.int 1], DO.lst [], DO.lst [DV.int 0]]
def sa2_2 : List DO := [DO.dK [(Sum.inl 0, DV.bl true), (Sum.inl 1, DV.bl true)], DO.lst [], DO.lst [], DO.lst [], DO.lst [], DO.lst [], DO.lst [], DO.lst [DV.int 0, DV.int 1], DO.lst [DV.ref 48, DV.ref 49], DO.tup [DV.int 1, DV.int 0], DO.tup [DV.int 0, DV.int 1], DO.dK [(Sum.inl 1, DV.ref 52), (Sum.inl 0, DV.ref 54)], DO.lst [], DO.lst [DV.int 0], DO.lst []]
def sa2_3 : List DO := [DO.lst [DV.int 1], DO.dK [(Sum.inl 0, DV.bl true), (Sum.inl 1, DV.bl true)], DO.lst [], DO.lst [], DO.lst [], DO.lst [], DO.lst [], DO.lst [], DO.lst [DV.int 0, DV.int 1], DO.lst [DV.int 0, DV.int 1], DO.dT [([Sum.inl 0, Sum.inr (Str.ofString "a"), Sum.inr (Str.ofString "ab"), Sum.inl 1], DV.bl true), ([Sum.inl 1, Sum.inr (Str.ofString "b"), Sum.inr (Str.ofString ""), Sum.inl 0], DV.bl true)], DO.tup [DV.int 0, DV.int 1], DO.lst [DV.int 0], DO.lst [DV.int 0], DO.dK [(Sum.inl 0, DV.str (Str.ofString ""))]]
def sa2_4 : List DO := [DO.tup [DV.int 0, DV.str (Str.ofString "a"), DV.str (Str.ofString "ab"), DV.int 1], DO.tup [DV.int 1, DV.str (Str.ofString "b"), DV.str (Str.ofString ""), DV.int 0], DO.lst [DV.ref 69, DV.ref 70], DO.lst [DV.ref 69, DV.ref 70], DO.tup [DV.ref 69, DV.ref 70], DO.lst [DV.int 0, DV.int 1], DO.lst [DV.int 0, DV.int 1], DO.dK [(Sum.inl 0, DV.str (Str.ofString "")), (Sum.inl 1, DV.str (Str.ofString "a"))], DO.dT [([Sum.inl 0, Sum.inr (Str.ofString "a")], DV.ref 80), ([Sum.inl 1, Sum.inr (Str.ofString "b")], DV.ref 84)], DO.tup [DV.int 0, DV.str (Str.ofString "a")], DO.tup [], DO.tup [DV.ref 69], DO.tup [DV.int 0, DV.str (Str.ofString "a")], DO.tup [DV.int 1, DV.str (Str.ofString "b")], DO.tup []]
def sa2_5 : List DO := [DO.tup [DV.ref 70], DO.tup [DV.int 1, DV.str (Str.ofString "b")], DO.dT [([Sum.inr (Str.ofString "a"), Sum.inl 1], DV.ref 89), ([Sum.inr (Str.ofString "b"), Sum.inl 0], DV.ref 92)], DO.tup [DV.str (Str.ofString "a"), DV.int 1], DO.tup [], DO.tup [DV.ref 69], DO.tup [DV.str (Str.ofString "b"), DV.int 0], DO.tup [], DO.tup [DV.ref 70]]
def so2 : List DO := so1 ++ (sa2_0 ++ sa2_1 ++ sa2_2 ++ sa2_3 ++ sa2_4 ++ sa2_5)
def sg3 : List (Option DV) := [some (DV.ref 0), some (DV.drw 0 0), some (DV.ref 15), some (DV.drw 1 1), none, none, none, none, none, none, none]
def sa3_0 : List DO := [DO.tup [DV.str (Str.ofString "a")], DO.lst [DV.str (Str.ofString "a")], DO.dK [], DO.lst [DV.non, DV.int 5, DV.ref 93, DV.ref 94, DV.str (Str.ofString "A"), DV.str (Str.ofString "a b"), DV.str (Str.ofString "aaaaaaaaaaaaaaaaaaaaaaaaaaaaaaaaaaaaaaaaaaaaaaaaaaaaaaaaaaaaa"), DV.str (Str.ofString "a-"), DV.ref 95]]
def so3 : List DO := (so2.set 0 (DO.bag 2)) ++ (sa3_0)
def sg4 : List (Option DV) := [some (DV.ref 0), some (DV.drw 0 0), some (DV.ref 15), some (DV.drw 1 1), some (DV.drw 2 2), some (DV.drw 3 3), none, none, none, none, none]
def sa4_0 : List DO := [DO.tup [DV.int 3], DO.lst [DV.non, DV.int (-1), DV.int 61, DV.bl true, DV.str (Str.ofString "3"), DV.ref 97, DV.int 1000000000000000000000000000000], DO.tup [DV.int 3], DO.lst [DV.non, DV.int (-1), DV.int 9, DV.bl true, DV.str (Str.ofString "3"), DV.ref 99, DV.int 60], DO.tup [DV.drw 2 2, DV.drw 3 3]]
def so4 : List DO := (so3.set 0 (DO.bag 4)) ++ (sa4_0)
def sg5 : List (Option DV) := [some (DV.ref 0), some (DV.drw 0 0), some (DV.ref 15), some (DV.drw 1 1), some (DV.drw 2 2), some (DV.drw 3 3), some (DV.ref 102), some (DV.ref 103), none, none, none]
def sa5_0 : List DO := [DO.lst [], DO.lst []]
def so5 : List DO := so4 ++ (sa5_0)
def sg6 : List (Option DV) := [some (DV.ref 0), some (DV.drw 0 0), some (DV.ref 15), some (DV.drw 1 1), some (DV.drw 2 2), some (DV.drw 3 3), some (DV.ref 102), some (DV.ref 103), some (DV.glo (Str.ofString "most_paths")), none, none]
def sa6_0 : List DO := [DO.tup [DV.glo (Str.ofString "one_path_paper"), DV.glo (Str.ofString "doubling_states"), DV.glo (Str.ofString "linked_pairs"), DV.glo (Str.ofString "growth"), DV.glo (Str.ofString "growth_paper"), DV.glo (Str.ofString "most_paths")]]
def so6 : List DO := ((so5.set 102 (DO.lst [DV.str (Str.ofString "rewriter"), DV.str (Str.ofString "rewriter"), DV.str (Str.ofString "rewriter"), DV.str (Str.ofString "rewriter"), DV.str (Str.ofString "rewriter"), DV.str (Str.ofString "rewriter")])).set 103 (DO.lst [DV.str (Str.ofString "rewriter"), DV.str (Str.ofString "rewriter"), DV.str (Str.ofString "rewriter"), DV.str (Str.ofString "rewriter"), DV.str (Str.ofString "rewriter"), DV.str (Str.ofString "rewriter")])) ++ (sa6_0)
def sg7 : List (Option DV) := [some (DV.ref 0), some (DV.drw 0 0), some (DV.ref 15), some (DV.drw 1 1), some (DV.drw 2 2), some (DV.drw 3 3), some (DV.ref 102), some (DV.ref 103), some (DV.glo (Str.ofString "is_growth_paper")), none, none]
def sa7_0 : List DO := [DO.tup [DV.glo (Str.ofString "is_one_path_paper"), DV.glo (Str.ofString "is_growth_paper")]]
def so7 : List DO := ((so6.set 102 (DO.lst [DV.str (Str.ofString "rewriter"), DV.str (Str.ofString "rewriter"), DV.str (Str.ofString "rewriter"), DV.str (Str.ofString "rewriter"), DV.str (Str.ofString "rewriter"), DV.str (Str.ofString "rewriter"), DV.str (Str.ofString "rewriter"), DV.str (Str.ofString "rewriter")])).set 103 (DO.lst [DV.str (Str.ofString "rewriter"), DV.str (Str.ofString "rewriter"), DV.str (Str.ofString "rewriter"), DV.str (Str.ofString "rewriter"), DV.str (Str.ofString "rewriter"), DV.str (Str.ofString "rewriter"), DV.str (Str.ofString "rewriter"), DV.str (Str.ofString "rewriter")])) ++ (sa7_0)
def sg8 : List (Option DV) := [some (DV.ref 0), some (DV.drw 0 0), some (DV.ref 15), some (DV.drw 1 1), some (DV.drw 2 2), some (DV.drw 3 3), some (DV.ref 102), some (DV.ref 103), some (DV.glo (Str.ofString "is_growth_paper")), none, none]
def so8 : List DO := (so7.set 102 (DO.lst [DV.str (Str.ofString "rewriter"), DV.str (Str.ofString "rewriter"), DV.str (Str.ofString "rewriter"), DV.str (Str.ofString "rewriter"), DV.str (Str.ofString "rewriter"), DV.str (Str.ofString "rewriter"), DV.str (Str.ofString "rewriter"), DV.str (Str.ofString "rewriter"), DV.str (Str.ofString "rewriter")]))
def sg9 : List (Option DV) := [some (DV.ref 0), some (DV.drw 0 0), some (DV.ref 15), some (DV.drw 1 1), some (DV.drw 2 2), some (DV.drw 3 3), some (DV.ref 102), some (DV.ref 103), some (DV.glo (Str.ofString "is_growth_paper")), none, none]
def so9 : List DO := (so8.set 102 (DO.lst [DV.str (Str.ofString "rewriter"), DV.str (Str.ofString "rewriter"), DV.str (Str.ofString "rewriter"), DV.str (Str.ofString "rewriter"), DV.str (Str.ofString "rewriter"), DV.str (Str.ofString "rewriter"), DV.str (Str.ofString "rewriter"), DV.str (Str.ofString "rewriter"), DV.str (Str.ofString "rewriter"), DV.str (Str.ofString "text")]))
def sg10 : List (Option DV) := [some (DV.ref 0), some (DV.drw 0 0), some (DV.ref 15), some (DV.drw 1 1), some (DV.drw 2 2), some (DV.drw 3 3), some (DV.ref 102), some (DV.ref 103), some (DV.glo (Str.ofString "is_growth_paper")), none, none]
def sa10_0 : List DO := [DO.lst [DV.bl true, DV.bl true, DV.bl true], DO.lst [DV.bl true, DV.bl true, DV.bl false]]
def so10 : List DO := (so9.set 102 (DO.lst [DV.str (Str.ofString "rewriter"), DV.str (Str.ofString "rewriter"), DV.str (Str.ofString "rewriter"), DV.str (Str.ofString "rewriter"), DV.str (Str.ofString "rewriter"), DV.str (Str.ofString "rewriter"), DV.str (Str.ofString "rewriter"), DV.str (Str.ofString "rewriter"), DV.str (Str.ofString "rewriter"), DV.str (Str.ofString "text"), DV.str (Str.ofString "operation")])) ++ (sa10_0)
def sg11 : List (Option DV) := [some (DV.ref 0), some (DV.drw 0 0), some (DV.ref 15), some (DV.drw 1 1), some (DV.drw 2 2), some (DV.drw 3 3), some (DV.ref 102), some (DV.ref 103), some (DV.glo (Str.ofString "is_growth_paper")), none, none]
def so11 : List DO := (so10.set 102 (DO.lst [DV.str (Str.ofString "rewriter"), DV.str (Str.ofString "rewriter"), DV.str (Str.ofString "rewriter"), DV.str (Str.ofString "rewriter"), DV.str (Str.ofString "rewriter"), DV.str (Str.ofString "rewriter"), DV.str (Str.ofString "rewriter"), DV.str (Str.ofString "rewriter"), DV.str (Str.ofString "rewriter"), DV.str (Str.ofString "text"), DV.str (Str.ofString "operation"), DV.str (Str.ofString "rewriter")]))
def sg12 : List (Option DV) := [some (DV.ref 0), some (DV.drw 0 0), some (DV.ref 15), some (DV.drw 1 1), some (DV.drw 2 2), some (DV.drw 3 3), some (DV.ref 102), some (DV.ref 103), some (DV.glo (Str.ofString "is_growth_paper")), none, none]
def sa12_0 : List DO := [DO.xd [((Str.ofString "value"), DV.drw 3 3)], DO.tup [DV.str (Str.ofString "number"), DV.drw 3 3]]
def so12 : List DO := (so11.set 102 (DO.lst [DV.str (Str.ofString "rewriter"), DV.str (Str.ofString "rewriter"), DV.str (Str.ofString "rewriter"), DV.str (Str.ofString "rewriter"), DV.str (Str.ofString "rewriter"), DV.str (Str.ofString "rewriter"), DV.str (Str.ofString "rewriter"), DV.str (Str.ofString "rewriter"), DV.str (Str.ofString "rewriter"), DV.str (Str.ofString "text"), DV.str (Str.ofString "operation"), DV.str (Str.ofString "rewriter"), DV.ref 109])) ++ (sa12_0)
def sg13 : List (Option DV) := [some (DV.ref 0), some (DV.drw 0 0), some (DV.ref 15), some (DV.drw 1 1), some (DV.drw 2 2), some (DV.drw 3 3), some (DV.ref 102), some (DV.ref 103), some (DV.glo (Str.ofString "is_growth_paper")), none, none]
def so13 : List DO := (so12.set 102 (DO.lst [DV.str (Str.ofString "rewriter"), DV.str (Str.ofString "rewriter"), DV.str (Str.ofString "rewriter"), DV.str (Str.ofString "rewriter"), DV.str (Str.ofString "rewriter"), DV.str (Str.ofString "rewriter"), DV.str (Str.ofString "rewriter"), DV.str (Str.ofString "rewriter"), DV.str (Str.ofString "rewriter"), DV.str (Str.ofString "text"), DV.str (Str.ofString "operation"), DV.str (Str.ofString "rewriter"), DV.ref 109, DV.str (Str.ofString "rewriter")]))
def sg14 : List (Option DV) := [some (DV.ref 0), some (DV.drw 0 0), some (DV.ref 15), some (DV.drw 1 1), some (DV.drw 2 2), some (DV.drw 3 3), some (DV.ref 102), some (DV.ref 103), some (DV.glo (Str.ofString "is_growth_paper")), none, none]
def sa14_0 : List DO := [DO.xd [((Str.ofString "value"), DV.drw 2 2)], DO.tup [DV.str (Str.ofString "number"), DV.drw 2 2]]
def so14 : List DO := (so13.set 102 (DO.lst [DV.str (Str.ofString "rewriter"), DV.str (Str.ofString "rewriter"), DV.str (Str.ofString "rewriter"), DV.str (Str.ofString "rewriter"), DV.str (Str.ofString "rewriter"), DV.str (Str.ofString "rewriter"), DV.str (Str.ofString "rewriter"), DV.str (Str.ofString "rewriter"), DV.str (Str.ofString "rewriter"), DV.str (Str.ofString "text"), DV.str (Str.ofString "operation"), DV.str (Str.ofString "rewriter"), DV.ref 109, DV.str (Str.ofString "rewriter"), DV.ref 111])) ++ (sa14_0)
def sg15 : List (Option DV) := [some (DV.ref 0), some (DV.drw 0 0), some (DV.ref 15), some (DV.drw 1 1), some (DV.drw 2 2), some (DV.drw 3 3), some (DV.ref 102), some (DV.ref 115), some (DV.glo (Str.ofString "is_growth_paper")), none, none]
def sa15_0 : List DO := [DO.tup [DV.str (Str.ofString "number"), DV.drw 3 3], DO.tup [DV.str (Str.ofString "number"), DV.drw 2 2], DO.lst [DV.str (Str.ofString "rewriter"), DV.str (Str.ofString "text"), DV.str (Str.ofString "operation"), DV.str (Str.ofString "rewriter"), DV.ref 112, DV.str (Str.ofString "rewriter"), DV.ref 113], DO.lst [DV.str (Str.ofString "rewriter"), DV.str (Str.ofString "rewriter"), DV.str (Str.ofString "rewriter"), DV.str (Str.ofString "rewriter"), DV.str (Str.ofString "rewriter"), DV.str (Str.ofString "rewriter"), DV.str (Str.ofString "rewriter"), DV.str (Str.ofString "rewriter"), DV.str (Str.ofString "rewriter"), DV.str (Str.ofString "text"), DV.str (Str.ofString "operation"), DV.str (Str.ofString "rewriter"), DV.ref 112, DV.str (Str.ofString "rewriter"), DV.ref 113]]
def so15 : List DO := so14 ++ (sa15_0)
def sg16 : List (Option DV) := [some (DV.ref 0), some (DV.drw 0 0), some (DV.ref 15), some (DV.drw 1 1), some (DV.drw 2 2), some (DV.drw 3 3), some (DV.ref 102), some (DV.ref 115), some (DV.glo (Str.ofString "is_growth_paper")), none, none]
def sa16_0 : List DO := [DO.dK [(Sum.inl 0, DV.str (Str.ofString ""))], DO.tup [DV.int 0, DV.str (Str.ofString "a"), DV.str (Str.ofString ""), DV.int 0], DO.tup [DV.int 0, DV.str (Str.ofString "a"), DV.str (Str.ofString ""), DV.int 1], DO.tup [DV.int 1, DV.str (Str.ofString "a"), DV.str (Str.ofString ""), DV.int 1], DO.tup [DV.ref 117, DV.ref 118, DV.ref 119], DO.dK [(Sum.inl 1, DV.str (Str.ofString ""))], DO.own 123, DO.ins (Str.ofString "Rewriter") 122 [((Str.ofString "own_letters"), DV.str (Str.ofString "a")), ((Str.ofString "own_states"), DV.ref 177), ((Str.ofString "own_starts"), DV.ref 180), ((Str.ofString "own_edges"), DV.ref 186), ((Str.ofString "own_ends"), DV.ref 189), ((Str.ofString "own_after"), DV.ref 190), ((Str.ofString "own_before"), DV.ref 203)], DO.lst [DV.bl true], DO.lst [], DO.lst [DV.bl true], DO.tup [DV.int 0, DV.str (Str.ofString "")], DO.lst [], DO.lst [DV.bl true, DV.bl true, DV.bl true], DO.lst []]
def sa16_1 : List DO := [DO.lst [], DO.lst [], DO.lst [DV.bl true], DO.tup [DV.int 1, DV.str (Str.ofString "")], DO.lst [], DO.lst [DV.int 0], DO.lst [DV.ref 138, DV.ref 139, DV.ref 140], DO.tup [DV.int 0, DV.int 0], DO.tup [DV.int 0, DV.int 1], DO.tup [DV.int 1, DV.int 1], DO.dK [(Sum.inl 0, DV.ref 145), (Sum.inl 1, DV.ref 147)], DO.lst [], DO.lst [DV.int 0], DO.lst [], DO.lst [DV.int 0, DV.int 1]]
def sa16_2 : List DO := [DO.lst [], DO.lst [DV.int 1], DO.dK [(Sum.inl 0, DV.bl true), (Sum.inl 1, DV.bl true)], DO.lst [], DO.lst [], DO.lst [], DO.lst [], DO.lst [], DO.lst [], DO.lst [DV.int 1], DO.lst [DV.ref 157, DV.ref 158, DV.ref 159], DO.tup [DV.int 0, DV.int 0], DO.tup [DV.int 1, DV.int 0], DO.tup [DV.int 1, DV.int 1], DO.dK [(Sum.inl 0, DV.ref 162), (Sum.inl 1, DV.ref 166)]]
def sa16_3 : List DO := [DO.lst [], DO.lst [DV.int 0], DO.lst [], DO.lst [DV.int 0], DO.lst [], DO.lst [DV.int 0, DV.int 1], DO.dK [(Sum.inl 1, DV.bl true), (Sum.inl 0, DV.bl true)], DO.lst [], DO.lst [], DO.lst [], DO.lst [], DO.lst [], DO.lst [], DO.lst [DV.int 0, DV.int 1], DO.lst [DV.int 0, DV.int 1]]
def sa16_4 : List DO := [DO.dT [([Sum.inl 0, Sum.inr (Str.ofString "a"), Sum.inr (Str.ofString ""), Sum.inl 0], DV.bl true), ([Sum.inl 0, Sum.inr (Str.ofString "a"), Sum.inr (Str.ofString ""), Sum.inl 1], DV.bl true), ([Sum.inl 1, Sum.inr (Str.ofString "a"), Sum.inr (Str.ofString ""), Sum.inl 1], DV.bl true)], DO.tup [DV.int 0, DV.int 1], DO.lst [DV.int 0], DO.lst [DV.int 0], DO.dK [(Sum.inl 0, DV.str (Str.ofString ""))], DO.tup [DV.int 0, DV.str (Str.ofString "a"), DV.str (Str.ofString ""), DV.int 0], DO.tup [DV.int 0, DV.str (Str.ofString "a"), DV.str (Str.ofString ""), DV.int 1], DO.tup [DV.int 1, DV.str (Str.ofString "a"), DV.str (Str.ofString ""), DV.int 1], DO.lst [DV.ref 181, DV.ref 182, DV.ref 183], DO.lst [DV.ref 181, DV.ref 182, DV.ref 183], DO.tup [DV.ref 181, DV.ref 182, DV.ref 183], DO.lst [DV.int 1], DO.lst [DV.int 1], DO.dK [(Sum.inl 1, DV.str (Str.ofString ""))], DO.dT [([Sum.inl 0, Sum.inr (Str.ofString "a")], DV.ref 197), ([Sum.inl 1, Sum.inr (Str.ofString "a")], DV.ref 201)]]
def sa16_5 : List DO := [DO.tup [DV.int 0, DV.str (Str.ofString "a")], DO.tup [], DO.tup [DV.ref 181], DO.tup [DV.int 0, DV.str (Str.ofString "a")], DO.tup [DV.int 0, DV.str (Str.ofString "a")], DO.tup [], DO.tup [DV.ref 181, DV.ref 182], DO.tup [DV.int 0, DV.str (Str.ofString "a")], DO.tup [DV.int 1, DV.str (Str.ofString "a")], DO.tup [], DO.tup [DV.ref 183], DO.tup [DV.int 1, DV.str (Str.ofString "a")], DO.dT [([Sum.inr (Str.ofString "a"), Sum.inl 0], DV.ref 206), ([Sum.inr (Str.ofString "a"), Sum.inl 1], DV.ref 212)], DO.tup [DV.str (Str.ofString "a"), DV.int 0], DO.tup []]
def sa16_6 : List DO := [DO.tup [DV.ref 181], DO.tup [DV.str (Str.ofString "a"), DV.int 1], DO.tup [], DO.tup [DV.ref 182], DO.tup [DV.str (Str.ofString "a"), DV.int 1], DO.tup [], DO.tup [DV.ref 182, DV.ref 183], DO.lst [], DO.tup [DV.int 0, DV.int 0], DO.tup [DV.ref 214, DV.bl false], DO.lst [DV.ref 215], DO.dN [(NKx.NK.cons (NKx.NK.cons (NKx.NK.int 0) (NKx.NK.cons (NKx.NK.int 0) (NKx.NK.nil))) (NKx.NK.cons (NKx.NK.int 0) (NKx.NK.nil)), 215, DV.non), (NKx.NK.cons (NKx.NK.cons (NKx.NK.int 0) (NKx.NK.cons (NKx.NK.int 1) (NKx.NK.nil))) (NKx.NK.cons (NKx.NK.int 1) (NKx.NK.nil)), 237, DV.ref 238), (NKx.NK.cons (NKx.NK.cons (NKx.NK.int 1) (NKx.NK.cons (NKx.NK.int 0) (NKx.NK.nil))) (NKx.NK.cons (NKx.NK.int 1) (NKx.NK.nil)), 239, DV.ref 240), (NKx.NK.cons (NKx.NK.cons (NKx.NK.int 1) (NKx.NK.cons (NKx.NK.int 1) (NKx.NK.nil))) (NKx.NK.cons (NKx.NK.int 0) (NKx.NK.nil)), 241, DV.ref 242), (NKx.NK.cons (NKx.NK.cons (NKx.NK.int 1) (NKx.NK.cons (NKx.NK.int 1) (NKx.NK.nil))) (NKx.NK.cons (NKx.NK.int 1) (NKx.NK.nil)), 258, DV.ref 259)], DO.lst [DV.ref 215, DV.ref 237, DV.ref 239, DV.ref 241, DV.ref 258], DO.lst [DV.ref 226, DV.ref 228, DV.ref 233, DV.ref 235], DO.tup [DV.int 0, DV.str (Str.ofString "a")]]
def sa16_7 : List DO := [DO.tup [], DO.tup [DV.int 0, DV.str (Str.ofString "a")], DO.tup [], DO.lst [DV.ref 226, DV.ref 228], DO.tup [DV.int 0, DV.int 0], DO.tup [DV.ref 181, DV.ref 181, DV.ref 225], DO.tup [DV.int 0, DV.int 1], DO.tup [DV.ref 181, DV.ref 182, DV.ref 227], DO.tup [DV.int 0, DV.str (Str.ofString "a")], DO.tup [], DO.lst [DV.ref 233, DV.ref 235], DO.tup [DV.int 1, DV.int 0], DO.tup [DV.ref 182, DV.ref 181, DV.ref 232], DO.tup [DV.int 1, DV.int 1], DO.tup [DV.ref 182, DV.ref 182, DV.ref 234]]
def sa16_8 : List DO := [DO.tup [DV.ref 225, DV.bl false], DO.tup [DV.ref 227, DV.bl true], DO.tup [DV.ref 215, DV.ref 181, DV.ref 182], DO.tup [DV.ref 232, DV.bl true], DO.tup [DV.ref 215, DV.ref 182, DV.ref 181], DO.tup [DV.ref 234, DV.bl false], DO.tup [DV.ref 215, DV.ref 182, DV.ref 182], DO.tup [DV.int 0, DV.int 0], DO.lst [DV.ref 251, DV.ref 256], DO.tup [DV.int 0, DV.str (Str.ofString "a")], DO.tup [], DO.tup [DV.int 1, DV.str (Str.ofString "a")], DO.tup [], DO.lst [DV.ref 251], DO.tup [DV.int 0, DV.int 1]]
def sa16_9 : List DO := [DO.tup [DV.ref 181, DV.ref 183, DV.ref 250], DO.tup [DV.int 1, DV.str (Str.ofString "a")], DO.tup [], DO.lst [DV.ref 256], DO.tup [DV.int 1, DV.int 1], DO.tup [DV.ref 182, DV.ref 183, DV.ref 255], DO.tup [DV.ref 250, DV.bl true], DO.tup [DV.ref 255, DV.bl true], DO.tup [DV.ref 237, DV.ref 182, DV.ref 183], DO.tup [DV.int 0, DV.int 0], DO.lst [DV.ref 268, DV.ref 270], DO.tup [DV.int 1, DV.str (Str.ofString "a")], DO.tup [], DO.tup [DV.int 0, DV.str (Str.ofString "a")], DO.tup []]
def sa16_10 : List DO := [DO.lst [DV.ref 268, DV.ref 270], DO.tup [DV.int 1, DV.int 0], DO.tup [DV.ref 183, DV.ref 181, DV.ref 267], DO.tup [DV.int 1, DV.int 1], DO.tup [DV.ref 183, DV.ref 182, DV.ref 269], DO.tup [DV.ref 267, DV.bl true], DO.tup [DV.ref 269, DV.bl true], DO.lst [DV.ref 280], DO.tup [DV.int 1, DV.str (Str.ofString "a")], DO.tup [], DO.tup [DV.int 1, DV.str (Str.ofString "a")], DO.tup [], DO.lst [DV.ref 280], DO.tup [DV.int 1, DV.int 1], DO.tup [DV.ref 183, DV.ref 183, DV.ref 279]]
def sa16_11 : List DO := [DO.tup [DV.ref 279, DV.bl false], DO.tup [DV.int 0, DV.int 0], DO.lst [DV.ref 290], DO.tup [DV.int 1, DV.str (Str.ofString "a")], DO.tup [], DO.tup [DV.int 1, DV.str (Str.ofString "a")], DO.tup [], DO.lst [DV.ref 290], DO.tup [DV.int 1, DV.int 1], DO.tup [DV.ref 183, DV.ref 183, DV.ref 289], DO.tup [DV.ref 289, DV.bl true], DO.tup [DV.int 1, DV.int 1], DO.tup [DV.ref 292, DV.bl false], DO.lst [DV.ref 293], DO.dN [(NKx.NK.cons (NKx.NK.cons (NKx.NK.int 1) (NKx.NK.cons (NKx.NK.int 1) (NKx.NK.nil))) (NKx.NK.cons (NKx.NK.int 0) (NKx.NK.nil)), 293, DV.non)]]
def sa16_12 : List DO := [DO.lst [DV.ref 293], DO.lst [DV.ref 304], DO.tup [DV.int 1, DV.str (Str.ofString "a")], DO.tup [], DO.tup [DV.int 1, DV.str (Str.ofString "a")], DO.tup [], DO.lst [DV.ref 304], DO.tup [DV.int 1, DV.int 1], DO.tup [DV.ref 183, DV.ref 183, DV.ref 303], DO.tup [DV.ref 303, DV.bl false], DO.lst [], DO.dT [([Sum.inl 0, Sum.inl 1], DV.str (Str.ofString "a"))], DO.dK [(Sum.inl 0, DV.bl true), (Sum.inl 1, DV.bl true)], DO.lst [], DO.lst []]
def sa16_13 : List DO := [DO.lst [], DO.lst [], DO.lst [DV.int 0, DV.int 1], DO.tup [DV.int 0, DV.int 0, DV.int 1], DO.tup [DV.int 0, DV.int 1, DV.int 1], DO.dT [([Sum.inl 0, Sum.inl 0, Sum.inl 1], DV.str (Str.ofString "")), ([Sum.inl 0, Sum.inl 1, Sum.inl 1], DV.str (Str.ofString "a")), ([Sum.inl 1, Sum.inl 0, Sum.inl 1], DV.str (Str.ofString "a")), ([Sum.inl 1, Sum.inl 1, Sum.inl 1], DV.str (Str.ofString "a"))], DO.lst [DV.ref 314], DO.lst [], DO.lst [DV.ref 333, DV.ref 335, DV.ref 336], DO.lst [DV.ref 323, DV.ref 326, DV.ref 329], DO.tup [DV.int 0, DV.str (Str.ofString "a")], DO.tup [], DO.lst [DV.int 0, DV.int 1], DO.tup [DV.int 0, DV.str (Str.ofString "a")], DO.tup []]
def sa16_14 : List DO := [DO.lst [DV.int 0, DV.int 1], DO.tup [DV.int 1, DV.str (Str.ofString "a")], DO.tup [], DO.lst [DV.int 1], DO.lst [DV.ref 332, DV.ref 333, DV.ref 335, DV.ref 336], DO.lst [DV.ref 332, DV.ref 333], DO.tup [DV.int 0, DV.int 0, DV.int 1], DO.tup [DV.int 0, DV.int 1, DV.int 1], DO.lst [DV.ref 335, DV.ref 336], DO.tup [DV.int 1, DV.int 0, DV.int 1], DO.tup [DV.int 1, DV.int 1, DV.int 1], DO.lst [DV.ref 333, DV.ref 335, DV.ref 336], DO.lst [], DO.tup [DV.int 0, DV.int 1], DO.dK [(Sum.inl 1, DV.bl true)]]
def sa16_15 : List DO := [DO.lst [], DO.lst [], DO.lst [], DO.lst [DV.int 1], DO.dK []]
def so16 : List DO := (so15.set 102 (DO.lst [DV.str (Str.ofString "rewriter"), DV.str (Str.ofString "rewriter"), DV.str (Str.ofString "rewriter"), DV.str (Str.ofString "rewriter"), DV.str (Str.ofString "rewriter"), DV.str (Str.ofString "rewriter"), DV.str (Str.ofString "rewriter"), DV.str (Str.ofString "rewriter"), DV.str (Str.ofString "rewriter"), DV.str (Str.ofString "text"), DV.str (Str.ofString "operation"), DV.str (Str.ofString "rewriter"), DV.ref 109, DV.str (Str.ofString "rewriter"), DV.ref 111, DV.str (Str.ofString "operation")])) ++ (sa16_0 ++ sa16_1 ++ sa16_2 ++ sa16_3 ++ sa16_4 ++ sa16_5 ++ sa16_6 ++ sa16_7 ++ sa16_8 ++ sa16_9 ++ sa16_10 ++ sa16_11 ++ sa16_12 ++ sa16_13 ++ sa16_14 ++ sa16_15)
def sg17 : List (Option DV) := [some (DV.ref 0), some (DV.drw 0 0), some (DV.ref 15), some (DV.drw 1 1), some (DV.drw 2 2), some (DV.drw 3 3), some (DV.ref 102), some (DV.ref 115), some (DV.glo (Str.ofString "is_growth_paper")), none, none]
def sa17_0 : List DO := [DO.dK [(Sum.inl 0, DV.str (Str.ofString ""))], DO.tup [DV.int 0, DV.str (Str.ofString "a"), DV.str (Str.ofString ""), DV.int 0], DO.tup [DV.int 0, DV.str (Str.ofString "a"), DV.str (Str.ofString "a"), DV.int 0], DO.tup [DV.ref 347, DV.ref 348], DO.dK [(Sum.inl 0, DV.str (Str.ofString ""))], DO.own 352, DO.ins (Str.ofString "Rewriter") 351 [((Str.ofString "own_letters"), DV.str (Str.ofString "a")), ((Str.ofString "own_states"), DV.ref 395), ((Str.ofString "own_starts"), DV.ref 398), ((Str.ofString "own_edges"), DV.ref 403), ((Str.ofString "own_ends"), DV.ref 406), ((Str.ofString "own_after"), DV.ref 407), ((Str.ofString "own_before"), DV.ref 416)], DO.lst [DV.bl true], DO.lst [], DO.lst [DV.bl true], DO.tup [DV.int 0, DV.str (Str.ofString "")], DO.lst [], DO.lst [DV.bl true, DV.bl true], DO.lst [], DO.lst [DV.bl true]]
def sa17_1 : List DO := [DO.lst [DV.bl true], DO.tup [DV.int 0, DV.str (Str.ofString "")], DO.lst [], DO.lst [DV.int 0], DO.lst [DV.ref 366, DV.ref 367], DO.tup [DV.int 0, DV.int 0], DO.tup [DV.int 0, DV.int 0], DO.dK [(Sum.inl 0, DV.ref 372)], DO.lst [], DO.lst [DV.int 0], DO.lst [], DO.lst [DV.int 0, DV.int 0], DO.dK [(Sum.inl 0, DV.bl true)], DO.lst [], DO.lst []]
def sa17_2 : List DO := [DO.lst [], DO.lst [], DO.lst [DV.int 0], DO.lst [DV.ref 380, DV.ref 381], DO.tup [DV.int 0, DV.int 0], DO.tup [DV.int 0, DV.int 0], DO.dK [(Sum.inl 0, DV.ref 386)], DO.lst [], DO.lst [DV.int 0], DO.lst [], DO.lst [DV.int 0, DV.int 0], DO.dK [(Sum.inl 0, DV.bl true)], DO.lst [], DO.lst [], DO.lst []]
def sa17_3 : List DO := [DO.lst [], DO.lst [DV.int 0], DO.lst [DV.int 0], DO.dT [([Sum.inl 0, Sum.inr (Str.ofString "a"), Sum.inr (Str.ofString ""), Sum.inl 0], DV.bl true), ([Sum.inl 0, Sum.inr (Str.ofString "a"), Sum.inr (Str.ofString "a"), Sum.inl 0], DV.bl true)], DO.tup [DV.int 0], DO.lst [DV.int 0], DO.lst [DV.int 0], DO.dK [(Sum.inl 0, DV.str (Str.ofString ""))], DO.tup [DV.int 0, DV.str (Str.ofString "a"), DV.str (Str.ofString ""), DV.int 0], DO.tup [DV.int 0, DV.str (Str.ofString "a"), DV.str (Str.ofString "a"), DV.int 0], DO.lst [DV.ref 399, DV.ref 400], DO.lst [DV.ref 399, DV.ref 400], DO.tup [DV.ref 399, DV.ref 400], DO.lst [DV.int 0], DO.lst [DV.int 0]]
def sa17_4 : List DO := [DO.dK [(Sum.inl 0, DV.str (Str.ofString ""))], DO.dT [([Sum.inl 0, Sum.inr (Str.ofString "a")], DV.ref 414)], DO.tup [DV.int 0, DV.str (Str.ofString "a")], DO.tup [], DO.tup [DV.ref 399], DO.tup [DV.int 0, DV.str (Str.ofString "a")], DO.tup [DV.int 0, DV.str (Str.ofString "a")], DO.tup [], DO.tup [DV.ref 399, DV.ref 400], DO.tup [DV.int 0, DV.str (Str.ofString "a")], DO.dT [([Sum.inr (Str.ofString "a"), Sum.inl 0], DV.ref 422)], DO.tup [DV.str (Str.ofString "a"), DV.int 0], DO.tup [], DO.tup [DV.ref 399], DO.tup [DV.str (Str.ofString "a"), DV.int 0]]
def sa17_5 : List DO := [DO.tup [], DO.tup [DV.ref 399, DV.ref 400], DO.lst [DV.int 0], DO.tup [DV.int 0, DV.int 0], DO.tup [DV.ref 424, DV.bl false], DO.lst [DV.ref 425], DO.dN [(NKx.NK.cons (NKx.NK.cons (NKx.NK.int 0) (NKx.NK.cons (NKx.NK.int 0) (NKx.NK.nil))) (NKx.NK.cons (NKx.NK.int 0) (NKx.NK.nil)), 425, DV.non), (NKx.NK.cons (NKx.NK.cons (NKx.NK.int 0) (NKx.NK.cons (NKx.NK.int 0) (NKx.NK.nil))) (NKx.NK.cons (NKx.NK.int 1) (NKx.NK.nil)), 447, DV.ref 448)], DO.lst [DV.ref 425, DV.ref 447], DO.lst [DV.ref 436, DV.ref 438, DV.ref 443, DV.ref 445], DO.tup [DV.int 0, DV.str (Str.ofString "a")], DO.tup [], DO.tup [DV.int 0, DV.str (Str.ofString "a")], DO.tup [], DO.lst [DV.ref 436, DV.ref 438], DO.tup [DV.int 0, DV.int 0]]
def sa17_6 : List DO := [DO.tup [DV.ref 399, DV.ref 399, DV.ref 435], DO.tup [DV.int 0, DV.int 0], DO.tup [DV.ref 399, DV.ref 400, DV.ref 437], DO.tup [DV.int 0, DV.str (Str.ofString "a")], DO.tup [], DO.lst [DV.ref 443, DV.ref 445], DO.tup [DV.int 0, DV.int 0], DO.tup [DV.ref 400, DV.ref 399, DV.ref 442], DO.tup [DV.int 0, DV.int 0], DO.tup [DV.ref 400, DV.ref 400, DV.ref 444], DO.tup [DV.ref 435, DV.bl false], DO.tup [DV.ref 437, DV.bl true], DO.tup [DV.ref 425, DV.ref 399, DV.ref 400], DO.tup [DV.ref 442, DV.bl true], DO.tup [DV.ref 444, DV.bl false]]
def sa17_7 : List DO := [DO.tup [DV.int 0, DV.int 0], DO.lst [DV.ref 453], DO.tup [DV.ref 399, DV.ref 400], DO.lst [DV.ref 453], DO.lst [DV.ref 399], DO.tup [DV.ref 399], DO.lst [DV.ref 453], DO.lst [DV.ref 400], DO.tup [DV.ref 400], DO.tup [DV.ref 424, DV.ref 456, DV.ref 459], DO.tup [DV.ref 456, DV.ref 459], DO.lst []]
def so17 : List DO := (so16.set 102 (DO.lst [DV.str (Str.ofString "rewriter"), DV.str (Str.ofString "rewriter"), DV.str (Str.ofString "rewriter"), DV.str (Str.ofString "rewriter"), DV.str (Str.ofString "rewriter"), DV.str (Str.ofString "rewriter"), DV.str (Str.ofString "rewriter"), DV.str (Str.ofString "rewriter"), DV.str (Str.ofString "rewriter"), DV.str (Str.ofString "text"), DV.str (Str.ofString "operation"), DV.str (Str.ofString "rewriter"), DV.ref 109, DV.str (Str.ofString "rewriter"), DV.ref 111, DV.str (Str.ofString "operation"), DV.str (Str.ofString "operation")])) ++ (sa17_0 ++ sa17_1 ++ sa17_2 ++ sa17_3 ++ sa17_4 ++ sa17_5 ++ sa17_6 ++ sa17_7)
def sg18 : List (Option DV) := [some (DV.ref 0), some (DV.drw 0 0), some (DV.ref 15), some (DV.drw 1 1), some (DV.drw 2 2), some (DV.drw 3 3), some (DV.ref 102), some (DV.ref 464), some (DV.glo (Str.ofString "is_growth_paper")), none, none]
def sa18_0 : List DO := [DO.lst [DV.str (Str.ofString "operation"), DV.str (Str.ofString "operation")], DO.lst [DV.str (Str.ofString "rewriter"), DV.str (Str.ofString "rewriter"), DV.str (Str.ofString "rewriter"), DV.str (Str.ofString "rewriter"), DV.str (Str.ofString "rewriter"), DV.str (Str.ofString "rewriter"), DV.str (Str.ofString "rewriter"), DV.str (Str.ofString "rewriter"), DV.str (Str.ofString "rewriter"), DV.str (Str.ofString "text"), DV.str (Str.ofString "operation"), DV.str (Str.ofString "rewriter"), DV.ref 112, DV.str (Str.ofString "rewriter"), DV.ref 113, DV.str (Str.ofString "operation"), DV.str (Str.ofString "operation")]]
def so18 : List DO := so17 ++ (sa18_0)
def sg19 : List (Option DV) := [some (DV.ref 0), some (DV.drw 0 0), some (DV.ref 15), some (DV.drw 1 1), some (DV.drw 2 2), some (DV.drw 3 3), some (DV.ref 102), some (DV.ref 464), some (DV.glo (Str.ofString "is_growth_paper")), none, none]
def so19 : List DO := so18
def sg20 : List (Option DV) := [some (DV.ref 0), some (DV.drw 0 0), some (DV.ref 15), some (DV.drw 1 1), some (DV.drw 2 2), some (DV.drw 3 3), some (DV.ref 102), some (DV.ref 464), some (DV.glo (Str.ofString "is_growth_paper")), some (DV.ref 486), none]
def sa20_0 : List DO := [DO.dK [], DO.lst [], DO.lst [DV.ref 466], DO.dK [(Sum.inr (Str.ofString "a"), DV.int 1)], DO.dK [], DO.tup [DV.str (Str.ofString "one"), DV.ref 469], DO.dK [], DO.tup [DV.ref 471], DO.tup [DV.str (Str.ofString "one"), DV.ref 472], DO.dK [], DO.tup [], DO.tup [], DO.tup [DV.str (Str.ofString "two"), DV.ref 474, DV.ref 475, DV.ref 476], DO.dK [], DO.dK []]
def sa20_1 : List DO := [DO.tup [DV.str (Str.ofString "grows"), DV.ref 478, DV.ref 479], DO.dK [], DO.tup [DV.ref 481], DO.dK [(Sum.inl 0, DV.ref 484)], DO.dK [], DO.tup [DV.str (Str.ofString "grows"), DV.ref 482, DV.ref 483], DO.lst [DV.drw 0 0, DV.drw 1 1, DV.drw 2 2, DV.ref 465, DV.ref 467, DV.ref 468, DV.ref 470, DV.ref 473, DV.ref 477, DV.ref 480, DV.ref 485]]
def so20 : List DO := so19 ++ (sa20_0 ++ sa20_1)
def sg21 : List (Option DV) := [some (DV.ref 0), some (DV.drw 0 0), some (DV.ref 15), some (DV.drw 1 1), some (DV.drw 2 2), some (DV.drw 3 3), some (DV.ref 102), some (DV.ref 464), some (DV.glo (Str.ofString "is_growth_paper")), some (DV.ref 486), some (DV.ref 495)]
def sa21_0 : List DO := [DO.dK [], DO.dK [], DO.tup [DV.str (Str.ofString "doubling"), DV.int 0, DV.ref 487, DV.ref 488], DO.tup [DV.str (Str.ofString "two"), DV.str (Str.ofString "a"), DV.non, DV.non], DO.dK [], DO.tup [DV.int 0, DV.int 1, DV.ref 491], DO.tup [DV.ref 492], DO.dK [], DO.tup [DV.str (Str.ofString "grows"), DV.ref 493, DV.ref 494], DO.lst [DV.ref 489, DV.ref 490, DV.ref 495], DO.lst [DV.drw 0 0, DV.drw 1 1, DV.drw 2 2, DV.ref 465, DV.ref 467, DV.ref 468, DV.ref 470, DV.ref 473, DV.ref 477, DV.ref 480, DV.ref 485, DV.ref 489, DV.ref 490, DV.ref 495], DO.tup [DV.glo (Str.ofString "is_one_path_paper"), DV.glo (Str.ofString "is_growth_paper")], DO.tup [DV.str (Str.ofString "told"), DV.bl false], DO.tup [DV.str (Str.ofString "told"), DV.bl false], DO.tup [DV.str (Str.ofString "told"), DV.bl false]]
def sa21_1 : List DO := [DO.tup [DV.str (Str.ofString "told"), DV.bl false], DO.tup [DV.glo (Str.ofString "is_one_path_paper"), DV.glo (Str.ofString "is_growth_paper")], DO.tup [DV.str (Str.ofString "told"), DV.bl false], DO.tup [DV.str (Str.ofString "told"), DV.bl false], DO.tup [DV.str (Str.ofString "told"), DV.bl false], DO.tup [DV.str (Str.ofString "told"), DV.bl false], DO.tup [DV.glo (Str.ofString "is_one_path_paper"), DV.glo (Str.ofString "is_growth_paper")], DO.tup [DV.str (Str.ofString "told"), DV.bl false], DO.tup [DV.str (Str.ofString "told"), DV.bl false], DO.tup [DV.str (Str.ofString "told"), DV.bl false], DO.tup [DV.str (Str.ofString "told"), DV.bl false], DO.tup [DV.glo (Str.ofString "is_one_path_paper"), DV.glo (Str.ofString "is_growth_paper")], DO.tup [DV.str (Str.ofString "told"), DV.bl false], DO.tup [DV.str (Str.ofString "told"), DV.bl false], DO.tup [DV.str (Str.ofString "told"), DV.bl false]]
def sa21_2 : List DO := [DO.tup [DV.str (Str.ofString "told"), DV.bl false], DO.tup [DV.glo (Str.ofString "is_one_path_paper"), DV.glo (Str.ofString "is_growth_paper")], DO.tup [DV.str (Str.ofString "told"), DV.bl false], DO.tup [DV.str (Str.ofString "told"), DV.bl false], DO.tup [DV.str (Str.ofString "told"), DV.bl false], DO.tup [DV.str (Str.ofString "told"), DV.bl false], DO.tup [DV.glo (Str.ofString "is_one_path_paper"), DV.glo (Str.ofString "is_growth_paper")], DO.tup [DV.str (Str.ofString "told"), DV.bl false], DO.tup [DV.str (Str.ofString "told"), DV.bl false], DO.tup [DV.str (Str.ofString "told"), DV.bl false], DO.tup [DV.str (Str.ofString "told"), DV.bl false], DO.tup [DV.glo (Str.ofString "is_one_path_paper"), DV.glo (Str.ofString "is_growth_paper")], DO.tup [], DO.tup [DV.str (Str.ofString "told"), DV.bl false], DO.tup [DV.str (Str.ofString "told"), DV.bl false]]
def sa21_3 : List DO := [DO.tup [], DO.tup [DV.str (Str.ofString "told"), DV.bl false], DO.tup [DV.str (Str.ofString "told"), DV.bl false], DO.tup [DV.glo (Str.ofString "is_one_path_paper"), DV.glo (Str.ofString "is_growth_paper")], DO.tup [], DO.lst [DV.bl false], DO.tup [DV.str (Str.ofString "told"), DV.bl false], DO.tup [DV.str (Str.ofString "told"), DV.bl false], DO.tup [], DO.tup [DV.str (Str.ofString "told"), DV.bl false], DO.tup [DV.str (Str.ofString "told"), DV.bl false], DO.tup [DV.glo (Str.ofString "is_one_path_paper"), DV.glo (Str.ofString "is_growth_paper")], DO.tup [], DO.tup [DV.str (Str.ofString "told"), DV.bl false], DO.tup [DV.str (Str.ofString "told"), DV.bl false]]
def sa21_4 : List DO := [DO.tup [], DO.tup [DV.str (Str.ofString "told"), DV.bl false], DO.tup [DV.str (Str.ofString "told"), DV.bl false], DO.tup [DV.glo (Str.ofString "is_one_path_paper"), DV.glo (Str.ofString "is_growth_paper")], DO.tup [], DO.tup [DV.str (Str.ofString "told"), DV.bl false], DO.tup [DV.str (Str.ofString "told"), DV.bl false], DO.tup [], DO.tup [DV.str (Str.ofString "told"), DV.bl false], DO.tup [DV.str (Str.ofString "told"), DV.bl false], DO.tup [DV.glo (Str.ofString "is_one_path_paper"), DV.glo (Str.ofString "is_growth_paper")], DO.tup [], DO.tup [DV.str (Str.ofString "told"), DV.bl false], DO.tup [DV.str (Str.ofString "told"), DV.bl false], DO.tup []]
def sa21_5 : List DO := [DO.lst [DV.bl false], DO.tup [DV.str (Str.ofString "told"), DV.bl false], DO.tup [DV.str (Str.ofString "told"), DV.bl false], DO.tup [DV.glo (Str.ofString "is_one_path_paper"), DV.glo (Str.ofString "is_growth_paper")], DO.tup [], DO.tup [DV.str (Str.ofString "told"), DV.bl false], DO.tup [DV.str (Str.ofString "told"), DV.bl false], DO.tup [], DO.tup [DV.int 0, DV.ref 487, DV.ref 488], DO.tup [DV.ref 487, DV.ref 488], DO.lst [DV.bl false, DV.bl false], DO.tup [DV.str (Str.ofString "told"), DV.bl false], DO.tup [DV.str (Str.ofString "told"), DV.bl false], DO.tup [DV.glo (Str.ofString "is_one_path_paper"), DV.glo (Str.ofString "is_growth_paper")], DO.tup []]
def sa21_6 : List DO := [DO.tup [DV.str (Str.ofString "a"), DV.non, DV.non], DO.tup [DV.str (Str.ofString "told"), DV.bl false], DO.tup [DV.str (Str.ofString "told"), DV.bl false], DO.tup [], DO.tup [DV.str (Str.ofString "told"), DV.bl false], DO.tup [DV.str (Str.ofString "told"), DV.bl false], DO.tup [DV.glo (Str.ofString "is_one_path_paper"), DV.glo (Str.ofString "is_growth_paper")], DO.tup [], DO.tup [DV.str (Str.ofString "told"), DV.bl false], DO.tup [DV.str (Str.ofString "told"), DV.bl false], DO.tup [], DO.lst [DV.bl false], DO.tup [DV.int 0, DV.int 1], DO.lst [DV.bl true, DV.bl true], DO.tup [DV.str (Str.ofString "told"), DV.bl false]]
def sa21_7 : List DO := [DO.tup [DV.str (Str.ofString "told"), DV.bl false]]
def so21 : List DO := so20 ++ (sa21_0 ++ sa21_1 ++ sa21_2 ++ sa21_3 ++ sa21_4 ++ sa21_5 ++ sa21_6 ++ sa21_7)
end K7
set_option maxHeartbeats 0
namespace K7
open PySem PySem.Spec PyProof.Rows L2 He Hx Hy PO RunX PB NKx MetX
theorem step0 (P : Program) (w : World) (K : PySem.W.Frag) (b : Int × Int × Int) : letI := drw7 P w K b; letI := cbv7; (i_0 K).run sg0 so0 = some (.nx sg1 so1) := by
  kernel_rfl
end K7
set_option maxHeartbeats 0
namespace K7
open PySem PySem.Spec PyProof.Rows L2 He Hx Hy PO RunX PB NKx MetX
theorem step1 (P : Program) (w : World) (K : PySem.W.Frag) (b : Int × Int × Int) : letI := drw7 P w K b; letI := cbv7; (i_1 K).run sg1 so1 = some (.nx sg2 so2) := by
  kernel_rfl
end K7
set_option maxHeartbeats 0
namespace K7
open PySem PySem.Spec PyProof.Rows L2 He Hx Hy PO RunX PB NKx MetX
theorem step2 (P : Program) (w : World) (K : PySem.W.Frag) (b : Int × Int × Int) : letI := drw7 P w K b; letI := cbv7; (i_2 K).run sg2 so2 = some (.nx sg3 so3) := by
  kernel_rfl
end K7
set_option maxHeartbeats 0
namespace K7
open PySem PySem.Spec PyProof.Rows L2 He Hx Hy PO RunX PB NKx MetX
theorem step3 (P : Program) (w : World) (K : PySem.W.Frag) (b : Int × Int × Int) : letI := drw7 P w K b; letI := cbv7; (i_3 K).run sg3 so3 = some (.nx sg4 so4) := by
  kernel_rfl
end K7
set_option maxHeartbeats 0
namespace K7
open PySem PySem.Spec PyProof.Rows L2 He Hx Hy PO RunX PB NKx MetX
theorem step4 (P : Program) (w : World) (K : PySem.W.Frag) (b : Int × Int × Int) : letI := drw7 P w K b; letI := cbv7; (i_4 K).run sg4 so4 = some (.nx sg5 so5) := by
  kernel_rfl
end K7
set_option maxHeartbeats 0
namespace K7
open PySem PySem.Spec PyProof.Rows L2 He Hx Hy PO RunX PB NKx MetX
theorem step5 (P : Program) (w : World) (K : PySem.W.Frag) (b : Int × Int × Int) : letI := drw7 P w K b; letI := cbv7; (i_5 K).run sg5 so5 = some (.nx sg6 so6) := by
  kernel_rfl
end K7
set_option maxHeartbeats 0
namespace K7
open PySem PySem.Spec PyProof.Rows L2 He Hx Hy PO RunX PB NKx MetX
theorem step6 (P : Program) (w : World) (K : PySem.W.Frag) (b : Int × Int × Int) : letI := drw7 P w K b; letI := cbv7; (i_6 K).run sg6 so6 = some (.nx sg7 so7) := by
  kernel_rfl
end K7
set_option maxHeartbeats 0
namespace K7
open PySem PySem.Spec PyProof.Rows L2 He Hx Hy PO RunX PB NKx MetX
theorem step7 (P : Program) (w : World) (K : PySem.W.Frag) (b : Int × Int × Int) : letI := drw7 P w K b; letI := cbv7; (i_7 K).run sg7 so7 = some (.nx sg8 so8) := by
  kernel_rfl
end K7
set_option maxHeartbeats 0
namespace K7
open PySem PySem.Spec PyProof.Rows L2 He Hx Hy PO RunX PB NKx MetX
theorem step8 (P : Program) (w : World) (K : PySem.W.Frag) (b : Int × Int × Int) : letI := drw7 P w K b; letI := cbv7; (i_8 K).run sg8 so8 = some (.nx sg9 so9) := by
  kernel_rfl
end K7
set_option maxHeartbeats 0
namespace K7
open PySem PySem.Spec PyProof.Rows L2 He Hx Hy PO RunX PB NKx MetX
theorem step9 (P : Program) (w : World) (K : PySem.W.Frag) (b : Int × Int × Int) : letI := drw7 P w K b; letI := cbv7; (i_9 K).run sg9 so9 = some (.nx sg10 so10) := by
  kernel_rfl
end K7
set_option maxHeartbeats 0
namespace K7
open PySem PySem.Spec PyProof.Rows L2 He Hx Hy PO RunX PB NKx MetX
theorem step10 (P : Program) (w : World) (K : PySem.W.Frag) (b : Int × Int × Int) : letI := drw7 P w K b; letI := cbv7; (i_10 K).run sg10 so10 = some (.nx sg11 so11) := by
  kernel_rfl
end K7
set_option maxHeartbeats 0
namespace K7
open PySem PySem.Spec PyProof.Rows L2 He Hx Hy PO RunX PB NKx MetX
theorem step11 (P : Program) (w : World) (K : PySem.W.Frag) (b : Int × Int × Int) : letI := drw7 P w K b; letI := cbv7; (i_11 K).run sg11 so11 = some (.nx sg12 so12) := by
  kernel_rfl
end K7
set_option maxHeartbeats 0
namespace K7
open PySem PySem.Spec PyProof.Rows L2 He Hx Hy PO RunX PB NKx MetX
theorem step12 (P : Program) (w : World) (K : PySem.W.Frag) (b : Int × Int × Int) : letI := drw7 P w K b; letI := cbv7; (i_12 K).run sg12 so12 = some (.nx sg13 so13) := by
  kernel_rfl
end K7
set_option maxHeartbeats 0
namespace K7
open PySem PySem.Spec PyProof.Rows L2 He Hx Hy PO RunX PB NKx MetX
theorem step13 (P : Program) (w : World) (K : PySem.W.Frag) (b : Int × Int × Int) : letI := drw7 P w K b; letI := cbv7; (i_13 K).run sg13 so13 = some (.nx sg14 so14) := by
  kernel_rfl
end K7
set_option maxHeartbeats 0
namespace K7
open PySem PySem.Spec PyProof.Rows L2 He Hx Hy PO RunX PB NKx MetX
theorem step14 (P : Program) (w : World) (K : PySem.W.Frag) (b : Int × Int × Int) : letI := drw7 P w K b; letI := cbv7; (i_14 K).run sg14 so14 = some (.nx sg15 so15) := by
  kernel_rfl
end K7
set_option maxHeartbeats 0
namespace K7
open PySem PySem.Spec PyProof.Rows L2 He Hx Hy PO RunX PB NKx MetX
theorem step15 (P : Program) (w : World) (K : PySem.W.Frag) (b : Int × Int × Int) : letI := drw7 P w K b; letI := cbv7; (i_15 K).run sg15 so15 = some (.nx sg16 so16) := by
  kernel_rfl
end K7
set_option maxHeartbeats 0
namespace K7
open PySem PySem.Spec PyProof.Rows L2 He Hx Hy PO RunX PB NKx MetX
theorem step16 (P : Program) (w : World) (K : PySem.W.Frag) (b : Int × Int × Int) : letI := drw7 P w K b; letI := cbv7; (i_16 K).run sg16 so16 = some (.nx sg17 so17) := by
  kernel_rfl
end K7
set_option maxHeartbeats 0
namespace K7
open PySem PySem.Spec PyProof.Rows L2 He Hx Hy PO RunX PB NKx MetX
theorem step17 (P : Program) (w : World) (K : PySem.W.Frag) (b : Int × Int × Int) : letI := drw7 P w K b; letI := cbv7; (i_17 K).run sg17 so17 = some (.nx sg18 so18) := by
  kernel_rfl
end K7
set_option maxHeartbeats 0
namespace K7
open PySem PySem.Spec PyProof.Rows L2 He Hx Hy PO RunX PB NKx MetX
theorem step18 (P : Program) (w : World) (K : PySem.W.Frag) (b : Int × Int × Int) : letI := drw7 P w K b; letI := cbv7; (i_18 K).run sg18 so18 = some (.nx sg19 so19) := by
  kernel_rfl
end K7
set_option maxHeartbeats 0
namespace K7
open PySem PySem.Spec PyProof.Rows L2 He Hx Hy PO RunX PB NKx MetX
theorem step19 (P : Program) (w : World) (K : PySem.W.Frag) (b : Int × Int × Int) : letI := drw7 P w K b; letI := cbv7; (i_19 K).run sg19 so19 = some (.nx sg20 so20) := by
  kernel_rfl
end K7
set_option maxHeartbeats 0
namespace K7
open PySem PySem.Spec PyProof.Rows L2 He Hx Hy PO RunX PB NKx MetX
theorem step20 (P : Program) (w : World) (K : PySem.W.Frag) (b : Int × Int × Int) : letI := drw7 P w K b; letI := cbv7; (i_20 K).run sg20 so20 = some (.nx sg21 so21) := by
  kernel_rfl
end K7
set_option maxHeartbeats 16000000
namespace K7
open PySem PySem.Spec PyProof.Rows L2 He Hx Hy PO RunX PB NKx MetX
theorem seq_run [Drw] [Cbv] {K : PySem.W.Frag} {E : XK} {t u : TS} {a : EvS K E t} {b : EvS K E u} {σ σ' : List (Option DV)} {S S' : List DO} {r : Option Out} (h : a.run σ S = some (.nx σ' S')) (k : b.run σ' S' = r) : (seqI a b).run σ S = r := by
  show (match a.run σ S with
    | some (.nx σ1 S1) => b.run σ1 S1
    | r => r) = r
  rw [h]
  exact k
section
variable [Drw] [Cbv] {K : PySem.W.Frag} {sg sg' : List (Option DV)} {so so' : List DO} {o : Option Out}
theorem tailv20 (st : (i_20 K).run sg so = some (.nx sg' so')) (a : (r_21 K).run sg' so' = o) : (r_20 K).run sg so = o := seq_run (a := i_20 K) (b := r_21 K) st a
theorem tailv19 (st : (i_19 K).run sg so = some (.nx sg' so')) (a : (r_20 K).run sg' so' = o) : (r_19 K).run sg so = o := seq_run (a := i_19 K) (b := r_20 K) st a
theorem tailv18 (st : (i_18 K).run sg so = some (.nx sg' so')) (a : (r_19 K).run sg' so' = o) : (r_18 K).run sg so = o := seq_run (a := i_18 K) (b := r_19 K) st a
theorem tailv17 (st : (i_17 K).run sg so = some (.nx sg' so')) (a : (r_18 K).run sg' so' = o) : (r_17 K).run sg so = o := seq_run (a := i_17 K) (b := r_18 K) st a
theorem tailv16 (st : (i_16 K).run sg so = some (.nx sg' so')) (a : (r_17 K).run sg' so' = o) : (r_16 K).run sg so = o := seq_run (a := i_16 K) (b := r_17 K) st a
theorem tailv15 (st : (i_15 K).run sg so = some (.nx sg' so')) (a : (r_16 K).run sg' so' = o) : (r_15 K).run sg so = o := seq_run (a := i_15 K) (b := r_16 K) st a
theorem tailv14 (st : (i_14 K).run sg so = some (.nx sg' so')) (a : (r_15 K).run sg' so' = o) : (r_14 K).run sg so = o := seq_run (a := i_14 K) (b := r_15 K) st a
theorem tailv13 (st : (i_13 K).run sg so = some (.nx sg' so')) (a : (r_14 K).run sg' so' = o) : (r_13 K).run sg so = o := seq_run (a := i_13 K) (b := r_14 K) st a
theorem tailv12 (st : (i_12 K).run sg so = some (.nx sg' so')) (a : (r_13 K).run sg' so' = o) : (r_12 K).run sg so = o := seq_run (a := i_12 K) (b := r_13 K) st a
theorem tailv11 (st : (i_11 K).run sg so = some (.nx sg' so')) (a : (r_12 K).run sg' so' = o) : (r_11 K).run sg so = o := seq_run (a := i_11 K) (b := r_12 K) st a
theorem tailv10 (st : (i_10 K).run sg so = some (.nx sg' so')) (a : (r_11 K).run sg' so' = o) : (r_10 K).run sg so = o := seq_run (a := i_10 K) (b := r_11 K) st a
theorem tailv9 (st : (i_9 K).run sg so = some (.nx sg' so')) (a : (r_10 K).run sg' so' = o) : (r_9 K).run sg so = o := seq_run (a := i_9 K) (b := r_10 K) st a
theorem tailv8 (st : (i_8 K).run sg so = some (.nx sg' so')) (a : (r_9 K).run sg' so' = o) : (r_8 K).run sg so = o := seq_run (a := i_8 K) (b := r_9 K) st a
theorem tailv7 (st : (i_7 K).run sg so = some (.nx sg' so')) (a : (r_8 K).run sg' so' = o) : (r_7 K).run sg so = o := seq_run (a := i_7 K) (b := r_8 K) st a
theorem tailv6 (st : (i_6 K).run sg so = some (.nx sg' so')) (a : (r_7 K).run sg' so' = o) : (r_6 K).run sg so = o := seq_run (a := i_6 K) (b := r_7 K) st a
theorem tailv5 (st : (i_5 K).run sg so = some (.nx sg' so')) (a : (r_6 K).run sg' so' = o) : (r_5 K).run sg so = o := seq_run (a := i_5 K) (b := r_6 K) st a
theorem tailv4 (st : (i_4 K).run sg so = some (.nx sg' so')) (a : (r_5 K).run sg' so' = o) : (r_4 K).run sg so = o := seq_run (a := i_4 K) (b := r_5 K) st a
theorem tailv3 (st : (i_3 K).run sg so = some (.nx sg' so')) (a : (r_4 K).run sg' so' = o) : (r_3 K).run sg so = o := seq_run (a := i_3 K) (b := r_4 K) st a
theorem tailv2 (st : (i_2 K).run sg so = some (.nx sg' so')) (a : (r_3 K).run sg' so' = o) : (r_2 K).run sg so = o := seq_run (a := i_2 K) (b := r_3 K) st a
theorem tailv1 (st : (i_1 K).run sg so = some (.nx sg' so')) (a : (r_2 K).run sg' so' = o) : (r_1 K).run sg so = o := seq_run (a := i_1 K) (b := r_2 K) st a
theorem tailv0 (st : (i_0 K).run sg so = some (.nx sg' so')) (a : (r_1 K).run sg' so' = o) : (r_0 K).run sg so = o := seq_run (a := i_0 K) (b := r_1 K) st a
end
section
variable (P : Program) (w : World) (K : PySem.W.Frag) (b : Int × Int × Int)
theorem tail21 : @EvS.run (drw7 P w K b) cbv7 K EN _ (@r_21 (drw7 P w K b) cbv7 K) sg21 so21 = some (.rt (.bl true) so21) := by kernel_rfl
theorem tail20 : @EvS.run (drw7 P w K b) cbv7 K EN _ (@r_20 (drw7 P w K b) cbv7 K) sg20 so20 = some (.rt (.bl true) so21) := @tailv20 (drw7 P w K b) cbv7 K sg20 sg21 so20 so21 _ (step20 P w K b) (tail21 P w K b)
theorem tail19 : @EvS.run (drw7 P w K b) cbv7 K EN _ (@r_19 (drw7 P w K b) cbv7 K) sg19 so19 = some (.rt (.bl true) so21) := @tailv19 (drw7 P w K b) cbv7 K sg19 sg20 so19 so20 _ (step19 P w K b) (tail20 P w K b)
theorem tail18 : @EvS.run (drw7 P w K b) cbv7 K EN _ (@r_18 (drw7 P w K b) cbv7 K) sg18 so18 = some (.rt (.bl true) so21) := @tailv18 (drw7 P w K b) cbv7 K sg18 sg19 so18 so19 _ (step18 P w K b) (tail19 P w K b)
theorem tail17 : @EvS.run (drw7 P w K b) cbv7 K EN _ (@r_17 (drw7 P w K b) cbv7 K) sg17 so17 = some (.rt (.bl true) so21) := @tailv17 (drw7 P w K b) cbv7 K sg17 sg18 so17 so18 _ (step17 P w K b) (tail18 P w K b)
theorem tail16 : @EvS.run (drw7 P w K b) cbv7 K EN _ (@r_16 (drw7 P w K b) cbv7 K) sg16 so16 = some (.rt (.bl true) so21) := @tailv16 (drw7 P w K b) cbv7 K sg16 sg17 so16 so17 _ (step16 P w K b) (tail17 P w K b)
theorem tail15 : @EvS.run (drw7 P w K b) cbv7 K EN _ (@r_15 (drw7 P w K b) cbv7 K) sg15 so15 = some (.rt (.bl true) so21) := @tailv15 (drw7 P w K b) cbv7 K sg15 sg16 so15 so16 _ (step15 P w K b) (tail16 P w K b)
theorem tail14 : @EvS.run (drw7 P w K b) cbv7 K EN _ (@r_14 (drw7 P w K b) cbv7 K) sg14 so14 = some (.rt (.bl true) so21) := @tailv14 (drw7 P w K b) cbv7 K sg14 sg15 so14 so15 _ (step14 P w K b) (tail15 P w K b)
theorem tail13 : @EvS.run (drw7 P w K b) cbv7 K EN _ (@r_13 (drw7 P w K b) cbv7 K) sg13 so13 = some (.rt (.bl true) so21) := @tailv13 (drw7 P w K b) cbv7 K sg13 sg14 so13 so14 _ (step13 P w K b) (tail14 P w K b)
theorem tail12 : @EvS.run (drw7 P w K b) cbv7 K EN _ (@r_12 (drw7 P w K b) cbv7 K) sg12 so12 = some (.rt (.bl true) so21) := @tailv12 (drw7 P w K b) cbv7 K sg12 sg13 so12 so13 _ (step12 P w K b) (tail13 P w K b)
theorem tail11 : @EvS.run (drw7 P w K b) cbv7 K EN _ (@r_11 (drw7 P w K b) cbv7 K) sg11 so11 = some (.rt (.bl true) so21) := @tailv11 (drw7 P w K b) cbv7 K sg11 sg12 so11 so12 _ (step11 P w K b) (tail12 P w K b)
theorem tail10 : @EvS.run (drw7 P w K b) cbv7 K EN _ (@r_10 (drw7 P w K b) cbv7 K) sg10 so10 = some (.rt (.bl true) so21) := @tailv10 (drw7 P w K b) cbv7 K sg10 sg11 so10 so11 _ (step10 P w K b) (tail11 P w K b)
theorem tail9 : @EvS.run (drw7 P w K b) cbv7 K EN _ (@r_9 (drw7 P w K b) cbv7 K) sg9 so9 = some (.rt (.bl true) so21) := @tailv9 (drw7 P w K b) cbv7 K sg9 sg10 so9 so10 _ (step9 P w K b) (tail10 P w K b)
theorem tail8 : @EvS.run (drw7 P w K b) cbv7 K EN _ (@r_8 (drw7 P w K b) cbv7 K) sg8 so8 = some (.rt (.bl true) so21) := @tailv8 (drw7 P w K b) cbv7 K sg8 sg9 so8 so9 _ (step8 P w K b) (tail9 P w K b)
theorem tail7 : @EvS.run (drw7 P w K b) cbv7 K EN _ (@r_7 (drw7 P w K b) cbv7 K) sg7 so7 = some (.rt (.bl true) so21) := @tailv7 (drw7 P w K b) cbv7 K sg7 sg8 so7 so8 _ (step7 P w K b) (tail8 P w K b)
theorem tail6 : @EvS.run (drw7 P w K b) cbv7 K EN _ (@r_6 (drw7 P w K b) cbv7 K) sg6 so6 = some (.rt (.bl true) so21) := @tailv6 (drw7 P w K b) cbv7 K sg6 sg7 so6 so7 _ (step6 P w K b) (tail7 P w K b)
theorem tail5 : @EvS.run (drw7 P w K b) cbv7 K EN _ (@r_5 (drw7 P w K b) cbv7 K) sg5 so5 = some (.rt (.bl true) so21) := @tailv5 (drw7 P w K b) cbv7 K sg5 sg6 so5 so6 _ (step5 P w K b) (tail6 P w K b)
theorem tail4 : @EvS.run (drw7 P w K b) cbv7 K EN _ (@r_4 (drw7 P w K b) cbv7 K) sg4 so4 = some (.rt (.bl true) so21) := @tailv4 (drw7 P w K b) cbv7 K sg4 sg5 so4 so5 _ (step4 P w K b) (tail5 P w K b)
theorem tail3 : @EvS.run (drw7 P w K b) cbv7 K EN _ (@r_3 (drw7 P w K b) cbv7 K) sg3 so3 = some (.rt (.bl true) so21) := @tailv3 (drw7 P w K b) cbv7 K sg3 sg4 so3 so4 _ (step3 P w K b) (tail4 P w K b)
theorem tail2 : @EvS.run (drw7 P w K b) cbv7 K EN _ (@r_2 (drw7 P w K b) cbv7 K) sg2 so2 = some (.rt (.bl true) so21) := @tailv2 (drw7 P w K b) cbv7 K sg2 sg3 so2 so3 _ (step2 P w K b) (tail3 P w K b)
theorem tail1 : @EvS.run (drw7 P w K b) cbv7 K EN _ (@r_1 (drw7 P w K b) cbv7 K) sg1 so1 = some (.rt (.bl true) so21) := @tailv1 (drw7 P w K b) cbv7 K sg1 sg2 so1 so2 _ (step1 P w K b) (tail2 P w K b)
theorem tail0 : @EvS.run (drw7 P w K b) cbv7 K EN _ (@r_0 (drw7 P w K b) cbv7 K) sg0 so0 = some (.rt (.bl true) so21) := @tailv0 (drw7 P w K b) cbv7 K sg0 sg1 so0 so1 _ (step0 P w K b) (tail1 P w K b)
theorem bodyR_run [Drw] [Cbv] {K : PySem.W.Frag} {N ps : List Str} {ts : TS} [b : EvS K EN ts] {ds : List DV} {S : List DO} (h : ds.length = ps.length) : (bodyR (K := K) N ps ts).run ds S = endR (b.run (startD N ds) S) := if_pos h
theorem endv [Drw] [Cbv] {K : PySem.W.Frag} {so : List DO} (t : (r_0 K).run sg0 so0 = some (.rt (.bl true) so)) : (D_right K).run [.ref 0] [.bag 0] = some (.ret (.bl true) so) := by
  have e : (D_right K).run [.ref 0] [.bag 0] = endR ((r_0 K).run sg0 so0) := bodyR_run (b := r_0 K) rfl
  rw [e, t]
  rfl
theorem right_run : @DefR.run (drw7 P w K b) (@D_right (drw7 P w K b) cbv7 K) [.ref 0] [.bag 0] = some (.ret (.bl true) so21) := @endv (drw7 P w K b) cbv7 K _ (tail0 P w K b)
theorem so21_0 : ∃ k, so21[0]? = some (.bag k) := by
  have h : (match so21[0]? with
    | some (.bag _) => true
    | _ => false) = true := by kernel_rfl
  split at h
  · exact ⟨_, by assumption⟩
  · cases h
end
end K7
set_option maxHeartbeats 4000000
/-! The law's end where several defs make lambdas: their tables are empty at the head's heap. -/
namespace L2
open PySem PySem.Spec PyProof.Rows
/-- from the head's heap: the law is called, nothing is being shown, tables of codes (of the defs Ts tells) -/
theorem law_callL {P : Program} {w : World} {K : PySem.W.Frag} {mg mb : Str → Option Value} {CX : CXT} {k : Nat} {fa a : Addr} {Ts : List (Addr × Addr)} {fd : FuncData} {x : Str} {sp : Sp} {s : Shared} {us : List Value} {ns : List Int}
    (KX : K.In s.heap) (gl : s.heap.Ns mainGlobals mg) (bl : s.heap.Ns builtinsNs mb) (bo : ∀ x : Str, x ≠ "__name__" → mb x = bootBuiltins x) (lim : s.heap.NoLimit) (gens : s.gens = #[])
    (hT : ∀ q ∈ Ts, s.heap.get? q.2 = some { cls := .none, data := .fields #[] }) (nT : ∀ q ∈ Ts, K.lookup q.2 = none) (C : ∀ q ∈ Ts, PySem.W.CodeHd s.heap q.1 q.2)
    (hbm : ∃ (bm : Addr) (ob : Obj), mg "__builtins__" = some (.ref bm) ∧ bm ≠ builtinsNs ∧ s.heap.get? bm = some ob ∧ ob.cls = .type "module" ∧ ob.dict = some builtinsNs ∧ ob.data = .plain)
    (ha : s.heap.get? a = some { cls := .type "list", data := .seq us.toArray }) (hi : IntsAre us ns) (hl : ns.length ≤ sizeLine) (hr : Room k callerA)
    (F : ∀ base : Heap, K.In base → base.Ns mainGlobals mg → (∀ q ∈ Ts, LamX.TabB base mg q.1 q.2) → FnG P w K mg base CX k fa fd [x] sp) (hbind : ∀ (s : Shared) (u : Value), BindsTo s fd ⟨[u], []⟩ [(x, u)])
    (hsp : ∀ H : Hp, (∀ q ∈ Ts, H q.2 = some (.tbl #[])) → SqL K H a (ns.map V.int) → sp [.ref a] H (fun v _ => v = .bl true) fun _ _ _ => False)
    (hCX : ∀ H e s', CX [] H s (fun _ _ _ => False) e s' → False) :
    codeAny (model P w) callerA (.call (.ref fa) ⟨[.ref a], []⟩) (fun r s' => r = .ok (.ret (.bool true)) ∧ OldK s.heap s'.heap ∧ s'.os = s.os ∧ AllBare s'.gens) s := by
  have rv := vals_ints hi
  have lenV := hi.length
  have naP : ∀ q ∈ Ts, a ≠ q.2 := fun q hq z => by
    rw [z, hT q hq] at ha
    have z' : Data.fields #[] = Data.seq us.toArray _ := congrArg Obj.data (Option.some.inj ha)
    cases z'
  have go : ∀ H : Hp, (∀ q ∈ Ts, H q.2 = some (.tbl #[])) → (∀ b, (∀ q ∈ Ts, b ≠ q.2) → H b ≠ none → b = a ∧ K.lookup a = none ∧ ∃ xs, H b = some (.frz { cls := .type "list", data := .seq us.toArray } (.lst xs))) → SqL K H a (ns.map V.int) → HOk P w H s.heap →
      codeAny (model P w) callerA (.call (.ref fa) ⟨[.ref a], []⟩) (fun r s' => r = .ok (.ret (.bool true)) ∧ OldK s.heap s'.heap ∧ s'.os = s.os ∧ AllBare s'.gens) s := by
    intro H hP hO hS hok
    have clear : ∀ {b : Addr} {o : Obj}, s.heap.get? b = some o → (∀ q ∈ Ts, b ≠ q.2) → (b = a → K.lookup a = none → False) → (hidT s.heap H).get? b = some o := fun {b o} e n1 n2 => by
      refine hidT_get e ?_
      cases q : H b with
      | none => rfl
      | some u =>
        obtain ⟨z1, z2, _⟩ := hO b n1 (by rw [q]; simp)
        exact (n2 z1 z2).elim
    have notP : ∀ {b : Addr} {o : Obj}, s.heap.get? b = some o → o.data ≠ .fields #[] → ∀ q ∈ Ts, b ≠ q.2 := fun {b o} e n q hq z => by
      rw [z, hT q hq] at e
      cases e
      exact n rfl
    have notA : ∀ {b : Addr} {o : Obj}, s.heap.get? b = some o → (∀ vs n, o.data ≠ .seq vs n) → b = a → K.lookup a = none → False := fun {b o} e n z _ => by
      rw [z, ha] at e
      cases e
      exact n _ _ rfl
    have nsB : ∀ {b : Addr} {m : Str → Option Value}, s.heap.Ns b m → (hidT s.heap H).Ns b m := fun {b m} ⟨o, es, ep, e, d, r⟩ =>
      ⟨o, es, ep, clear e (notP e (by rw [d]; exact fun z => nomatch z)) (notA e fun vs n => by rw [d]; exact fun z => nomatch z), d, r⟩
    have KB : K.In (hidT s.heap H) := fun b o e => clear (KX b o e) (fun q hq z => by rw [z, nT q hq] at e; cases e) (fun z1 z2 => by rw [z1, z2] at e; cases e)
    have M : L2.Mod K mg (hidT s.heap H) := ⟨KB, nsB gl, ⟨mb, nsB bl, bo⟩, let ⟨mc, h1, h2⟩ := lim; ⟨mc, nsB h1, h2⟩⟩
    have TB : ∀ q ∈ Ts, LamX.TabB (hidT s.heap H) mg q.1 q.2 := fun q hq => by
      refine ⟨?_, ?_, fun z => ?_⟩
      · obtain ⟨o, vs, file, tf, flags, tg, inF, text, tt, e1, r1, r2, r3, rest⟩ := C q hq
        refine ⟨o, vs, file, tf, flags, tg, inF, text, tt, clear e1 (notP e1 fun z => ?_) (notA e1 fun vs' n => by rw [r2]; exact fun z => nomatch z), r1, r2, r3, rest⟩
        rw [r2] at z
        cases z
        simp at r3
      · obtain ⟨bm, ob, b1, b2, b3, b4, b5, b6⟩ := hbm
        have nG : bm ≠ mainGlobals := fun q => by
          obtain ⟨o, es, ep, e, d, _⟩ := gl
          rw [q, e] at b3
          cases b3
          rw [d] at b6
          cases b6
        have nP := notP b3 (by rw [b6]; exact fun z => nomatch z)
        exact ⟨bm, ob, b1, b2, nG, nP q hq, clear b3 nP (notA b3 fun vs n => by rw [b6]; exact fun z => nomatch z), b4, b5, b6⟩
      · obtain ⟨o, es, ep, e, d, _⟩ := gl
        exact notP e (by rw [d]; exact fun z => nomatch z) q hq z
    have e0 : Env0 P w K mg (hidT s.heap H) callerA [] s H := ⟨rfl, M, fun b o e => of_hidT e, Nat.le_of_eq (hidT_size _ _), trivial, fun b hb => absurd (show b ∈ ([] : List Addr) from hb) (by simp), hok, .of_eq gens⟩
    refine codeAny_mono ((F _ KB (nsB gl) TB).run callerA [] s H ⟨[.ref a], []⟩ [.ref a] [.ref a] _ _ rfl hr e0 (hbind s (.ref a)) (.cons rfl .nil) (hsp H hP hS)) fun r s' h => ?_
    match r, h with
    | .error e, h => exact (hCX H e s' h).elim
    | .ok .next, h => exact h.elim
    | .ok .brk, h => exact h.elim
    | .ok .cont, h => exact h.elim
    | .ok (.ret u), h =>
      obtain ⟨v, H', os, bare, un, hok', r', q⟩ := h
      have q' : v = .bl true := q
      subst q'
      obtain rfl : u = Value.bool true := r'
      have kept : ∀ b o, (∀ q ∈ Ts, b ≠ q.2) → s.heap.get? b = some o → s'.heap.get? b = some o := fun b o nb e => by
        cases q : H b with
        | none => exact un.keep b o e q (by intro z; exact absurd (show b ∈ ([] : List Addr) from z) (by simp)) (by simp)
        | some u =>
          obtain ⟨_, _, xs, z⟩ := hO b nb (by rw [q]; simp)
          obtain ⟨e1, _⟩ := hok b _ z
          obtain ⟨e2, _⟩ := hok' b _ (un.frzs b _ _ z)
          rw [e] at e1
          cases e1
          exact e2
      have tab' : ∀ q ∈ Ts, ∃ more, s'.heap.get? q.2 = some { cls := .none, data := .fields (#[] ++ more) } := fun q hq => by
        obtain ⟨more, grew⟩ := un.tbls q.2 #[] (hP q hq)
        exact ⟨more, hok' q.2 _ grew⟩
      have cas : ∀ b : Addr, (∃ q ∈ Ts, b = q.2) ∨ ∀ q ∈ Ts, b ≠ q.2 := fun b => by
        by_cases c : ∃ q ∈ Ts, b = q.2
        · exact .inl c
        · exact .inr fun q hq z => c ⟨q, hq, z⟩
      refine ⟨rfl, ⟨fun b o e => ?_, fun b o e => ?_⟩, os, bare⟩
      · rcases cas b with ⟨q, hq, hb⟩ | hb
        · subst hb
          rw [hT q hq] at e
          cases e
          obtain ⟨more, t⟩ := tab' q hq
          exact .inr (.inl ⟨((C q hq).tab (hT q hq)).isCodeTable, rfl, #[], more, rfl, t⟩)
        · exact .inl (kept b o hb e)
      · rcases cas b with ⟨q, hq, hb⟩ | hb
        · subst hb
          obtain ⟨more, t⟩ := tab' q hq
          exact ⟨_, t⟩
        · exact ⟨o, kept b o hb e⟩
  have inT : ∀ b : Addr, b ∈ Ts.map (·.2) → s.heap.get? b = some { cls := .none, data := .fields #[] } := fun b hb => by
    obtain ⟨q, hq, rfl⟩ := List.mem_map.mp hb
    exact hT q hq
  have notT : ∀ b : Addr, (∀ q ∈ Ts, b ≠ q.2) → b ∉ Ts.map (·.2) := fun b n hb => by
    obtain ⟨q, hq, e⟩ := List.mem_map.mp hb
    exact n q hq e.symm
  cases hk : K.lookup a with
  | some o =>
    have e := KX a o hk
    rw [ha] at e
    cases e
    refine go (fun b => if b ∈ Ts.map (·.2) then some (.tbl #[]) else none) (fun q hq => if_pos (List.mem_map.mpr ⟨q, hq, rfl⟩)) (fun b n z => absurd (if_neg (notT b n)) z) (.inr ⟨_, us.toArray, _, hk, rfl, rfl, rfl, by rw [List.size_toArray, lenV]; exact hl, by simpa using rv⟩) (fun b u z => ?_)
    by_cases hb : b ∈ Ts.map (·.2)
    · have z' := (if_pos hb).symm.trans z
      cases z'
      exact inT b hb
    · have z' := (if_neg hb).symm.trans z
      cases z'
  | none =>
    have naT : a ∉ Ts.map (·.2) := notT a naP
    refine go (fun b => if b ∈ Ts.map (·.2) then some (.tbl #[]) else if b = a then some (.frz { cls := .type "list", data := .seq us.toArray } (.lst (ns.map V.int))) else none) (fun q hq => if_pos (List.mem_map.mpr ⟨q, hq, rfl⟩)) (fun b n z => ?_) (.inl (.inr ⟨{ cls := .type "list", data := .seq us.toArray }, (if_neg naT).trans (if_pos rfl)⟩)) (fun b u z => ?_)
    · by_cases hb : b = a
      · exact ⟨hb, hk, _, (if_neg (notT b n)).trans (if_pos hb)⟩
      · exact absurd ((if_neg (notT b n)).trans (if_neg hb)) z
    · by_cases hb : b ∈ Ts.map (·.2)
      · have z' := (if_pos hb).symm.trans z
        cases z'
        exact inT b hb
      · have z1 := (if_neg hb).symm.trans z
        by_cases hb2 : b = a
        · have z' := (if_pos hb2).symm.trans z1
          cases z'
          subst hb2
          exact ⟨ha, by rw [List.length_map]; exact hl, us, _, rv, ha⟩
        · have z' := (if_neg hb2).symm.trans z1
          cases z'
end L2
namespace LamX
open PySem PySem.Spec PyProof.Rows L2
/-- what is known of the law at the head's heap h, the tables Ts still empty -/
def LawL (l : PySem.W.OpenLaw) (w : World) (K : PySem.W.Frag) (CX : CXT) (k n : Nat) (x : Str) (mg : Str → Option Value) (fa : Addr) (h : Heap) : Prop :=
  ∃ (fd : FuncData) (Ts : List (Addr × Addr)) (sp : Sp), (∀ q ∈ Ts, h.get? q.2 = some { cls := .none, data := .fields #[] }) ∧ (∀ q ∈ Ts, K.lookup q.2 = none) ∧ (∀ q ∈ Ts, PySem.W.CodeHd h q.1 q.2) ∧ (∀ (s : Shared) (u : Value), BindsTo s fd ⟨[u], []⟩ [(x, u)]) ∧
    (∀ (H : Hp) (a : Addr) (ns : List Int), ns.length ≤ n → (∀ z ∈ ns, Builtin.Int.intBits z ≤ 1048576) → (∀ q ∈ Ts, H q.2 = some (.tbl #[])) → SqL K H a (ns.map V.int) → sp [.ref a] H (fun v _ => v = .bl true) fun _ _ _ => False) ∧
    ∀ base : Heap, K.In base → base.Ns mainGlobals mg → (∀ q ∈ Ts, TabB base mg q.1 q.2) → FnG l.prog w K mg base CX k fa fd [x] sp
theorem walk_ofOwnL {l : PySem.W.OpenLaw} {n k : Nat} {q : Program} {loose : List Str} {XP : (Str → Option Value) → Heap → Prop} {YP : World → Heap → Prop} {d : DefRec} {CX : World → CXT} {x : Str} {ys : List Str}
    (hn : l.most = some n) (hn2 : n ≤ sizeLine) (hdf : d.params.defaults = []) (hr : Room k callerA) (hrec : (ys.all fun y => (recsOf q).any fun e => e.name == y) = true)
    (F : ∀ (w : World) (mg : Str → Option Value) (fa : Addr) (h : Heap), YP w h → h.Ns mainGlobals mg → mg d.name = some (.ref fa) → ∃ K : PySem.W.Frag, K.In h ∧ ((∀ y ∈ ys, ∃ fb : Addr, mg y = some (.ref fb) ∧ OwnTab K fb h) → LawL l w K (CX w) k n x mg fa h))
    (hCX : ∀ (w : World) (H : Hp) (s : Shared) (e : Value) (s' : Shared), CX w [] H s (fun _ _ _ => False) e s' → False) :
    PySem.W.WalkO q loose XP YP l.row.toRowW d [] (fun f vs => PySem.call f vs) := by
  refine Att.attach_callB hn hdf fun w s₀ s₁ mg mb fa o pm cd doc a vs ns G Y ho hd hcd hmg hobj hints hlen hbits hg => ?_
  obtain ⟨K, KX, F2⟩ := F w mg fa _ Y G.T.g hmg
  have own : ∀ y ∈ ys, ∃ fb : Addr, mg y = some (.ref fb) ∧ OwnTab K fb s₁.heap := fun y hy => by
    obtain ⟨dL, hm, hn1⟩ := List.any_eq_true.mp (List.all_eq_true.mp hrec y hy)
    have hny : dL.name = y := beq_iff_eq.mp hn1
    obtain ⟨a', o', fd', c', P', h1, h2, h3, h4, h5, h6⟩ := G.T.tab dL hm
    rw [hny] at h1
    refine ⟨a', h1, fun c P o1 fd1 e dd vs1 sl k1 k2 k3 k4 k5 => ?_⟩
    have g1 := KX _ _ k1
    rw [g1] at h2
    cases h2
    rw [k2] at h3
    cases h3
    rw [k3] at h4
    cases h4
    obtain ⟨⟨oc, vc, e1, _, e3, e4⟩, hP⟩ := h6
    have g2 := KX _ _ k4
    rw [g2] at e1
    cases e1
    cases e3
    rw [k5] at e4
    cases e4
    exact hP
  obtain ⟨fd, Ts, sp, hT, nT, C, hb, hsp, hF⟩ := F2 own
  exact law_callL KX G.T.g G.T.b G.T.builtins G.T.nolimit hg hT nT C G.T.bmain hobj hints (Nat.le_trans hlen hn2) hr hF hb (fun H hH hS => hsp H a ns hlen hbits hH hS) fun H e s' => hCX w H s₁ e s'
end LamX
set_option maxHeartbeats 16000000
namespace K7
open PySem PySem.Spec PyProof.Rows L2 He Hx Hy PO RunX PB NKx MetX
section
variable {P : Program} {w : World} {K : PySem.W.Frag} {mg : Str → Option Value} {base : Heap}
def spRightB (K : PySem.W.Frag) : Sp := fun vs H Q _ => ∃ (p : Addr), vs = [.ref p] ∧ (∃ b, H p = some (bagB b)) ∧ LamX.Tabs (tabs7 K) H ∧ ∀ H', (∀ b o, b ≠ p → H b = some o → (∀ ps, o ≠ .tbl ps) → H' b = some o) → (∃ b, H' p = some (bagB b)) → LamX.Tabs (tabs7 K) H' → Q (.bl true) H'
theorem right_sp (P : Program) (w : World) {p : Addr} {b : Int × Int × Int} {H : Hp} {Q : VK} {E : XK} (hb : H p = some (bagB b)) (hT : LamX.Tabs (tabs7 K) H) (k : ∀ H', (∀ b o, b ≠ p → H b = some o → (∀ ps, o ≠ .tbl ps) → H' b = some o) → (∃ b, H' p = some (bagB b)) → LamX.Tabs (tabs7 K) H' → Q (.bl true) H') :
    @spOf (drw7 P w K b) cbv7 K (@D_right (drw7 P w K b) cbv7 K) [.ref p] H Q E := by
  letI := drw7 P w K b
  letI := cbv7
  have R : Rep K [p] [.bag 0] H := by
    refine ⟨rfl, fun i j a hi hj ne => ?_, fun i o a hi ha => ?_, fun o ho => ?_, ⟨hT, fun q hq => (by cases hq), ⟨[p], rfl⟩⟩⟩
    · cases i with
      | zero =>
        cases j with
        | zero => exact absurd rfl ne
        | succ j => simp at hj
      | succ i => simp at hi
    · cases i with
      | zero =>
        cases hi
        cases ha
        exact ⟨_, hb, rfl⟩
      | succ i => simp at hi
    · rw [List.mem_singleton.mp ho]
      rfl
  refine ⟨[p], [.bag 0], [.ref 0], _, R, rfl, by rfl, right_run P w K b, fun ρ' H' R' F' => k H' (fun x o nx hx nt => F'.out x o (fun z => nx (List.mem_singleton.mp z)) hx nt) ?_ R'.tb.tabs⟩
  obtain ⟨k4, h4⟩ := so21_0
  obtain ⟨m, em, _⟩ := F'.pre
  obtain ⟨h, eh, sh⟩ := R'.obj 0 _ p h4 (by rw [em]; rfl)
  have sh : h = bagB (bk k4) := sh
  rw [sh] at eh
  exact ⟨_, eh⟩
theorem mem7_1 (K : PySem.W.Frag) : (lawTab "_law_right" K, ("_law_right.<locals>.<lambda>" : Str)) ∈ tabs7 K := List.mem_cons_self
theorem mem7_2 (K : PySem.W.Frag) : (lawTab "double_circles" K, ("double_circles.<locals>.<lambda>" : Str)) ∈ tabs7 K := List.mem_cons_of_mem _ List.mem_cons_self
theorem ok_rightB (T : Tx K mg) (ne : lawTab "_law_right" K ≠ lawTab "double_circles" K) (TBr : LamX.TabB base mg (lawCode "_law_right" K) (lawTab "_law_right" K)) (TBd : LamX.TabB base mg (lawCode "double_circles" K) (lawTab "double_circles" K)) {fd : FuncData} (F : FunD K "_law_right" "_law_right" (defArgs s_right) (defBody s_right) (defScope s_right) [] [] (ga K "_law_right") fd) : FnG P w K mg base CX0 12 (ga K "_law_right") fd ["sack"] (spRightB K) where
  len := fun vs H Q E h => by
    obtain ⟨p, rfl, _⟩ := h
    rfl
  run := fun A outer s H args us vs Q E hg hr e0 hbd r h => by
    obtain ⟨p, rfl, ⟨b, hb⟩, ht, k⟩ := h
    have TD : @DcT (drw7 P w K b) K mg base := @DcT.mk (drw7 P w K b) K mg base TBd (mem7_2 K) (fun q hq e => by
      rcases List.mem_cons.mp (show q ∈ tabs7 K from hq) with z | z
      · rw [z] at e
        exact absurd e ne
      · rw [List.mem_singleton.mp z])
    have TR : @RtT (drw7 P w K b) K mg base := @RtT.mk (drw7 P w K b) K mg base TBr (mem7_1 K) (fun q hq e => by
      rcases List.mem_cons.mp (show q ∈ tabs7 K from hq) with z | z
      · rw [z]
      · rw [List.mem_singleton.mp z] at e
        exact absurd e.symm ne) rfl
    exact (@ok_right (drw7 P w K b) cbv7 K mg base T TD TR fd F).run A outer s H args us [.ref p] Q E hg hr e0 hbd r (right_sp P w hb ht k)
theorem sackP (T : Tx K mg) : Has P w K mg base (L2.CX P w) 1 "_law_sack" ["script", "spot"] (spStartB K) := @ok_sack (drw7 P w K (0, 0, 0)) cbv7 K mg base T
def spLaw (K : PySem.W.Frag) : Sp := fun vs H Q _ => ∃ (a : Addr) (ns : List Int), vs = [.ref a] ∧ SqL K H a (ns.map V.int) ∧ ns.length ≤ 63 ∧ LamX.Tabs (tabs7 K) H ∧ ∀ H', Q (.bl true) H'
theorem sqL_ext {H H' : Hp} {a : Addr} {xs : List V} (h : SqL K H a xs) (s : LamX.ExtN H H') : SqL K H' a xs := by
  rcases h with (h | ⟨z, h⟩) | h
  · exact .inl (.inl (s _ _ h fun _ z => nomatch z))
  · exact .inl (.inr ⟨z, s _ _ h fun _ z => nomatch z⟩)
  · exact .inr h
theorem ifF {c : Bool} {A B : Prop} (hc : c = false) (h : B) : if c = true then A else B := by
  subst hc
  exact h
theorem ok_law (T : Tx K mg) (ne : lawTab "_law_right" K ≠ lawTab "double_circles" K) (TBr : LamX.TabB base mg (lawCode "_law_right" K) (lawTab "_law_right" K)) (TBd : LamX.TabB base mg (lawCode "double_circles" K) (lawTab "double_circles" K)) {fdr : FuncData} (Fr : FunD K "_law_right" "_law_right" (defArgs s_right) (defBody s_right) (defScope s_right) [] [] (ga K "_law_right") fdr) {fd : FuncData} (F : FunD K "law" "law" (defArgs s_law) (defBody s_law) (defScope s_law) [] [] (ga K "law") fd) : FnG P w K mg base CX0 13 (ga K "law") fd ["script"] (spLaw K) := by
  obtain ⟨g_sack, k_sack, fd_sack, G_sack, b_sack⟩ := sackP (P := P) (w := w) (base := base) T
  have G_right := ok_rightB (P := P) (w := w) T ne TBr TBd Fr
  have k_right : PySem.W.keepIn K (.ref (ga K "_law_right")) = true := Fr.kp
  have b_right : L2.Binds K fdr ["sack"] [] := Fr.bindsN (fun _ _ _ _ _ _ us hl => match us, hl with | [_], _ => rfl)
  refine fnG_at F rfl sc_law (fun vs H Q E h => ?_) (fun A outer s H vs Q E hg hr h => ?_)
  · obtain ⟨a, ns, rfl, _⟩ := h
    rfl
  letI := drw7 P w K (0, 0, 0)
  letI := cbv7
  refine ⟨_, PSs.nox (
    (pss_cons (ps_for PassesOwn.never rfl (pi_range1 (by rfl) T.n_range (pa_cons (pe_callB (call_max2 rfl) (by rfl) T.n_max (by decide +kernel) (pa_cons pe_int (pa_cons (pe_callB (call_min2 rfl) (by rfl) T.n_min (by decide +kernel) (pa_cons pe_int (pa_cons (pe_callB (r := rLen K) call_len (by rfl) T.n_len (by decide +kernel) (pa_cons (pv 0) pa_nil)) pa_nil))) pa_nil))) pa_nil)) (pg_name (i := 1) sc_law.nd rfl (Or.inl rfl)) (pss_cons (ps_set (i := 2) sc_law.nd rfl (Or.inl rfl) (by exact (pe_call (E := E0) G_sack (hr.mono (by decide)) (by rfl) g_sack k_sack b_sack .nil passX0 (pa_cons (pv 0) (pa_cons (pv 1) pa_nil)))))
    (pss_one (ps_if (PW.pt (pw_or (pt_not (pt_val (pe_callG G_right hg (hr.mono (by decide)) (by rfl) T.g_right k_right b_right pass0 (pa_cons (pv 2) pa_nil)))) (pw_or1 (pt_not (pt_val (pe_callG G_right hg (hr.mono (by decide)) (by rfl) T.g_right k_right b_right pass0 (pa_cons (pv 2) pa_nil))))))) (pss_one (ps_ret (by exact pe_bl))) pss_nil))))
    (pss_one (ps_ret (by exact pe_bl))))), ?_⟩
  obtain ⟨a, ns, rfl, hS, hn, hT, k⟩ := h
  refine ⟨_, rfl, _, (ns.map V.int).length, rfl, .inl ⟨_, hS, rfl⟩, 4, (((ns.map V.int).length : Nat) : Int), rfl, 1, _, rfl, _, rfl, ?_, ?_, ?_⟩
  · split <;> split <;> omega
  · rw [List.length_map]
    split <;> split <;> omega
  have hj : ∀ m : Int, (if (if ((((ns.map V.int).length : Nat) : Int)) < 4 then ((((ns.map V.int).length : Nat) : Int)) else 4) > 1 then (if ((((ns.map V.int).length : Nat) : Int)) < 4 then ((((ns.map V.int).length : Nat) : Int)) else 4) else 1) = m → m ≤ 4 := fun m e => by
    rw [← e]
    split <;> split <;> omega
  generalize hm : (if (if ((((ns.map V.int).length : Nat) : Int)) < 4 then ((((ns.map V.int).length : Nat) : Int)) else 4) > 1 then (if ((((ns.map V.int).length : Nat) : Int)) < 4 then ((((ns.map V.int).length : Nat) : Int)) else 4) else 1) = j
  have hj4 := hj j hm
  refine for_it walk_range (fun i σ H' => SqL K H' a (ns.map V.int) ∧ LamX.Tabs (tabs7 K) H' ∧ ∃ v1 v2, σ = [some (.ref a), v1, v2]) ⟨hS, hT, _, _, rfl⟩ (fun _ _ _ _ _ => True.intro) ?_ ?_
  · rintro i x σ H0 H0' hi ⟨hS0, hT0, v1, v2, rfl⟩ y
    obtain ⟨rfl, rfl⟩ := y
    have e0 : (0 : Int) + (i : Nat) = (i : Nat) := Int.zero_add _
    show gName 1 (V.int ((0 : Int) + ((i : Nat) : Int))) _ _ _
    rw [e0]
    refine seq_set ?_
    refine ⟨_, rfl, _, rfl, a, ns, i, rfl, hS0, by omega, by omega, fun p b hp => ?_⟩
    have s1 := (Same.refl H0').new (o := bagB b) hp
    refine ⟨_, rfl, p, rfl, ⟨b, upd_same⟩, hT0.ext s1, fun H2 k2 q2 t2 => ⟨true, rfl, ifF rfl ⟨_, rfl, p, rfl, q2, t2, fun H3 k3 q3 t3 => ⟨true, rfl, ifF rfl ?_⟩⟩⟩⟩
    refine ⟨sqL_ext hS0 fun b o h nt => ?_, t3, _, _, rfl⟩
    have nb : b ≠ p := fun z => by
      rw [z, hp] at h
      cases h
    exact k3 b o nb (k2 b o nb (s1 b o h) nt) nt
  · rintro σ H0 ⟨hS0, hT0, v1, v2, rfl⟩
    exact k _
end
end K7
set_option maxHeartbeats 4000000
namespace K7
open PySem PySem.Spec PyProof.Rows L2 He Hx Hy PO RunX PB NKx MetX
theorem code_ref {K : PySem.W.Frag} {v : Value} {q : Str} (h : PySem.W.codeIn K v q = true) : ∃ c, v = .ref c := by
  unfold PySem.W.codeIn at h
  split at h
  · exact ⟨_, rfl⟩
  · cases h
theorem hd_shape {K : PySem.W.Frag} {c P : Addr} (h : PySem.W.codeHdIn K c P = true) : ∃ e dd vs sl, K.lookup c = some ⟨e, dd, .fields vs, sl⟩ ∧ vs[11]? = some (.ref P) := by
  unfold PySem.W.codeHdIn at h
  split at h
  · rename_i dd vs sl hk
    simp only [Bool.and_eq_true] at h
    obtain ⟨⟨⟨⟨⟨e1, _⟩, _⟩, _⟩, _⟩, _⟩ := h
    split at e1
    · rename_i P' h11
      have hP : P' = P := beq_iff_eq.mp e1
      subst hP
      exact ⟨_, _, _, _, hk, h11⟩
    · cases e1
  · cases h
theorem lam_tab {K : PySem.W.Frag} {h : Heap} {mg : Str → Option Value} {y : Str} {params : Arguments} {body : List Stmt} {scope : Scope} {fd : FuncData} (F : FunD K y y params body scope [] [] (ga K y) fd) (g : mg y = some (.ref (ga K y))) (ck2 : PySem.W.codeHdIn K (lawCode y K) (lawTab y K) = true)
    (own : ∃ fb : Addr, mg y = some (.ref fb) ∧ LamX.OwnTab K fb h) : h.get? (lawTab y K) = some { cls := .none, data := .fields #[] } := by
  obtain ⟨fb, hfb, own⟩ := own
  have e := hfb.symm.trans g
  cases e
  obtain ⟨oc, od, dV, kV, doc, pm, an, cdv, ct, osl, hfd, lk, hcd, _, _⟩ := F.ex
  obtain ⟨c0, hc0⟩ := code_ref hcd
  have hcode : fd.code = .ref c0 := by
    rw [hfd]
    exact hc0
  have e1 : lawCode y K = c0 := by
    unfold lawCode
    have lk' : K.lookup (ga K y) = some ⟨oc, od, .func fd, osl⟩ := lk
    rw [lk']
    simp only [hcode]
  obtain ⟨e2, dd, vs, sl, q1, q2⟩ := hd_shape ck2
  exact own c0 (lawTab y K) _ fd e2 dd vs sl lk rfl hcode (by rw [← e1]; exact q1) q2
theorem facts {l : PySem.W.OpenLaw} {w : World} {K : PySem.W.Frag} {h : Heap} {mg : Str → Option Value} {fa : Addr} (X : K.In h) (G : h.Ns mainGlobals mg) (hfa : mg ("law" : Str) = some (.ref fa)) (c : SaysY ck fn K) (own : ∀ y ∈ lamN, ∃ fb : Addr, mg y = some (.ref fb) ∧ LamX.OwnTab K fb h) :
    LamX.LawL l w K CX0 13 63 "script" mg fa h := by
  have T : Tx K mg := tx_of X G c
  have e := hfa.symm.trans T.g_law
  cases e
  obtain ⟨fd, F⟩ := T.fn_law
  obtain ⟨fdr, Fr⟩ := T.fn_right
  obtain ⟨fdd, Fd⟩ := T.fn_double_circles
  have lm : ∀ x ∈ lamN, K.lookup (lawTab x K) = none ∧ PySem.W.codeHdIn K (lawCode x K) (lawTab x K) = true := fun x hx => by
    obtain ⟨k1, k2⟩ := ba (List.all_eq_true.mp (c.fact 13 (f := fun K => lamN.all fun x => (K.lookup (lawTab x K)).isNone && PySem.W.codeHdIn K (lawCode x K) (lawTab x K)) rfl) x hx)
    exact ⟨Option.isNone_iff_eq_none.mp k1, k2⟩
  have m1 : ("_law_right" : Str) ∈ lamN := memb (by decide +kernel)
  have m2 : ("double_circles" : Str) ∈ lamN := memb (by decide +kernel)
  have ne : lawTab "_law_right" K ≠ lawTab "double_circles" K := by
    have z : (lamN.map fun x => lawTab x K).Nodup := of_decide_eq_true (c.fact 18 (f := fun K => decide ((lamN.map fun x => lawTab x K).Nodup)) rfl)
    have z : [lawTab "_law_right" K, lawTab "double_circles" K].Nodup := z
    exact fun q => (List.nodup_cons.mp z).1 (by rw [q]; exact List.mem_singleton.mpr rfl)
  have hb2 : ∀ (s : Shared) (u : Value), BindsTo s fd ⟨[u], []⟩ [("script", u)] := by
    rcases F.ex with ⟨oc, od, dV, kV, doc, pm, an, cdv, ct, osl, hfd, lk, hcd, hD, hK⟩
    rcases hD with ⟨_, rfl⟩ | ⟨z, _⟩
    · subst hfd
      exact fun s u => .of_eq rfl
    · exact absurd rfl z
  have al : ∀ (A : Addr × Addr → Prop), A (lawCode "_law_right" K, lawTab "_law_right" K) → A (lawCode "double_circles" K, lawTab "double_circles" K) → ∀ q ∈ [(lawCode "_law_right" K, lawTab "_law_right" K), (lawCode "double_circles" K, lawTab "double_circles" K)], A q := fun A a b q hq => by
    rcases List.mem_cons.mp hq with z | z
    · rw [z]
      exact a
    · rw [List.mem_singleton.mp z]
      exact b
  refine ⟨fd, [(lawCode "_law_right" K, lawTab "_law_right" K), (lawCode "double_circles" K, lawTab "double_circles" K)], spLaw K, al _ (lam_tab Fr T.g_right (lm _ m1).2 (own _ m1)) (lam_tab Fd T.g_double_circles (lm _ m2).2 (own _ m2)), al _ (lm _ m1).1 (lm _ m2).1, al _ (PySem.W.codeHd_of_K X (lm _ m1).2) (PySem.W.codeHd_of_K X (lm _ m2).2), hb2, fun H a ns hn _ hP hS => ⟨a, ns, rfl, hS, hn, fun p hp => ?_, fun _ => rfl⟩, fun base KB GB TB => ok_law T ne (TB _ List.mem_cons_self) (TB _ (List.mem_cons_of_mem _ List.mem_cons_self)) Fr F⟩
  rcases List.mem_cons.mp (show p ∈ tabs7 K from hp) with z | z
  · rw [z]
    exact LamX.TabS.nil (hP _ List.mem_cons_self)
  · rw [List.mem_singleton.mp z]
    exact LamX.TabS.nil (hP _ (List.mem_cons_of_mem _ List.mem_cons_self))
end K7
set_option maxHeartbeats 0
open PySem PySem.W PySem.Calls PyProof.Rows
theorem PySem.Challenge.cw_manymarks_k79_errors_of_paths_holds : PySem.Challenge.rw_manymarks_k79_errors_of_paths.Holds := by
  w_on; o_law
  refine HandSHeadRun.head_any (r := OpenLaw.row PySem.Challenge.rw_manymarks_k79_errors_of_paths) (q := view (OpenLaw.row PySem.Challenge.rw_manymarks_k79_errors_of_paths).prog [108, 146, 147]) (H := K7.hk) (ob := K7.ob) (M := 20000) (loose := K7.lo) (d := HandSHeadRun.topDef (OpenLaw.row PySem.Challenge.rw_manymarks_k79_errors_of_paths).prog 147) (kwd := []) K7.ob_eq
    (by kernel_rfl) (fun s => by kernel_rfl) K7.run (by kernel_rfl) (by kernel_rfl) (by kernel_rfl) (by rfl) (by first | assumption | decide +kernel) (by decide +kernel) ⟨rfl, rfl, rfl, rfl, rfl, by decide +kernel⟩ ?hw ?hc
  case hw => w_witness2
  case hc =>
    refine LamX.walk_ofOwnL (l := PySem.Challenge.rw_manymarks_k79_errors_of_paths) (n := 63) (k := 13) (x := "script") (ys := K7.lamN) (CX := fun _ => L2.CX0) rfl (by decide) (by kernel_rfl) ⟨rfl, by decide, by decide⟩ (by decide +kernel) ?F (fun _ _ _ _ _ z => z)
    intro w mg fa h Y G hmg0
    obtain ⟨K, KX, c⟩ := Y
    have hmg : mg ("law" : PySem.Str) = some (.ref fa) := by
      have e : (HandSHeadRun.topDef (OpenLaw.row PySem.Challenge.rw_manymarks_k79_errors_of_paths).prog 147).name = ("law" : PySem.Str) := by kernel_rfl
      rw [← e]
      exact hmg0
    exact ⟨K, KX, fun own => K7.facts KX G hmg c own⟩
